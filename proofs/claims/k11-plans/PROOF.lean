import PyProof.Rows.All
import Wide.All
import OpenK.AllK
import Wide.FinOn
import KE.KStateDown
import Lean
import HandS.ForMost
import HandS.Exc
import HandS.ExcOwn
import HandS.ExcSuper
import HandS.ExcIs
import HandS.TryOnly
import HandS.WordsExc
import HandS.Defaults
import HandS.MakeKw
import HandS.MakeKwOnly
import HandS.More
import HandS.Star
import HandS.IsInst
import HandS.FStr
import HandS.Wide
import HandS.OwnEq
import HandS.SlotsOwn
import HandS.Evl
import HandS.Head0
import HandS.Head1
import HandS.Head2
import HandS.HeadEnd
import HandS.HeadHook1
import HandS.HeadHook2
import HandS.HeadHook3
import HandS.HeadHook4
import HandS.ExcInit
import HandS.ExcField
import KE.KExcSuper
import KE.KSuper
import HandS.Deep
import HandS.DictTup
import KE.KDictKeyed
import KE.KDictItemsList
import HandS.Conv
import HandS.Codes
import HandS.Walk
import HandS.RaiseMore
import HandS.TupAny
import KE.KEqNest
import HandS.DictEq
import HandS.Zip
import HandS.TupMul
import HandS.HotCalls
import KE.KExcIs
import KE.GoesEnum
import KE.GoesMore
import HandS.ExcInitHot
import HandS.RaiseFrom
import HandS.SuiteRaise
import HandS.ExcCtx
import HandS.Style
import HandS.TupLen
import PySem.Challenge.RW_lostleast_k11_plans
set_option Elab.async false
set_option linter.all false
set_option maxRecDepth 100000
set_option maxHeartbeats 0
set_option exponentiation.threshold 20000
/-! an exception class of the program's whose __init__ says super().__init__(text); self.f = x -/
namespace SupX
open PySem PySem.W PySem.Calls PyProof.Rows PySem.Spec
section
variable {P : Program} {w : World} {A : Around} {h : Heap} {g : Array GenState} {d : Drawn} {t : Nat} {os : OsState} {K : Frag} {mg mb : Str → Option Value}
variable {C fI cc cda e t0 : Addr} {f x : Str} {v : Value} {oc ccl cl : Value} {od cdd cld : Option Addr} {osl ccs csl : Array (Option Value)} {vs : Array Value} {file : Str} {tf : Tok}
variable {name qual : Str} {params : Arguments} {body : List Stmt} {scope : Scope} {dV kV doc pm ct : Value} {an : Option Addr} {ar : Arg}
variable {p0 p1 p2 p3 p4 p5 p6 p7 p8 p9 : Pos} {txt : Str} {ck : Nat}
theorem init_run {R : Result → Shared → Prop} (hroom : A.depth < recursionLimit) (X : K.In h) (hlim : h.NoLimit) (G : h.Ns mainGlobals mg) (hms : mg "super" = none) (B : h.Ns builtinsNs mb) (hbs : mb "super" = some (.type "super"))
    (T : L2.OexC K C) (lk : K.lookup fI = some ⟨oc, od, .func (ksFn name qual params body scope dV kV doc pm an (.ref cda) ct cc), osl⟩) (hcd : codeIn K (.ref cda) qual = true)
    (hcode : K.lookup cda = some ⟨ccl, cdd, .fields vs, ccs⟩) (hvs : vs[2]? = some (.str file tf)) (hfile : ((P.main.file : Str) == file) = true) (hcell : K.lookup cc = some ⟨cl, cld, .cell (some (.ref C)), csl⟩)
    (hsup : ks_superIn K C C "__init__" = some (some (.builtin "ValueError.__init__"))) (hsub : mroIn K C (.ref C) = some true) (hVE : subIn K (.ref C) (.type "ValueError") = some true) (hany : nsIn K cStatics "thirdparty.any" = some none)
    (hf : findIn K (.ref C) f = some none) (hcls : ∃ oC cd, h.get? C = some oC ∧ oC.data = .cls cd)
    (htop : (P.main.scope.names.lookup ("super" : Str)).isSome = false)
    (hb : ∀ s : Shared, BindsTo s (ksFn name qual params body scope dV kV doc pm an (.ref cda) ct cc) ⟨[.ref e, v], []⟩ [("self", .ref e), (x, v)])
    (hp : (params.posonlyargs ++ params.args).head? = some ar) (har : ar.arg = ("self" : Str))
    (hbody : body = [.Expr (.Call (.Attribute (.Call (.Name "super" p0) [] [] p1) "__init__" p2) [.Constant (.str txt) ck p3] [] p4) p5, .Assign [.Attribute (.Name "self" p6) f p7] (.Name x p8) p9])
    (sk : scope.kind = .function) (sco : scope.isCoroutine = false) (sge : scope.isGenerator = false) (ss : scope.names.lookup ("super" : Str) = some .globalImplicit) (sc : scope.names.lookup ("__class__" : Str) = some .free)
    (sl : scope.names.lookup ("self" : Str) = some .local) (sx : scope.names.lookup x = some .local) (scell : ∀ y ∈ scope.names, y.2 ≠ .cell) (hxs : ¬ x = ("self" : Str)) (hxd : (x == ("__debug__" : Str)) = false)
    (k1 : ∀ L, interactive (ksEnv qual scope L fI (.ref cda) cc) = false)
    (k2 : ∃ pl : Sem Bool, ∀ L, eval (.Call (.Attribute (.Call (.Name "super" p0) [] [] p1) "__init__" p2) [.Constant (.str txt) ck p3] [] p4) (ksEnv qual scope L fI (.ref cda) cc) = (do
      let ov ← attributeBase (.Call (.Name "super" p0) [] [] p1) "__init__" (ksEnv qual scope L fI (.ref cda) cc) (eval (.Call (.Name "super" p0) [] [] p1) (ksEnv qual scope L fI (.ref cda) cc))
      standAt p2.atName
      let (f, first) ← holding [ov] (getMethod ov "__init__" pl)
      callWith p4 f first (backTo p4 (starEach [.Constant (.str txt) ck p3] (ksEnv qual scope L fI (.ref cda) cc))) []))
    (k3 : ∀ L, swapsWith (.Call (.Attribute (.Call (.Name "super" p0) [] [] p1) "__init__" p2) [.Constant (.str txt) ck p3] [] p4) none p5.line (ksEnv qual scope L fI (.ref cda) cc) = pure false)
    (k4 : ∀ L, swapsWith (.Name x p8) (some (.Attribute (.Name "self" p6) f p7)) p9.line (ksEnv qual scope L fI (.ref cda) cc) = pure false)
    (he : h.get? e = some (HandSPX.excO C t0)) (hKe : ∀ o, K.lookup e ≠ some o)
    (hq : ∀ h' t' dx t1, (∀ b o, b ≠ e → h.get? b = some o → h'.get? b = some o) → h.objs.size ≤ dx → dx ≠ e → h'.get? e = some { cls := .ref C, dict := some dx, data := .fields #[.ref t1, .none, .none, .none, .bool false, .none] } →
      h'.Ns1 dx (fun y => if y = f then some v else none) → R (.ok (.ret .none)) ⟨h', g, d, t', os⟩) :
    codeAny (model P w) A (.call (.ref fI) ⟨[.ref e, v], []⟩) R ⟨h, g, d, t, os⟩ := by
  have hloc : ∀ y ∈ [(("self" : Str), Value.ref e), (x, v)], scope.names.lookup y.1 = some .local := by
    intro y hy
    simp only [List.mem_cons, List.not_mem_nil, or_false] at hy
    rcases hy with rfl | rfl
    · exact sl
    · exact sx
  refine ks_codeAny_call_defAt (body := body) hroom (X _ _ lk) rfl hlim (codeRec_of X hcd) rfl (hb _) scell hloc (fun h0 hns k0 => ?_) sco sge sk
  subst hbody
  have X0 : K.In h0 := X.keeps k0
  have eC := k0 _ _ he
  obtain ⟨oC, cdC, hC1, hC2⟩ := hcls
  have hnL : h0.Ns h.objs.size (fun y => [(("self" : Str), Value.ref e), (x, v)].reverse.lookup y) := hns
  have em : ∀ y, [(("self" : Str), Value.ref e), (x, v)].reverse.lookup y = if y = x then some v else if y = ("self" : Str) then some (.ref e) else none := by
    intro y
    show [(x, v), (("self" : Str), Value.ref e)].lookup y = _
    by_cases h1 : y = x
    · subst h1; simp [List.lookup]
    · have e1 : (y == x) = false := by simpa using h1
      rw [if_neg h1]
      by_cases h2 : y = ("self" : Str)
      · subst h2; simp [List.lookup, e1]
      · have e2 : (y == ("self" : Str)) = false := by simpa using h2
        rw [if_neg h2]
        simp [List.lookup, e1, e2]
  have hns1 : h0.Ns h.objs.size (fun y => if y = x then some v else if y = ("self" : Str) then some (.ref e) else none) := by
    have := hnL
    rw [show (fun y => [(("self" : Str), Value.ref e), (x, v)].reverse.lookup y) = _ from funext em] at this
    exact this
  have hself : (fun y => if y = x then some v else if y = ("self" : Str) then some (Value.ref e) else none) ("self" : Str) = some (.ref e) := by
    show (if ("self" : Str) = x then _ else _) = _
    rw [if_neg (fun z => hxs z.symm), if_pos rfl]
  have hxv : (fun y => if y = x then some v else if y = ("self" : Str) then some (Value.ref e) else none) x = some v := if_pos rfl
  obtain ⟨pl, hpl⟩ := k2
  have hLe : h.objs.size ≠ e := Nat.ne_of_gt (Heap.lt_size he)
  refine ks_wpAt_execs_cons (ks_wpAt_Expr_any (ks_wpAt_MethodCall (pl := pl) ?_ (hpl _)) (k1 _) (k3 _))
  · refine ks_wpAt_super_base (env := callEnv (ksFn name qual params _ scope dV kV doc pm an (.ref cda) ct cc) h.objs.size fI) ss sc (by decide) rfl (X0 _ _ lk) rfl hp rfl (X0 _ _ hcode) rfl hvs hfile htop ?_
    refine ks_loadName_global sk ss (loadGlobal_builtin (G.keeps k0) hms (B.keeps k0) hbs ⟨rfl, ?_⟩)
    refine wpAny_loadName_free sk sc (c := cc) (v := .ref C) rfl ⟨_, X0 _ _ hcell, rfl⟩ ?_
    rw [har]
    refine wpAny_loadName_local sk sl hns1 (v := .ref e) hself ?_
    refine ks_wpAny_isType_cls (k0 _ _ hC1) hC2 ⟨rfl, ?_⟩
    refine ks_wpAny_call_super (k0 _ _ hC1) hC2 eC rfl (fun c z => nomatch z) (looks_mroIn X0 hsub) fun h1 hso k1' => ?_
    have X1 : K.In h1 := X0.keeps k1'
    have e1 := k1' _ _ eC
    have ns1 := hns1.keeps k1'
    -- the method
    have I1 : InstAt h1 e (HandSPX.excO C t0) C none := ⟨e1, rfl, rfl, trivial⟩
    have hI : Looks (model P w) h1 (isInstance (.ref e) (.type "ValueError")) true := I1.type.andThen (looks_subIn X1 hVE)
    cases hc : clsIn K C with
    | none => unfold ks_superIn at hsup; rw [hc] at hsup; cases hsup
    | some cd =>
      have hsup' := hsup
      unfold ks_superIn at hsup'
      rw [hc] at hsup'
      refine kxs_getMethod kxs_ValueError hso (looks_opaque X1 hany) (l₀ := cd.mro) ?_ rfl X1 hsup' hI (ks_ne X1 I1 hc) (by decide) ?_
      · exact fun A Q E s k q => wpAny_bind ((looks_clsIn X1 hc) A _ E s k (wpAny_pure q))
      -- the call
      have k2 : ∀ b o, h1.get? b = some o → (h1.push (kxs_mw "ValueError.__init__" e)).get? b = some o := fun b o z => Heap.get?_push_of_some _ z
      have hmw : (h1.push (kxs_mw "ValueError.__init__" e)).get? h1.objs.size = some (kxs_mw "ValueError.__init__" e) := Heap.get?_push_size _ rfl
      refine kxs_callWith (i := "ValueError.__init__") (x := e) rfl (evalArgs_plain ?_)
      refine spliced_cons (Constant_str (k := ck) (pos := p3) (spliced_nil ⟨hmw, ?_⟩))
      obtain ⟨nm, q, N, bs, bm, sn, sub, ab, col, dd, z0, z1, z2, z3, z5, hCl, hbm⟩ := T.cls
      have FB := F.excBase_ValueError
      have X2 : K.In (h1.push (kxs_mw "ValueError.__init__" e)) := X1.keeps k2
      have e2 := k2 _ _ e1
      have ns2 := ns1.keeps k2
      have k02 : ∀ b o, h.get? b = some o → (h1.push (kxs_mw "ValueError.__init__" e)).get? b = some o := fun b o z => k2 b o (k1' b o (k0 b o z))
      generalize h1.push (kxs_mw "ValueError.__init__" e) = h2 at X2 e2 ns2 k02 hmw ⊢
      refine wpAny_call (codeAny_of_tree ?_)
      show wpAny _ _ (callAny (.ref h1.objs.size) ⟨_, []⟩) _ _ _
      simp only [callAny]
      refine wpAny_bind (wpAny_load hmw ?_)
      simp only [kxs_mw, show (Value.type "method-wrapper" == Value.type "method" || Value.type "method-wrapper" == Value.type "builtin_function_or_method" || Value.type "method-wrapper" == Value.type "method-wrapper") = true by decide, if_true]
      refine KFB.if_so (by decide) ?_
      refine wpAny_bind (check_bound_init FB.toExcCallFacts (X2 _ _ hCl) e2 rfl ?_)
      refine wpAny_bind (wpAny_pure (wpAny_pure ?_))
      refine ⟨plainId_quiet FB.init.plain _, codeAny_builtin FB.initEntry ?_⟩
      refine exc_init_tree (cls := .ref C) (t0 := t0) (dv := none) (c2 := .none) (c3 := .none) (b4 := .bool false) e2 (by show 1 ≤ sizeLine; decide) fun h3 kk3 e3 _ => ?_
      -- self.f = x
      have X3 : K.In h3 := fun b o z => by
        refine kk3 b o (fun y => ?_) (X2 _ _ z)
        subst y
        exact hKe o z
      have ns3 : h3.Ns h.objs.size _ := let ⟨oL, es, ep, hL, r⟩ := ns2; ⟨oL, es, ep, kk3 _ _ hLe hL, r⟩
      have k03 : ∀ b o, b ≠ e → h.get? b = some o → h3.get? b = some o := fun b o y z => kk3 b o y (k02 b o z)
      refine wpAt_of_wpAny (wpAny_execs_cons (plainObj_wpAny_Assign_Attribute ?_ (k4 _)))
      refine wpAny_Name (wpAny_loadName_local sk sx ns3 (v := v) hxv ?_) hxd
      refine wpAny_Name (wpAny_loadName_local sk sl ns3 (v := .ref e) hself ?_) (by decide)
      refine set_plain (ox := { cls := .ref C, data := .fields #[.ref h2.objs.size, .none, .none, .none, .bool false, .none] }) (od := none) X3 ⟨e3, rfl, rfl, trivial⟩ T.sa ?_
      have hcl : clsIn K C = some { name := nm, bases := bs, mro := .ref C :: bm, ns := N, qualname := q, hasDict := true, slotNames := sn, subclasses := sub, abstract := ab, collection := col, hasDel := false } := by unfold clsIn; rw [hCl] <;> rfl
      refine HandSPX.exc_osa X3 e3 hcl (show HandSPX.refsVE (.ref C :: bm) = true from hbm) rfl hf fun h4 t4 dx kk4 dn dne e4 ns4 => ?_
      refine wpAny_execs_nil (hq h4 _ dx _ (fun b o y z => kk4 b o y (k03 b o y z)) (Nat.le_trans ?_ dn) dne e4 ns4)
      obtain ⟨oL, es, ep, hL, r⟩ := ns3
      exact Nat.le_of_lt (Heap.lt_size hL)
end
/-! ### what is asked of the written part -/
def oexB (K : Frag) (C : Addr) : Bool := match K.lookup C with
  | some ⟨.type "type", _, .cls cd, sl⟩ => (match cd.mro, sl.toList with
    | .ref C' :: bm, [_, _, _, _, some (.builtin n), _] => C' == C && n == "ValueError.__new__" && !cd.hasDel && cd.hasDict && HandSPX.refsVE bm
    | _, _ => false)
  | _ => false
theorem oexB_ok {K : Frag} {C : Addr} (q : oexB K C = true) : ∃ nm q N bs bm sn sub ab col dd k0 k1 k2 k3 k5, K.lookup C = some (excClassObj nm q C N bs bm true sn sub ab col dd k0 k1 k2 k3 k5 "ValueError.__new__") ∧ HandSPX.refsVE bm = true := by
  unfold oexB at q
  split at q
  · rename_i dd cd sl ho
    split at q
    · rename_i C' bm k0 k1 k2 k3 n k5 hm hs
      simp only [Bool.and_eq_true, beq_iff_eq, Bool.not_eq_true'] at q
      obtain ⟨⟨⟨⟨rfl, rfl⟩, hdel⟩, hdi⟩, ht⟩ := q
      obtain ⟨nm, bs, mro, ns, qn, hd, sn, sub, ab, col, del⟩ := cd
      dsimp only at hm hdel hdi
      subst hm hdel hdi
      have hsl : sl = #[k0, k1, k2, k3, some (.builtin "ValueError.__new__"), k5] := by
        obtain ⟨l⟩ := sl
        simp only at hs
        rw [hs]
      subst hsl
      exact ⟨nm, qn, ns, bs, bm, sn, sub, ab, col, dd, k0, k1, k2, k3, k5, ho, ht⟩
    · cases q
  · cases q
abbrev FnZ : Type := Option (Str × Str × Arguments × FuncBody × Scope × Addr × List Str × Addr)
/-- the class's __init__, as it is written -/
def fz (K : Frag) (C : Addr) : FnZ := match findIn K (.ref C) "__init__" with
  | some (some (.ref fI)) => (match K.lookup fI with
    | some ⟨_, _, .func fd, _⟩ => some (fd.name, fd.qualname, fd.params, fd.body, fd.scope, fd.globals, fd.closure.map (·.1), fd.builtins)
    | _ => none)
  | _ => none
/-- the rest of what is asked of the function at fI -/
def fnB (file : Str) (K : Frag) (C fI : Addr) : Bool := match K.lookup fI with
  | some ⟨_, _, .func fd, _⟩ => (match fd.closure, fd.code, fd.defaults with
    | [(_, cc)], .ref cda, .none => codeIn K (.ref cda) fd.qualname && ((match K.lookup cda with
      | some ⟨_, _, .fields vs, _⟩ => (match (vs[2]? : Option Value) with
        | some (Value.str fl _) => file == fl
        | _ => false)
      | _ => false) && (match K.lookup cc with
      | some ⟨_, _, .cell (some (.ref C')), _⟩ => C' == C
      | _ => false))
    | _, _, _ => false)
  | _ => false
def eqT {α : Type} [DecidableEq α] (a b : α) : Bool := decide (a = b)
def eqV : Option (Option Value) → Option (Option Value) → Bool
  | none, none => true
  | some none, some none => true
  | some (some a), some (some b) => a == b
  | _, _ => false
def supB (file : Str) (K : Frag) (C : Addr) (f : Str) : Bool := oexB K C && ((match findIn K (.ref C) "__init__" with
  | some (some (.ref fI)) => fnB file K C fI && (typeIn K (.ref fI) == some (.type "function"))
  | _ => false) && ((match findIn K (.ref C) "__setattr__" with
  | some (some (.builtin n)) => n == "object.__setattr__"
  | _ => false) && ((subIn K (.ref C) (.type "BaseException") == some true) && ((typeIn K (.ref C) == some (.type "type")) && (keepIn K (.ref C) && ((match ks_superIn K C C "__init__" with
  | some (some (.builtin n)) => n == "ValueError.__init__"
  | _ => false) && ((mroIn K C (.ref C) == some true) && ((subIn K (.ref C) (.type "ValueError") == some true) && ((match nsIn K cStatics "thirdparty.any" with
  | some none => true
  | _ => false) && (match findIn K (.ref C) f with
  | some none => true
  | _ => false))))))))))
/-- a class whose __init__(self, x) says super().__init__(text); self.f = x -/
structure SupC (P : Program) (K : Frag) (C : Addr) (f : Str) : Prop where
  oex : L2.OexC K C
  fn : ∃ fI, findIn K (.ref C) "__init__" = some (some (.ref fI)) ∧ typeIn K (.ref fI) = some (.type "function") ∧ ∀ (w : World) (A : Around) (h : Heap) (g : Array GenState) (d : Drawn) (t : Nat) (os : OsState) (mg mb : Str → Option Value) (e t0 : Addr) (v : Value) (R : Result → Shared → Prop),
    A.depth < recursionLimit → K.In h → h.NoLimit → h.Ns mainGlobals mg → mg "super" = none → h.Ns builtinsNs mb → mb "super" = some (.type "super") → h.get? e = some (HandSPX.excO C t0) → (∀ o, K.lookup e ≠ some o) →
    (∀ h' t' dx t1, (∀ b o, b ≠ e → h.get? b = some o → h'.get? b = some o) → h.objs.size ≤ dx → dx ≠ e → h'.get? e = some { cls := .ref C, dict := some dx, data := .fields #[.ref t1, .none, .none, .none, .bool false, .none] } →
      h'.Ns1 dx (fun y => if y = f then some v else none) → R (.ok (.ret .none)) ⟨h', g, d, t', os⟩) → codeAny (model P w) A (.call (.ref fI) ⟨[.ref e, v], []⟩) R ⟨h, g, d, t, os⟩
theorem sup_of {P : Program} {K : Frag} {C : Addr} {f x : Str} {name qual : Str} {params : Arguments} {body : List Stmt} {scope : Scope} {ar : Arg} {p0 p1 p2 p3 p4 p5 p6 p7 p8 p9 : Pos} {txt : Str} {ck : Nat}
    (sb : supB P.main.file K C f = true) (ez : fz K C = some (name, qual, params, FuncBody.stmts body, scope, mainGlobals, [("__class__" : Str)], builtinsNs))
    (htop : (P.main.scope.names.lookup ("super" : Str)).isSome = false)
    (hb : ∀ (cl : List (Str × Addr)) (kV doc pm : Value) (an : Option Addr) (cdv ct : Value) (a b : Value), bindArgs (fnX name qual params body scope cl .none kV doc pm an cdv ct) ⟨[a, b], []⟩ = pure [(("self" : Str), a), (x, b)])
    (hp : (params.posonlyargs ++ params.args).head? = some ar) (har : ar.arg = ("self" : Str))
    (hbody : body = [.Expr (.Call (.Attribute (.Call (.Name "super" p0) [] [] p1) "__init__" p2) [.Constant (.str txt) ck p3] [] p4) p5, .Assign [.Attribute (.Name "self" p6) f p7] (.Name x p8) p9])
    (sk : scope.kind = .function) (sco : scope.isCoroutine = false) (sge : scope.isGenerator = false) (ss : scope.names.lookup ("super" : Str) = some .globalImplicit) (sc : scope.names.lookup ("__class__" : Str) = some .free)
    (sl : scope.names.lookup ("self" : Str) = some .local) (sx : scope.names.lookup x = some .local) (scell : ∀ y ∈ scope.names, y.2 ≠ .cell) (hxs : ¬ x = ("self" : Str)) (hxd : (x == ("__debug__" : Str)) = false)
    (k1 : ∀ L fI cdv cc, interactive (ksEnv qual scope L fI cdv cc) = false)
    (k2 : ∃ pl : Sem Bool, ∀ L fI cdv cc, eval (.Call (.Attribute (.Call (.Name "super" p0) [] [] p1) "__init__" p2) [.Constant (.str txt) ck p3] [] p4) (ksEnv qual scope L fI cdv cc) = (do
      let ov ← attributeBase (.Call (.Name "super" p0) [] [] p1) "__init__" (ksEnv qual scope L fI cdv cc) (eval (.Call (.Name "super" p0) [] [] p1) (ksEnv qual scope L fI cdv cc))
      standAt p2.atName
      let (f, first) ← holding [ov] (getMethod ov "__init__" pl)
      callWith p4 f first (backTo p4 (starEach [.Constant (.str txt) ck p3] (ksEnv qual scope L fI cdv cc))) []))
    (k3 : ∀ L fI cdv cc, swapsWith (.Call (.Attribute (.Call (.Name "super" p0) [] [] p1) "__init__" p2) [.Constant (.str txt) ck p3] [] p4) none p5.line (ksEnv qual scope L fI cdv cc) = pure false)
    (k4 : ∀ L fI cdv cc, swapsWith (.Name x p8) (some (.Attribute (.Name "self" p6) f p7)) p9.line (ksEnv qual scope L fI cdv cc) = pure false) : SupC P K C f := by
  simp only [supB, Bool.and_eq_true, beq_iff_eq] at sb
  obtain ⟨b1, b2, b3, b4, b5, b6, b7, b8, b9, b10, b11⟩ := sb
  have hcls := oexB_ok b1
  have T : L2.OexC K C := by
    refine ⟨hcls, ?_, b4, b5, b6⟩
    split at b3
    · rename_i n hn
      rw [hn, beq_iff_eq.mp b3]
    · cases b3
  have hsup : ks_superIn K C C "__init__" = some (some (.builtin "ValueError.__init__")) := by
    split at b7
    · rename_i n hn
      rw [hn, beq_iff_eq.mp b7]
    · cases b7
  have hany : nsIn K cStatics "thirdparty.any" = some none := by
    split at b10
    · assumption
    · cases b10
  have hf : findIn K (.ref C) f = some none := by
    split at b11
    · assumption
    · cases b11
  split at b2
  case h_2 => cases b2
  rename_i fI hfI
  obtain ⟨c1, c2⟩ := Bool.and_eq_true_iff.mp b2
  have hty : typeIn K (.ref fI) = some (.type "function") := beq_iff_eq.mp c2
  refine ⟨T, fI, hfI, hty, fun w A h g d t os mg mb e t0 v R hroom X hlim G hms B hbs he hKe hq => ?_⟩
  unfold fz at ez
  rw [hfI] at ez
  dsimp only at ez
  unfold fnB at c1
  cases lk : K.lookup fI with
  | none => rw [lk] at c1; cases c1
  | some o =>
    obtain ⟨oc, od, dt, osl⟩ := o
    rw [lk] at c1 ez
    cases dt with
    | func fd =>
      obtain ⟨n1, n2, n3, n4, n5, n6, n7, n8, n9, n10, n11, n12, n13, n14, n15⟩ := fd
      simp only [Option.some.injEq, Prod.mk.injEq] at ez
      obtain ⟨h1, h2, h3, h4, h5, h6, h7, h8⟩ := ez
      subst h1 h2 h3 h4 h5 h6 h8
      simp only at c1
      split at c1
      case h_2 => cases c1
      rename_i cn cc cda
      simp only [List.map_cons, List.map_nil, List.cons.injEq, and_true] at h7
      subst h7
      simp only [Bool.and_eq_true] at c1
      obtain ⟨d1, d2, d3⟩ := c1
      split at d2
      case h_2 => cases d2
      rename_i q1 q2 vs q3 hcode
      split at d2
      case h_2 => cases d2
      rename_i fl tf hvs
      split at d3
      case h_2 => cases d3
      rename_i r1 r2 C' r3 hcell
      have hCC : C' = C := beq_iff_eq.mp d3
      subst hCC
      obtain ⟨nm, q, N, bs, bm, sn, sub, ab, col, dd, z0, z1, z2, z3, z5, hCl, hbm⟩ := hcls
      exact init_run (x := x) (R := R) hroom X hlim G hms B hbs T lk d1 hcode hvs d2 hcell hsup b8 b9 hany hf ⟨_, _, X _ _ hCl, rfl⟩ htop (fun s => BindsTo.of_eq (hb _ _ _ _ _ _ _ _ _)) hp har hbody sk sco sge ss sc sl sx scell hxs hxd (fun L => k1 L _ _ _)
        (let ⟨pl, z⟩ := k2; ⟨pl, fun L => z L _ _ _⟩) (fun L => k3 L _ _ _) (fun L => k4 L _ _ _) he hKe hq
    | _ => cases c1
end SupX
namespace L2
open PySem PySem.Spec PyProof.Rows
/-- C(e) raised: the exception's field f is the value -/
def tMkS (C : Addr) (f : Str) (ta : TA) : L2.St → Hp → XK → Prop := fun σ H Q => ta σ H fun vs H1 => ∃ y, vs = [y] ∧ ∀ d, H1 d = none → Q (.ref C) (some d) (upd H1 d (.xd [(f, y)]))
section
variable {X : Cx} {e : Expr} {p pos : Pos} {ta : TA} {x f : Str} {C : Addr}
theorem pmk_sup (T : SupX.SupC X.prog X.K C f) (hms : X.mg "super" = none) (hr : Room 2 X.A) (hg : Gl X x) (hm : X.mg x = some (.ref C)) (ha : PA X [e] ta)
    (hdb : (x == ("__debug__" : Str)) = false := by decide) (he : starEach [e] X.env = (false, eval e X.env) :: starEach [] X.env := by rfl) (hpl : (backTo pos (starEach [] X.env)).any (·.1) = false := by rfl) :
    PMk X (.Call (.Name x p) [e] [] pos) (tMkS C f ta) := by
  intro pins s σ H Q I h
  obtain ⟨nm, q, N, bs, bm, sn, sub, ab, col, dd, k0, k1, k2, k3, k5, hC, hbm⟩ := T.oex.cls
  obtain ⟨fI, iC, tI, RUN⟩ := T.fn
  refine wpAny_Call_Name_kw (ld_glob I hg hm ?_ hdb)
  refine PySem.W.callWith_K (h₀ := X.base) I.ok.mod.kin T.oex.kC (thn (ha.run pos pins s σ H _ I h) fun us s1 ⟨vs, H1, I1, r1, y, ev, q1⟩ => ⟨I1.kIn, ?_⟩) he hpl
  subst ev
  obtain ⟨u, rfl, ry⟩ := vals1 r1
  show wpAny _ _ (call (.ref C) [u]) _ _ _
  obtain ⟨mb, hmb, hbl⟩ := I1.ok.mod.blt
  have G1 := I1.ok.mod.glob.keeps I1.bk
  have B1 := hmb.keeps I1.bk
  have lim := I1.nolimit
  have kb := I1.ok.mod.kin
  have bk := I1.bk
  have hsys := I1.big
  obtain ⟨hp, g, dr, tk, os⟩ := s1
  have hsz : hp.objs.size ≤ hp.objs.size + 1 := Nat.le_succ _
  have hn : H1 (hp.objs.size + 1) = none := I1.hok.fresh hsz
  have kk : ∀ b o, hp.get? b = some o → ((hp.push (PySem.W.kdv_tup [u])).push (PySem.HandSPX.excO C hp.objs.size)).get? b = some o := fun b o e => Heap.get?_push_of_some _ (Heap.get?_push_of_some _ e)
  have hget : ((hp.push (PySem.W.kdv_tup [u])).push (PySem.HandSPX.excO C hp.objs.size)).get? (hp.objs.size + 1) = some (PySem.HandSPX.excO C hp.objs.size) := by heap_get
  have hus : [u].length ≤ sizeLine := by show 1 ≤ sizeLine; decide
  have hKe : ∀ o, X.K.lookup (hp.objs.size + 1) ≠ some o := fun o z => by
    have := Heap.lt_size (bk _ _ (kb _ _ z))
    exact Nat.lt_irrefl _ (Nat.lt_of_succ_lt this)
  refine wpAny_call (PySem.HandSPX.call_own F.excBase_ValueError (fun Y => PySem.HandSPX.refsVE_contains Y bm hbm) (I1.kIn _ _ hC) (PySem.W.looks_findIn I1.kIn iC) (fun self => PySem.W.bind_fn I1.kIn self tI) hus
    (RUN _ _ _ _ _ _ _ X.mg mb _ _ u _ (hr.make C [u] []).depth (fun b o z => kk b o (I1.kIn b o z)) (lim.keeps kk) (G1.keeps kk) hms (B1.keeps kk) ((hbl _ (by decide)).trans (by decide +kernel)) hget hKe fun h2 t2 dx t1 k2 dn dne e2 ns2 => ⟨rfl, ?_⟩))
  have hnd : H1 dx = none := I1.hok.fresh (by
    have : hp.objs.size ≤ dx := by
      have h3 : ((hp.push (PySem.W.kdv_tup [u])).push (PySem.HandSPX.excO C hp.objs.size)).objs.size ≤ dx := dn
      have h4 : hp.objs.size ≤ ((hp.push (PySem.W.kdv_tup [u])).push (PySem.HandSPX.excO C hp.objs.size)).objs.size := Nat.le_of_lt (Nat.lt_of_succ_lt (Heap.lt_size hget))
      exact Nat.le_trans h4 h3
    exact this)
  have dgt : hp.objs.size + 1 < dx := Nat.lt_of_lt_of_le (Heap.lt_size hget) dn
  have old : ∀ {b : Addr} {o : Obj}, hp.get? b = some o → h2.get? b = some o := fun {b o} z => k2 b o (Nat.ne_of_lt (Nat.lt_of_lt_of_le (Heap.lt_size z) hsz)) (kk b o z)
  have oldn : ∀ {b : Addr} {o : Obj}, hp.get? b = some o → b ≠ hp.objs.size + 1 ∧ b ≠ dx := fun {b o} z => by
    have h1 := Heap.lt_size z
    have h2 : b < hp.objs.size + 1 := Nat.lt_of_lt_of_le h1 hsz
    exact ⟨Nat.ne_of_lt h2, Nat.ne_of_lt (Nat.lt_trans h2 dgt)⟩
  have H1n : ∀ {b : Addr}, b ≠ dx → b ≠ hp.objs.size + 1 → (upd (upd H1 dx (exd dx [(f, y)])) (hp.objs.size + 1) (exo (hp.objs.size + 1) C (some dx))) b = H1 b := fun {b} h1 h2 => by rw [upd_ne h2, upd_ne h1]
  have un2 : Un (frs X.stack) [] (upd H1 (hp.objs.size + 1) (exo (hp.objs.size + 1) C none)) (upd (upd H1 dx (exd dx [(f, y)])) (hp.objs.size + 1) (exo (hp.objs.size + 1) C (some dx))) ((hp.push (PySem.W.kdv_tup [u])).push (PySem.HandSPX.excO C hp.objs.size)) h2 := by
    refine ⟨fun b o z n _ _ => ?_, fun b o z n _ _ => ⟨o.slots, ?_⟩, fun b o z n _ => ?_, fun b o z _ => ?_, fun b xs z => ?_, fun b o v z => ?_, fun b ps z => ⟨#[], ?_⟩⟩
    · exact k2 b o (fun w => by rw [w, upd_same] at n; cases n) z
    · exact k2 b o (fun w => by rw [w, upd_same] at n; cases n) z
    · have hb : b ≠ hp.objs.size + 1 := fun w => by rw [w, upd_same] at n; cases n
      rw [upd_ne hb] at n ⊢
      have : b ≠ dx := Nat.ne_of_lt (Nat.lt_of_lt_of_le (Heap.lt_size z) dn)
      rw [upd_ne this]
      exact n
    · by_cases hb : b = hp.objs.size + 1
      · exact ⟨_, by rw [hb]; exact e2⟩
      · exact ⟨o, k2 b o hb z⟩
    · have hb : b ≠ hp.objs.size + 1 := fun w => by rw [w, upd_same] at z; exact exo_tup (Option.some.inj z)
      rw [upd_ne hb] at z ⊢
      rw [upd_ne (ne_of_none z hnd)]
      exact z
    · have hb : b ≠ hp.objs.size + 1 := fun w => by rw [w, upd_same] at z; exact exo_frz (Option.some.inj z)
      rw [upd_ne hb] at z ⊢
      rw [upd_ne (ne_of_none z hnd)]
      exact z
    · have hb : b ≠ hp.objs.size + 1 := fun w => by rw [w, upd_same] at z; exact exo_tbl (Option.some.inj z)
      rw [upd_ne hb] at z ⊢
      rw [upd_ne (ne_of_none z hnd), z]
      simp
  have hok2 : HOk X.prog X.w (upd (upd H1 dx (exd dx [(f, y)])) (hp.objs.size + 1) (exo (hp.objs.size + 1) C (some dx))) h2 := fun b o z => by
    by_cases hb : b = hp.objs.size + 1
    · subst hb
      rw [upd_same] at z
      cases z
      exact exo_ok e2
    · rw [upd_ne hb] at z
      by_cases hbd : b = dx
      · subst hbd
        rw [upd_same] at z
        cases z
        exact exd_ok ns2 (relO_put (fs := []) ry fun g => True.intro)
      · rw [upd_ne hbd] at z
        refine (I1.hok b o z).stay (fun c v hc w => old w) (fun c hc => ?_) fun c xs hc => ?_
        · have hn' : c ≠ hp.objs.size + 1 := fun w => by rw [w, hn] at hc; cases hc
          rw [upd_ne hn', upd_ne (ne_of_none hc hnd)]
          exact hc
        · have hn' : c ≠ hp.objs.size + 1 := fun w => by rw [w, hn] at hc; cases hc
          rw [upd_ne hn', upd_ne (ne_of_none hc hnd)]
          exact hc
  have fin : upd (del (upd (upd H1 dx (exd dx [(f, y)])) (hp.objs.size + 1) (exo (hp.objs.size + 1) C (some dx))) (hp.objs.size + 1)) dx (.xd [(f, y)]) = upd H1 dx (.xd [(f, y)]) := by
    funext b
    by_cases hbd : b = dx
    · rw [hbd, upd_same, upd_same]
    · rw [upd_ne hbd, upd_ne hbd]
      by_cases hb : b = hp.objs.size + 1
      · rw [hb, del_same, hn]
      · rw [del_ne hb, upd_ne hb, upd_ne hbd]
  refine mk_end (Q := Q) (d := dx) (fs := [(f, y)]) (raises_own T.oex.exC T.oex.tyC) I1 hsz kk un2 hok2 rfl I1.bare upd_same ?_ hnd ?_
  · rw [upd_ne (Nat.ne_of_gt dgt), upd_same]
  · rw [fin]
    exact q1 dx hnd
end
end L2
namespace He
open PySem PySem.Spec PyProof.Rows L2 SupX
/-! ### the Hook: the inits of such classes beside hookX -/
def zsW (K : PySem.W.Frag) (zs : List Str) : List FnZ := zs.map fun x => fz K (ga K x)
def kY (n : Nat) (g : Addr → Option Obj) : PySem.W.Frag := frT g (PySem.cStatics :: asD g n)
def obsY (n : Nat) (fa : List Fa) (fn : List DefD) (ts : List Tab) (ex : PySem.W.Frag → Bool) (zs : List Str) (g : Addr → Option Obj) : AlX × List FnZ := ((obsT fa fn ts (kY n g), ex (kY n g)), zsW (kY n g) zs)
def hookY (n : Nat) (fa : List Fa) (fn : List DefD) (ts : List Tab) (ex : PySem.W.Frag → Bool) (zs : List Str) (zv : List FnZ) : PySem.W.Hook where
  α := AlX × List FnZ
  obs := fun s => obsY n fa fn ts ex zs s.heap.get?
  val := fun w => (valX fn ts w, zv)
  says := fun w h => ∃ K : PySem.W.Frag, K.In h ∧ SaysX fa fn ts [] ex w h K ∧ zsW K zs = zv
  of := fun _ _ e => ⟨_, frT_in, ⟨congrArg (fun z : AlX × List FnZ => z.1.1) e, congrArg (fun z : AlX × List FnZ => z.1.2) e, (fun _ h => nomatch h), (fun _ h => nomatch h), (fun _ h => nomatch h)⟩, congrArg (fun z : AlX × List FnZ => z.2) e⟩
  keeps := fun _ _ _ ⟨K, hK, c, z⟩ k => ⟨K, PySem.W.Frag.In.keeps hK k, ⟨c.t, c.more, c.hd, c.out, fun p hp => k _ _ (c.empty p hp)⟩, z⟩
theorem obsY_eq {n : Nat} {fa : List Fa} {fn : List DefD} {ts : List Tab} {ex : PySem.W.Frag → Bool} {zs : List Str} {zv : List FnZ} {g : Addr → Option Obj} {s : Shared} (h : ∀ a, g a = s.heap.get? a) :
    obsY n fa fn ts ex zs g = (hookY n fa fn ts ex zs zv).obs s := by
  have e : g = s.heap.get? := funext h
  rw [e] <;> rfl
theorem zsW_at {K : PySem.W.Frag} {zs : List Str} {zv : List FnZ} (h : zsW K zs = zv) (i : Nat) {x : Str} {v : FnZ} (e1 : zs[i]? = some x) (e2 : zv[i]? = some v) : fz K (ga K x) = v := by
  subst h
  unfold zsW at e2
  rw [List.getElem?_map, e1] at e2
  exact Option.some.inj e2
end He
/-! dicts whose keys are nested tuples of ints and texts, told as things of the heap by what is true of their object -/
namespace ND
open PySem PySem.Spec PyProof.Rows L2
/-- an entry: key, the place of the key's tuple, value -/
abbrev NE := NestedKey × Addr × V
abbrev NV : List NE → List (NestedKey × Addr × Value) → Prop := Paired fun p q => p.1 = q.1 ∧ p.2.1 = q.2.1 ∧ RelV p.2.2 q.2.2
def NRaw (P : Program) (w : World) (a : Addr) (kvs : List NE) (h : Heap) : Prop :=
  kvs.length ≤ sizeLine ∧ (a == sysModules) = false ∧ ∃ xs : List (NestedKey × Addr × Value), NV kvs xs ∧
    ∃ o es ep, h.get? a = some o ∧ o.ExactDict ∧ o.data = .dict es ep ∧ es.toList = xs.map (entryOfKey (nestedKind P w)) ∧ (xs.map (·.1)).Nodup
def NDo (P : Program) (w : World) (a : Addr) (kvs : List NE) : HO := .ext (NRaw P w a kvs)
theorem ndo_ok {P : Program} {w : World} {a : Addr} {kvs : List NE} {H : Hp} {h : Heap} (x : NRaw P w a kvs h) : ObjOk P w H h a (NDo P w a kvs) := by
  refine ⟨x, ?_, fun h1 h2 y k => ?_⟩
  · obtain ⟨_, _, _, _, o, _, _, e, _⟩ := x
    exact ⟨o, e⟩
  · obtain ⟨z, hd, xs, r, o, es, ep, e, c⟩ := y
    exact ⟨z, hd, xs, r, o, es, ep, k o e, c⟩
theorem ndo_raw {P : Program} {w : World} {a : Addr} {kvs : List NE} {H : Hp} {h : Heap} (x : ObjOk P w H h a (NDo P w a kvs)) : NRaw P w a kvs h := x.1
/-- the tuple at b is the key k -/
def KeyAt (K : PySem.W.Frag) (H : Hp) (b : Addr) (k : NestedKey) : Prop := (∃ ks, k = .tup ks) ∧ k.depth ≤ 8 ∧ Dp K H (.ref b) k.data
def KsAt (K : PySem.W.Frag) (H : Hp) (kvs : List NE) : Prop := ∀ e ∈ kvs, KeyAt K H e.2.1 e.1
section
variable {X : Cx} {pins : List (Addr × Obj)} {σ : L2.St} {H : Hp} {s : Shared}
mutual
theorem nis (I : Inv X pins σ H s) : ∀ (k : NestedKey) (v : V) (u : Value), Dp X.K H v k.data → RelV v u → NestedIs s.heap k u
  | .none, _, _, h, r => by
    rw [NestedKey.data] at h
    cases h
    cases r
    exact .none
  | .num i, _, _, h, r => by
    rw [NestedKey.data] at h
    cases h
    obtain ⟨t, rfl⟩ := r
    exact .int _ _
  | .text x, _, _, h, r => by
    rw [NestedKey.data] at h
    cases h
    obtain ⟨t, rfl⟩ := r
    exact .text _ _
  | .tup ks, _, _, h, r => by
    rw [NestedKey.data] at h
    cases h with
    | tup h1 h2 =>
      cases r
      obtain ⟨its, rv, ⟨o, ho, hc, n, hd⟩, _⟩ := I.tuple h1
      exact .tup ho hc hd (niss I ks _ _ h2 (by simpa using rv))
theorem niss (I : Inv X pins σ H s) : ∀ (ks : List NestedKey) (vs : List V) (us : List Value), DpAll X.K H vs (NestedKey.datas ks) → Vals vs us → NestedAll s.heap ks us
  | [], _, _, h, r => by
    rw [NestedKey.datas] at h
    cases h
    cases r
    exact .nil
  | k :: ks, _, _, h, r => by
    rw [NestedKey.datas] at h
    cases h with
    | cons h1 h2 =>
      cases r with
      | cons r1 r2 => exact .cons (nis I k _ _ h1 r1) (niss I ks _ _ h2 r2)
end
theorem key_is (I : Inv X pins σ H s) {b : Addr} {k : NestedKey} (h : KeyAt X.K H b k) : (nestedKind X.prog X.w).is s.heap k b := ⟨nis I k _ _ h.2.2 rfl, h.2.1⟩
theorem nv_mem {kvs : List NE} {xs : List (NestedKey × Addr × Value)} (r : NV kvs xs) : ∀ x ∈ xs, ∃ e ∈ kvs, e.1 = x.1 ∧ e.2.1 = x.2.1 := by
  induction r with
  | nil => exact fun _ h => nomatch h
  | @cons p q ps qs h t ih =>
    intro x hx
    rcases List.mem_cons.mp hx with rfl | hx
    · exact ⟨p, .head _, h.1, h.2.1⟩
    · obtain ⟨e, he, h1⟩ := ih x hx
      exact ⟨e, .tail _ he, h1⟩
theorem nd_h (I : Inv X pins σ H s) {a : Addr} {kvs : List NE} (x : NRaw X.prog X.w a kvs s.heap) (ks : KsAt X.K H kvs) : kvs.length ≤ sizeLine ∧ (a == sysModules) = false ∧ ∃ xs, NV kvs xs ∧ s.heap.DictOfH (nestedKind X.prog X.w) a xs := by
  obtain ⟨z, hd, xs, r, o, es, ep, h1, h2, h3, h4, h5⟩ := x
  refine ⟨z, hd, xs, r, o, es, ep, h1, h2, h3, h4, fun x hx => ?_, h5⟩
  obtain ⟨e, he, e1, e2⟩ := nv_mem r x hx
  rw [← e1, ← e2]
  exact key_is I (ks e he)
theorem nd_rd (I : Inv X pins σ H s) {a : Addr} {kvs : List NE} (e : Rd H a (NDo X.prog X.w a kvs)) (ks : KsAt X.K H kvs) : kvs.length ≤ sizeLine ∧ (a == sysModules) = false ∧ ∃ xs, NV kvs xs ∧ s.heap.DictOfH (nestedKind X.prog X.w) a xs :=
  nd_h I (ndo_raw (rd_of I.hok e)) ks
end
/-! ### look-ups -/
def nP (kvs : List NE) : List (NestedKey × V) := kvs.map fun e => (e.1, e.2.2)
def nGet (kvs : List NE) (k : NestedKey) : Option V := valV (nP kvs) k
def nPut (kvs : List NE) (k : NestedKey) (b : Addr) (v : V) : List NE := if (nGet kvs k).isSome then kvs.map (fun e => if e.1 = k then (e.1, e.2.1, v) else e) else kvs ++ [(k, b, v)]
theorem NV.val {kvs : List NE} {xs : List (NestedKey × Addr × Value)} (r : NV kvs xs) (k : NestedKey) : RelO (nGet kvs k) ((atKey xs k).map (·.2)) := by
  unfold nGet nP
  induction r with
  | nil => exact True.intro
  | @cons p q ps qs h t ih =>
    obtain ⟨h1, _, h2⟩ := h
    rw [List.map_cons]
    by_cases e : p.1 = k
    · have e' : q.1 = k := h1.symm.trans e
      have b : atKey (q :: qs) k = some q.2 := by simp [atKey, List.find?_cons, e']
      rw [valV_pos (p := (p.1, p.2.2)) e, b]; exact h2
    · have e' : ¬ q.1 = k := fun z => e (h1.trans z)
      have b : atKey (q :: qs) k = atKey qs k := by simp [atKey, List.find?_cons, e']
      rw [valV_neg (p := (p.1, p.2.2)) e, b]; exact ih
theorem NV.repl {kvs : List NE} {xs : List (NestedKey × Addr × Value)} (r : NV kvs xs) (k : NestedKey) {y : V} {u : Value} (ry : RelV y u) : NV (kvs.map fun e => if e.1 = k then (e.1, e.2.1, y) else e) (xs.map (putAt k u)) := by
  induction r with
  | nil => exact .nil
  | @cons p q ps qs h t ih =>
    rw [List.map_cons, List.map_cons]
    refine .cons ?_ ih
    obtain ⟨h1, h2, h3⟩ := h
    unfold putAt
    by_cases e : p.1 = k
    · rw [if_pos e, if_pos (h1.symm.trans e)]; exact ⟨h1, h2, ry⟩
    · rw [if_neg e, if_neg (fun z => e (h1.trans z))]; exact ⟨h1, h2, h3⟩
theorem NV.put {kvs : List NE} {xs : List (NestedKey × Addr × Value)} (r : NV kvs xs) (k : NestedKey) (b : Addr) {y : V} {u : Value} (ry : RelV y u) : NV (nPut kvs k b y) (storedH xs k b u) := by
  have e : (nGet kvs k).isSome = (atKey xs k).isSome := by rw [(NV.val r k).isSome_eq, Option.isSome_map]
  unfold nPut storedH
  rw [e]
  by_cases q : (atKey xs k).isSome = true
  · rw [if_pos q, if_pos q]; exact NV.repl r k ry
  · rw [if_neg q, if_neg q]; exact Paired.snoc r ⟨rfl, rfl, ry⟩
theorem nPut_len (kvs : List NE) (k : NestedKey) (b : Addr) (v : V) : (nPut kvs k b v).length ≤ kvs.length + 1 := by
  unfold nPut
  split
  · rw [List.length_map]; omega
  · rw [List.length_append, List.length_cons, List.length_nil]; omega
theorem nPut_new {kvs : List NE} {k : NestedKey} {b : Addr} {v : V} (h : nGet kvs k = none) : nPut kvs k b v = kvs ++ [(k, b, v)] := by
  unfold nPut
  rw [h]
  exact if_neg (by decide)
theorem nP_put (kvs : List NE) (k : NestedKey) (b : Addr) (v : V) : nP (nPut kvs k b v) = putK (nP kvs) k v := by
  unfold nPut putK
  rw [valV_any]
  by_cases q : (nGet kvs k).isSome = true
  · rw [if_pos q, if_pos (show (valV (nP kvs) k).isSome = true from q)]
    unfold nP
    rw [List.map_map, List.map_map]
    refine List.map_congr_left fun e _ => ?_
    by_cases z : e.1 = k <;> simp [z]
  · rw [if_neg q, if_neg (show ¬ (valV (nP kvs) k).isSome = true from q)]
    simp [nP]
theorem KsAt.put {K : PySem.W.Frag} {H : Hp} {kvs : List NE} (h : KsAt K H kvs) {k : NestedKey} {b : Addr} (hb : KeyAt K H b k) (v : V) : KsAt K H (nPut kvs k b v) := by
  intro e he
  unfold nPut at he
  split at he
  · obtain ⟨e', h1, rfl⟩ := List.mem_map.mp he
    split
    · exact h e' h1
    · exact h e' h1
  · rcases List.mem_append.mp he with he | he
    · exact h e he
    · rw [List.mem_singleton.mp he]; exact hb
/-! ### the rules -/
section
variable {X : Cx} {pins : List (Addr × Obj)} {σ : L2.St} {H : Hp} {s : Shared} {a b : Addr} {k : NestedKey} {kvs : List NE} {v : V} {u r : Value} {A : Around} {E : Value → Shared → Prop}
theorem room9 (hu : A.units + 64 < cLine) : (nestedKind X.prog X.w).room A.in1 := by
  show A.in1.units + 8 < cLine
  have : A.in1.units = A.units + 1 := rfl
  omega
theorem n_in {Q : Value → Shared → Prop} (hu : A.units + 64 < cLine) (I : Inv X pins σ H s) (g : Rd H a (NDo X.prog X.w a kvs)) (ks : KsAt X.K H kvs) (kb : KeyAt X.K H b k) (h : ∀ s', Inv X pins σ H s' → Q (.bool (nGet kvs k).isSome) s') :
    wpAny (model X.prog X.w) A (compareOp .In (.ref b) (.ref a)) Q E s := by
  obtain ⟨z, hd, xs, rel, dd⟩ := nd_rd I g ks
  refine wpAny_in_heap (room9 hu) (key_is I kb) hd dd ?_
  have q := (NV.val rel k).isSome_eq
  rw [Option.isSome_map] at q
  rw [← q]
  exact h _ (I.tok _)
theorem n_notIn {Q : Value → Shared → Prop} (hu : A.units + 64 < cLine) (I : Inv X pins σ H s) (g : Rd H a (NDo X.prog X.w a kvs)) (ks : KsAt X.K H kvs) (kb : KeyAt X.K H b k) (h : ∀ s', Inv X pins σ H s' → Q (.bool (!(nGet kvs k).isSome)) s') :
    wpAny (model X.prog X.w) A (compareOp .NotIn (.ref b) (.ref a)) Q E s := by
  obtain ⟨z, hd, xs, rel, dd⟩ := nd_rd I g ks
  refine wpAny_notIn_heap (room9 hu) (key_is I kb) hd dd ?_
  have q := (NV.val rel k).isSome_eq
  rw [Option.isSome_map] at q
  rw [← q]
  exact h _ (I.tok _)
theorem n_getItem {Q : Value → Shared → Prop} (hu : A.units + 64 < cLine) (I : Inv X pins σ H s) (g : Rd H a (NDo X.prog X.w a kvs)) (ks : KsAt X.K H kvs) (kb : KeyAt X.K H b k) (hv : nGet kvs k = some v) (h : ∀ w' s', Inv X pins σ H s' → RelV v w' → Q w' s') :
    wpAny (model X.prog X.w) A (getItem (.ref a) (.ref b)) Q E s := by
  obtain ⟨z, hd, xs, rel, dd⟩ := nd_rd I g ks
  obtain ⟨w', hw, rw'⟩ := RelO.some_of (v := v) (o := (atKey xs k).map (·.2)) (by rw [← hv]; exact NV.val rel k)
  obtain ⟨p, hp, hp2⟩ := Option.map_eq_some_iff.mp hw
  refine wpAny_getItem_heap (room9 hu) (key_is I kb) dd hp ?_
  rw [hp2]
  exact h w' _ (I.tok _) rw'
theorem n_get2 {Q : Value → Shared → Prop} {d : V} (hu : A.units + 64 < cLine) (I : Inv X pins σ H s) (g : Rd H a (NDo X.prog X.w a kvs)) (ks : KsAt X.K H kvs) (kb : KeyAt X.K H b k) (rd : RelV d r) (h : ∀ w' s', Inv X pins σ H s' → RelV ((nGet kvs k).getD d) w' → Q w' s') :
    wpAny (model X.prog X.w) A (call (.builtin "dict.get") [.ref a, .ref b, r]) Q E s := by
  obtain ⟨z, hd, xs, rel, dd⟩ := nd_rd I g ks
  refine call_meetsIn PySem.F.slot_dict_get dd.typeIs PySem.F.entry_dict_get (PySem.F.args_dict_get_3 _ _ _) (meetsH_dict_get_default (nestedKind X.prog X.w) a b hd r) ⟨room9 hu, k, xs, key_is I kb, dd, h _ _ (I.tok _) ?_⟩
  exact (NV.val rel k).getD rd
/-- the object at a changes -/
theorem nd_new {h' : Heap} {H' : Hp} {xs : List (NestedKey × Addr × Value)} (z : kvs.length ≤ sizeLine) (hd : (a == sysModules) = false) (rel : NV kvs xs) (dd : h'.DictOfH (nestedKind X.prog X.w) a xs) : ObjOk X.prog X.w H' h' a (NDo X.prog X.w a kvs) := by
  obtain ⟨o, es, ep, h1, h2, h3, h4, _, h5⟩ := dd
  exact ndo_ok ⟨z, hd, xs, rel, o, es, ep, h1, h2, h3, h4, h5⟩
theorem n_setItem {Q : Unit → Shared → Prop} (hu : A.units + 64 < cLine) (I : Inv X pins σ H s) (g : H a = some (NDo X.prog X.w a kvs)) (ks : KsAt X.K H kvs) (kb : KeyAt X.K H b k) (hl : kvs.length < sizeLine) (rv : RelV v r)
    (h : ∀ s', Inv X pins σ (upd H a (NDo X.prog X.w a (nPut kvs k b v))) s' → Q () s') : wpAny (model X.prog X.w) A (setItem (.ref a) (.ref b) r) Q E s := by
  obtain ⟨z, hd, xs, rel, dd⟩ := nd_rd I (.inl g) ks
  have hz : xs.length ≤ sizeLine := by rw [← Paired.length rel]; exact z
  have hl' : (nPut kvs k b v).length ≤ sizeLine := by have := nPut_len kvs k b v; omega
  refine wpAny_setItem_heap (hsz := hz) (room9 hu) (key_is I kb) dd fun h' dd' hs => h _ ?_
  obtain ⟨q, es, ep, hq, h2, h3, h4, h6, h5⟩ := id dd'
  exact d_write I (by rw [g]; exact True.intro) hs ⟨q, hq⟩ (nd_new hl' hd (NV.put rel k b rv) dd')
theorem nd_typeIs (I : Inv X pins σ H s) (g : Rd H a (NDo X.prog X.w a kvs)) : s.TypeIs (.ref a) "dict" ∧ ∀ b, Value.ref a = .ref b → ∃ ob, s.heap.get? b = some ob ∧ ob.dict = none := by
  obtain ⟨z, hd, xs, r, o, es, ep, h1, h2, _⟩ := ndo_raw (rd_of I.hok g)
  refine ⟨⟨o, h1, h2.1⟩, fun b q => ?_⟩
  cases q
  exact ⟨o, h1, h2.2.1⟩
end
/-- {}, to be a dict with nested keys -/
def tNew (P : Program) (w : World) : TE := fun _ H Q => ∀ p, H p = none → Q (.ref p) (upd H p (NDo P w p []))
theorem nd_empty {P : Program} {w : World} {H : Hp} (h : Heap) (hb : sysModules < h.objs.size) : ObjOk P w H (h.push { cls := .type "dict", data := .dict #[] }) h.objs.size (NDo P w h.objs.size []) :=
  ndo_ok ⟨Nat.zero_le _, beq_eq_false_iff_ne.mpr (Ne.symm (Nat.ne_of_lt hb)), [], .nil, _, #[], 0, Heap.get?_push_size _ rfl, ⟨rfl, rfl, rfl⟩, rfl, rfl, List.nodup_nil⟩
/-- y in d, y not in d, d[y], d[y] = v, d.get(y, x) -/
def tIn (P : Program) (w : World) (K : PySem.W.Frag) (ty td : TE) : TE := fun σ H Q => ty σ H fun y H1 => td σ H1 fun x H2 => ∃ a b k kvs, x = .ref a ∧ y = .ref b ∧ Rd H2 a (NDo P w a kvs) ∧ KsAt K H2 kvs ∧ KeyAt K H2 b k ∧ Q (.bl (nGet kvs k).isSome) H2
def tNotIn (P : Program) (w : World) (K : PySem.W.Frag) (ty td : TE) : TE := fun σ H Q => ty σ H fun y H1 => td σ H1 fun x H2 => ∃ a b k kvs, x = .ref a ∧ y = .ref b ∧ Rd H2 a (NDo P w a kvs) ∧ KsAt K H2 kvs ∧ KeyAt K H2 b k ∧ Q (.bl (!(nGet kvs k).isSome)) H2
def tGet (P : Program) (w : World) (K : PySem.W.Frag) (td ty : TE) : TE := fun σ H Q => td σ H fun x H1 => ty σ H1 fun y H2 => ∃ a b k kvs v, x = .ref a ∧ y = .ref b ∧ Rd H2 a (NDo P w a kvs) ∧ KsAt K H2 kvs ∧ KeyAt K H2 b k ∧ nGet kvs k = some v ∧ Q v H2
def tGet2 (P : Program) (w : World) (K : PySem.W.Frag) (td ty tx : TE) : TE := fun σ H Q => td σ H fun x H1 => ∃ a kvs, x = .ref a ∧ Rd H1 a (NDo P w a kvs) ∧ ty σ H1 fun y H2 => tx σ H2 fun d H3 => ∃ b k kvs, y = .ref b ∧ Rd H3 a (NDo P w a kvs) ∧ KsAt K H3 kvs ∧ KeyAt K H3 b k ∧ Q ((nGet kvs k).getD d) H3
def tPut (P : Program) (w : World) (K : PySem.W.Frag) (td ty tv : TE) : TS := fun D σ H => tv σ H fun v H1 => td σ H1 fun x H2 => ty σ H2 fun y H3 => ∃ a b k kvs, x = .ref a ∧ y = .ref b ∧ H3 a = some (NDo P w a kvs) ∧ KsAt K H3 kvs ∧ KeyAt K H3 b k ∧ kvs.length < sizeLine ∧
  D.nx σ (upd H3 a (NDo P w a (nPut kvs k b v)))
section
variable {X : Cx} {o i e f value : Expr} {pos pos' tpos apos cpos : Pos} {td ty tv tx : TE}
theorem pe_new : PE X (.Dict [] [] pos) (tNew X.prog X.w) := ⟨fun pins s σ H Q I h =>
  wpAny_Dict_empty ⟨.ref s.heap.objs.size, _, I.laid (a := s.heap.objs.size) (o := NDo X.prog X.w s.heap.objs.size []) (t' := s.toks) (fun _ _ q => Heap.get?_push_of_some _ q) (Nat.le_refl _) (nd_empty s.heap I.big), rfl, h _ (I.hok.fresh (Nat.le_refl _))⟩⟩
theorem pc_in (hu : X.A.units + 64 < cLine) (hi : PE X i ty) (ho : PE X o td) : PC X .In i o (tIn X.prog X.w X.K ty td) := by
  refine ⟨fun pins s σ H Q I h => ?_⟩
  refine thn (hi.run pins s σ H _ I h) fun iv s1 ⟨y, H1, I1, ry, q1⟩ => thn (ho.run pins s1 σ H1 _ I1 q1) fun u s2 ⟨x, H2, I2, rx, a, b, k, kvs, ex, ey, g, ks, kb, q2⟩ => ?_
  subst ex ey
  obtain rfl : u = Value.ref a := rx
  obtain rfl : iv = Value.ref b := ry
  exact n_in hu I2 g ks kb fun s3 I3 => ⟨.bl (nGet kvs k).isSome, H2, I3, rfl, q2⟩
theorem pc_notin (hu : X.A.units + 64 < cLine) (hi : PE X i ty) (ho : PE X o td) : PC X .NotIn i o (tNotIn X.prog X.w X.K ty td) := by
  refine ⟨fun pins s σ H Q I h => ?_⟩
  refine thn (hi.run pins s σ H _ I h) fun iv s1 ⟨y, H1, I1, ry, q1⟩ => thn (ho.run pins s1 σ H1 _ I1 q1) fun u s2 ⟨x, H2, I2, rx, a, b, k, kvs, ex, ey, g, ks, kb, q2⟩ => ?_
  subst ex ey
  obtain rfl : u = Value.ref a := rx
  obtain rfl : iv = Value.ref b := ry
  exact n_notIn hu I2 g ks kb fun s3 I3 => ⟨.bl (!(nGet kvs k).isSome), H2, I3, rfl, q2⟩
theorem pe_get (hu : X.A.units + 64 < cLine) (ho : PE X o td) (hi : PE X i ty) (hs : NoSl i) : PE X (.Subscript o i pos) (tGet X.prog X.w X.K td ty) := by
  refine ⟨fun pins s σ H Q I h => ?_⟩
  refine subD_of PySem.F.slot_dict_getitem.lookup hs (thn (ho.run pins s σ H _ I h) fun u s1 ⟨x, H1, I1, rx, q1⟩ => thn (hi.run pins s1 σ H1 _ I1 q1) fun iv s2 ⟨y, H2, I2, ry, a, b, k, kvs, v, ex, ey, g, ks, kb, hv, q2⟩ => ?_)
  subst ex ey
  obtain rfl : u = Value.ref a := rx
  obtain rfl : iv = Value.ref b := ry
  exact ⟨(nd_typeIs I2 g).1, n_getItem hu I2 g ks kb hv fun w' s3 I3 rw' => ⟨v, H2, I3, rw', q2⟩⟩
theorem pe_get2 (hu : X.A.units + 64 < cLine) (ho : PE X o td) (he : PE X e ty) (hf : PE X f tx) (m : M2 X o "get" apos e f cpos) : PE X (.Call (.Attribute o "get" apos) [e, f] [] cpos) (tGet2 X.prog X.w X.K td ty tx) := by
  refine ⟨fun pins s σ H Q I h => ?_⟩
  refine wpAny_Call_method m.base m.few m.line PySem.F.plainAttrs_dict PySem.F.slot_dict_get PySem.F.type_dict_get (thn (ho.run pins s σ H _ I h) fun u s1 ⟨x, H1, I1, rx, a, kvs0, ex, d, q1⟩ => ?_)
  subst ex
  obtain rfl : u = Value.ref a := rx
  obtain ⟨t1, t2⟩ := nd_typeIs I1 d
  refine ⟨t1, t2, ?_⟩
  rw [m.trees]
  refine Calls.callWith_builtin rfl (Calls.evalArgs_plain (Calls.spliced_cons (thn (he.run pins s1 σ H1 _ I1 q1) fun iv s2 ⟨y, H2, I2, ry, q2⟩ =>
    Calls.spliced_cons (thn (hf.run pins s2 σ H2 _ I2 q2) fun fv s3 ⟨z, H3, I3, rz, b, k, kvs, ey, g, ks, kb, q3⟩ => Calls.spliced_nil ?_))))
  subst ey
  obtain rfl : iv = Value.ref b := ry
  exact n_get2 hu I3 g ks kb rz fun w' s4 I4 rw' => ⟨_, H3, I4, rw', q3⟩
theorem ps_put (hu : X.A.units + 64 < cLine) (ho : PE X o td) (hi : PE X i ty) (hv : PE X value tv) (hs : swapsWith value (some (.Subscript o i pos')) pos.line X.env = pure false) :
    PS X (.Assign [.Subscript o i pos'] value pos) (tPut X.prog X.w X.K td ty tv) := by
  refine ⟨fun pins s σ H D I h => ?_⟩
  refine wpAny_Assign_Subscript (thn (hv.run pins s σ H _ I h) fun r s1 ⟨v, H1, I1, rv, q1⟩ => thn (ho.run pins s1 σ H1 _ I1 q1) fun u s2 ⟨x, H2, I2, rx, q2⟩ => thn (hi.run pins s2 σ H2 _ I2 q2) fun iv s3 ⟨y, H3, I3, ry, a, b, k, kvs, ex, ey, g, ks, kb, hl, q3⟩ => ?_) hs
  subst ex ey
  obtain rfl : u = Value.ref a := rx
  obtain rfl : iv = Value.ref b := ry
  exact n_setItem hu I3 g ks kb hl rv fun s4 I4 => ⟨σ, _, I4, q3⟩
end
end ND
/-! walks over such dicts, their items, dicts made of pairs, setdefault -/
namespace ND
open PySem PySem.Spec PyProof.Rows L2
theorem ent_get {P : Program} {w : World} {xs : List (NestedKey × Addr × Value)} {kvs : List NE} {es : Array DictEntry} (he : es.toList = xs.map (entryOfKey (nestedKind P w))) (r : NV kvs xs) :
    es.size = kvs.length ∧ ∀ (i : Nat) (e : NE), kvs[i]? = some e → ∃ en : DictEntry, es[i]? = some en ∧ en.key = .ref e.2.1 ∧ RelV e.2.2 en.val := by
  refine ⟨(size_of_entries he).trans (Paired.length r).symm, fun i e hi => ?_⟩
  obtain ⟨x, hx, e1, e2, e3⟩ := paired_get r hi
  have q := entry_at he i
  rw [hx] at q
  exact ⟨_, q, congrArg Value.ref e2.symm, e3⟩
section
variable {X : Cx} {pins : List (Addr × Obj)} {σ : L2.St} {H : Hp} {s : Shared} {d : Addr} {o : Obj} {kvs : List NE}
theorem frzN (I : Inv X pins σ H s) (h : H d = some (.frz o (NDo X.prog X.w d kvs))) :
    (d == sysModules) = false ∧ s.heap.get? d = some o ∧ o.ExactDict ∧ ∃ (es : Array DictEntry) (ep : Nat), o.data = .dict es ep ∧ es.size = kvs.length ∧
      ∀ (i : Nat) (e : NE), kvs[i]? = some e → ∃ en : DictEntry, es[i]? = some en ∧ en.key = .ref e.2.1 ∧ RelV e.2.2 en.val := by
  obtain ⟨hd, x⟩ := I.hok d _ h
  obtain ⟨z, hs, xs, r, o', es, ep, ho, hx, hdt, he, _⟩ := ndo_raw x
  rw [hd] at ho
  cases ho
  obtain ⟨h1, h2⟩ := ent_get he r
  exact ⟨hs, hd, hx, es, ep, hdt, h1, h2⟩
end
/-- the keys of the locked dict at d, in their order -/
def ItkN (P : Program) (w : World) (d : Addr) (o : Obj) (kvs : List NE) : It :=
  ⟨fun i H => H d = some (.frz o (NDo P w d kvs)) ∧ i < kvs.length, fun i H x H' => H' = H ∧ ∃ e : NE, kvs[i]? = some e ∧ x = .ref e.2.1, fun i H => H d = some (.frz o (NDo P w d kvs)) ∧ kvs.length ≤ i⟩
theorem turn_keysN {P : Program} {w : World} {K : PySem.W.Frag} {tg : Expr} {d : Addr} {o : Obj} {es : Array DictEntry} {ep : Nat} {kvs : List NE} (it : Addr) (hod : o.data = .dict es ep) : Turn P w K tg (ItkN P w d o kvs) [it] it (fun i h => h.IsKeyIter it d i kvs.length ep) where
  mem := by simp
  obj := fun i h st b hb => by
    have e : b = it := by simpa using hb
    subst e
    obtain ⟨oi, e, c, dd⟩ := st
    exact ⟨oi, e, fun v z => by rw [dd] at z; cases z⟩
  keep := fun i h h' st k => st.at fun oi e => k it (by simp) oi e
  item := by
    intro X hP hw hK hc i pins s σ H E I hf st hg
    subst hP hw hK
    obtain ⟨hd, hi⟩ := hg
    obtain ⟨f0, f1, f2, f3, f4, f5⟩ := hf it (by simp)
    obtain ⟨hs, hgd, hx, es', ep', hdt, hsz, ent⟩ := frzN I hd
    obtain ⟨rfl, rfl⟩ := dict_ep hod hdt
    obtain ⟨e0, hkv⟩ : ∃ p, kvs[i]? = some p := ⟨kvs[i], List.getElem?_eq_getElem hi⟩
    obtain ⟨en, hen, hkey, _⟩ := ent i e0 hkv
    refine next_key_item st hgd hdt hsz hen fun h' st' sb => ?_
    have I1 : Inv X pins σ H { s with heap := h' } := I.turned (t' := s.toks) (fun b ob hb e => (sb.2 b hb).trans e) f0 f1 f3 f4 f5
    obtain ⟨oi, e, c, dd⟩ := id st'
    exact ⟨en.key, rfl, go_of (s := { s with heap := h' }) e c dd (by decide) ⟨.ref e0.2.1, H, I1, hkey, ⟨rfl, e0, hkv, rfl⟩, st', fun b hb => (hf b hb).1⟩⟩
  done := by
    intro X hP hw hK hc i pins s σ H E I hf st hg
    subst hP hw hK
    obtain ⟨hd, hi⟩ := hg
    obtain ⟨f0, f1, f2, f3, f4, f5⟩ := hf it (by simp)
    obtain ⟨hs, hgd, hx, es', ep', hdt, hsz, ent⟩ := frzN I hd
    obtain ⟨rfl, rfl⟩ := dict_ep hod hdt
    exact next_key_end (I.ok.hd hc) st hgd hdt hsz hi fun h' eb => ⟨rfl, I.turned (t' := s.toks) (fun b ob hb e => eb b ob hb e) f0 f1 f3 f4 f5⟩
  self := fun A i s Q E st h => by
    refine wpAny_pyIter_slot st.typeIs F.slot_dict_keyiterator_iter (wpAny_call_entry F.slot_dict_keyiterator_iter st.typeIs F.entry_dict_keyiterator_iter ?_ (F.args_dict_keyiterator_iter_1 _))
    show wpAny _ _ (ret (.ref it)) _ _ s
    exact wpAny_pure ⟨_, rfl, "dict_keyiterator", _, st.typeIs, F.slot_dict_keyiterator_next.lookup, h⟩
/-- for k in d, locked -/
def iKeysN (P : Program) (w : World) (td : TE) : TI := fun σ H R => td σ H fun x H1 => ∃ d o kvs, x = .ref d ∧ H1 d = some (.frz o (NDo P w d kvs)) ∧ R (ItkN P w d o kvs) H1
section
variable {X : Cx} {tg e : Expr} {td : TE} {apos cpos : Pos}
theorem pi_keysN (he : PE X e td) : PI X tg e (iKeysN X.prog X.w td) := by
  refine ⟨fun pins s σ H R I h => ?_⟩
  refine thn (he.run pins s σ H _ I h) fun u s1 ⟨x, H1, I1, rx, d, o, kvs, ex, hd, q⟩ => ?_
  subst ex
  obtain rfl : u = Value.ref d := rx
  obtain ⟨hs, hgd, hx, es, ep, hdt, hsz, ent⟩ := frzN I1 hd
  refine iter_keys hs hgd hx hdt (pi_one (tk := s1.toks) I1 _ (turn_keysN _ hdt) ⟨_, Heap.get?_push_size _ rfl, rfl, ?_⟩ q)
  rw [hsz] <;> rfl
end
/-! ### d.items(), list(d.items()) -/
open DX in
def tItems (P : Program) (w : World) (td : TE) : TE := fun σ H Q => td σ H fun x H1 => ∃ a kvs, x = .ref a ∧ Rd H1 a (NDo P w a kvs) ∧ ∀ p, H1 p = none → Q (.ref p) (upd H1 p (itemsO p a))
section
variable {X : Cx} {o : Expr} {apos cpos : Pos} {td : TE}
theorem pe_items (ho : PE X o td) (hbase : attributeBase o "items" X.env (eval o X.env) = eval o X.env := by rfl) (hline : (apos.endLine == cpos.line) = true := by rfl) : PE X (.Call (.Attribute o "items" apos) [] [] cpos) (tItems X.prog X.w td) := by
  refine ⟨fun pins s σ H Q I h => ?_⟩
  refine wpAny_Call_method (T := "dict") (id := "dict.items") hbase rfl hline F.plainAttrs_dict F.slot_dict_items F.type_dict_items (thn (ho.run pins s σ H _ I h) fun u s1 ⟨x, H1, I1, rx, a, kvs, ex, hd, q⟩ => ?_)
  subst ex
  obtain rfl : u = Value.ref a := rx
  obtain ⟨t1, t2⟩ := nd_typeIs I1 hd
  refine ⟨t1, t2, ?_⟩
  obtain ⟨z, hs, xs, r, ob, es, ep, ho', hx, hdt, he, _⟩ := ndo_raw (rd_of I1.hok hd)
  show wpAny _ _ (callWith cpos (.builtin "dict.items") [.ref a] [] []) _ X.xe s1
  refine Calls.callWith_builtin rfl (PySem.evalArgs_none ?_)
  refine DT.callItems (es := es) (ep := ep) hs ⟨ob, ho', hx, hdt⟩ ?_
  exact ⟨.ref s1.heap.objs.size, upd H1 s1.heap.objs.size (DX.itemsO s1.heap.objs.size a), I1.laid (t' := s1.toks) (fun b u e => Heap.get?_push_of_some _ e) (Nat.le_refl _) (DX.itemsO_ok (Heap.get?_push_size _ rfl)), rfl, q _ (I1.hok.fresh (Nat.le_refl _))⟩
/-- the pairs at Ts are the entries -/
def PrsAt (H : Hp) (Ts : List Addr) (kvs : List NE) : Prop := Paired (fun T (e : NE) => H T = some (.tup [.ref e.2.1, e.2.2])) Ts kvs
def rListItems (P : Program) (w : World) : List V → Hp → VK → Prop := fun xs H Q => ∃ (p a : Addr) (kvs : List NE), xs = [.ref p] ∧ H p = some (DX.itemsO p a) ∧ Rd H a (NDo P w a kvs) ∧
  ∀ (H' : Hp) (l : Addr) (Ts : List Addr), Evl.Ex H H' → H l = none → H' l = some (.lst (Ts.map V.ref)) → (∀ T ∈ Ts, H T = none) → Ts.Nodup → PrsAt H' Ts kvs → Q (.ref l) H'
theorem prs_of {H : Hp} : ∀ {Ts : List Addr} {kvs : List NE}, Ts.length = kvs.length → (∀ (j : Nat) (T : Addr) (e : NE), Ts[j]? = some T → kvs[j]? = some e → H T = some (.tup [.ref e.2.1, e.2.2])) → PrsAt H Ts kvs
  | [], [], _, _ => .nil
  | [], _ :: _, h, _ => by simp at h
  | _ :: _, [], h, _ => by simp at h
  | T :: Ts, e :: kvs, h, f => .cons (f 0 T e rfl rfl) (prs_of (by simpa using h) fun j T' e' h1 h2 => f (j + 1) T' e' (by simpa using h1) (by simpa using h2))
theorem vrefs : ∀ as : List Addr, Vals (as.map V.ref) (as.map Value.ref)
  | [] => .nil
  | _ :: r => .cons rfl (vrefs r)
theorem call_list_items (hc : X.calm = true) : CallR X (.type "list") (rListItems X.prog X.w) := by
  intro pins s σ H xs us Q I r h
  obtain ⟨p, a, kvs, rfl, hp, hd, q⟩ := h
  obtain ⟨u, rfl, rx⟩ := vals1 r
  cases rx
  have view : s.heap.IsItemsView p a := (show ObjOk X.prog X.w H s.heap p (DX.itemsO p a) from I.hok p _ hp).1
  obtain ⟨z, hs, xs', rel, o, es, ep, ho, hx, hdt, he, _⟩ := ndo_raw (rd_of I.hok hd)
  obtain ⟨hsz, ent⟩ := ent_get he rel
  refine PySem.W.dil_call (es := es) (ep := ep) (I.ok.hd hc) view ⟨o, ho, hx, hdt⟩ (by omega) fun h' tk acc c as hk hS hl hG hacc => ?_
  have hS0 : H s.heap.objs.size = none := I.hok.fresh (Nat.le_refl _)
  have lz : (as.map V.ref).length ≤ sizeLine := by rw [List.length_map]; omega
  have I1 : Inv X pins σ (upd H s.heap.objs.size (.lst (as.map V.ref))) { s with heap := h', toks := tk } :=
    I.laid (t' := tk) (o := .lst (as.map V.ref)) hk (Nat.le_refl _) ⟨lz, acc.toList, c, by rw [hacc]; exact vrefs as, by rw [Array.toArray_toList]; exact hS⟩
  have nd : as.Nodup := List.Pairwise.imp (fun h => Nat.ne_of_lt h) hG.rise
  have hfr : ∀ T ∈ as, H T = none := fun T hT => I.hok.fresh (Nat.le_of_lt (hG.above T hT))
  obtain ⟨H2, I2, g, pr⟩ := DX.takeT (P := fun T vs => ∃ (j : Nat) (e : NE), as[j]? = some T ∧ kvs[j]? = some e ∧ vs = [.ref e.2.1, e.2.2]) I as _ I1 nd fun T hT => by
    refine ⟨Nat.le_of_lt (hG.above T hT), by rw [upd_ne (Nat.ne_of_gt (hG.above T hT))]; exact hfr T hT, ?_⟩
    obtain ⟨j, hj⟩ := List.mem_iff_getElem?.mp hT
    obtain ⟨hj', hg⟩ := hG.pairs j T hj
    have hjk : j < kvs.length := by omega
    obtain ⟨en, hen, k1, k2⟩ := ent j kvs[j] (List.getElem?_eq_getElem hjk)
    have een : es[j] = en := by
      rw [Array.getElem?_eq_getElem hj'] at hen
      exact Option.some.inj hen
    refine ⟨[.ref kvs[j].2.1, kvs[j].2.2], ⟨j, kvs[j], hj, List.getElem?_eq_getElem hjk, rfl⟩, fun H2 => ⟨by show 2 ≤ sizeLine; decide, [es[j].key, es[j].val], .cons ?_ (.cons ?_ .nil), ⟨_, hg, rfl, 0, rfl⟩⟩⟩
    · rw [een, k1]; exact rfl
    · rw [een]; exact k2
  have e01 : Evl.Ex H (upd H s.heap.objs.size (.lst (as.map V.ref))) := Evl.Ex.new hS0
  refine ⟨.ref s.heap.objs.size, H2, I2, rfl, q H2 _ as (fun b ob hb => g b ob (e01 b ob hb)) hS0 (g _ _ upd_same) hfr nd (prs_of (by omega) fun j T e h1 h2 => ?_)⟩
  obtain ⟨vs, ⟨j', e', h3, h4, rfl⟩, h5⟩ := pr T (List.mem_of_getElem? h1)
  have : j' = j := by
    have hj1 := (List.getElem?_eq_some_iff.mp h1)
    have hj3 := (List.getElem?_eq_some_iff.mp h3)
    obtain ⟨a1, b1⟩ := hj1
    obtain ⟨a3, b3⟩ := hj3
    have pw := List.pairwise_iff_getElem.mp hG.rise
    rcases Nat.lt_trichotomy j' j with h | h | h
    · have := pw j' j a3 a1 h
      rw [b3, b1] at this
      exact absurd this (Nat.lt_irrefl _)
    · exact h
    · have := pw j j' a1 a3 h
      rw [b3, b1] at this
      exact absurd this (Nat.lt_irrefl _)
  subst this
  rw [h2] at h4
  cases h4
  exact h5
/-! ### dict(pairs) -/
def nMerge (acc kvs : List NE) : List NE := kvs.foldl (fun acc e => nPut acc e.1 e.2.1 e.2.2) acc
theorem NV.merge : ∀ {kvs : List NE} {ys : List (NestedKey × Addr × Value)} {acc : List NE} {xs : List (NestedKey × Addr × Value)}, NV kvs ys → NV acc xs → NV (nMerge acc kvs) (storedAllH xs ys) := by
  intro kvs ys acc xs r
  induction r generalizing acc xs with
  | nil => exact fun q => q
  | @cons p q ps qs h t ih =>
    intro r0
    have e : NV (nPut acc p.1 p.2.1 p.2.2) (storedH xs q.1 q.2.1 q.2.2) := by
      have := NV.put r0 p.1 p.2.1 h.2.2
      rw [← h.1, ← h.2.1]
      exact this
    exact ih e
theorem nMerge_len : ∀ (kvs acc : List NE), (nMerge acc kvs).length ≤ acc.length + kvs.length
  | [], acc => Nat.le_refl _
  | p :: r, acc => by
    have h1 := nMerge_len r (nPut acc p.1 p.2.1 p.2.2)
    have h2 := nPut_len acc p.1 p.2.1 p.2.2
    show (nMerge (nPut acc p.1 p.2.1 p.2.2) r).length ≤ _
    rw [List.length_cons]; omega
theorem pairs_n {pins : List (Addr × Obj)} {σ : L2.St} {H : Hp} {s : Shared} (I : Inv X pins σ H s) : ∀ {Ts : List Addr} {kvs : List NE}, Paired (fun T (e : NE) => SqT X.K H T [.ref e.2.1, e.2.2]) Ts kvs →
    ∃ xs, NV kvs xs ∧ xs.length = Ts.length ∧ ∀ (j : Nat) (x : NestedKey × Addr × Value), xs[j]? = some x → ∃ T, Ts[j]? = some T ∧ s.heap.IsTuple T #[.ref x.2.1, x.2.2]
  | _, _, .nil => ⟨[], .nil, rfl, fun j x h => by simp at h⟩
  | _, _, .cons (a := T) (b := e) (l₁ := Ts) (l₂ := kvs) h t => by
    obtain ⟨xs, h1, h2, h3⟩ := pairs_n I t
    obtain ⟨its, rv, tp, _⟩ := I.tuple h
    cases rv with
    | cons r1 r2 =>
      cases r2 with
      | @cons _ u _ _ r2 r3 =>
        cases r3
        cases r1
        refine ⟨(e.1, e.2.1, u) :: xs, .cons ⟨rfl, rfl, r2⟩ h1, by simp [h2], fun j x hx => ?_⟩
        cases j with
        | zero =>
          simp only [List.getElem?_cons_zero, Option.some.injEq] at hx
          subst hx
          exact ⟨T, rfl, tp⟩
        | succ j =>
          simp only [List.getElem?_cons_succ] at hx ⊢
          exact h3 j x hx
def rDict (P : Program) (w : World) (K : PySem.W.Frag) : List V → Hp → VK → Prop := fun xs H Q => ∃ (a : Addr) (Ts : List Addr) (kvs : List NE), xs = [.ref a] ∧ SqL K H a (Ts.map V.ref) ∧ Paired (fun T (e : NE) => SqT K H T [.ref e.2.1, e.2.2]) Ts kvs ∧ KsAt K H kvs ∧
  ∀ p, H p = none → Q (.ref p) (upd H p (NDo P w p (nMerge [] kvs)))
theorem refs_at' : ∀ {Ts : List Addr} {its : List Value}, Vals (Ts.map V.ref) its → its = Ts.map Value.ref
  | [], _, h => by cases h; rfl
  | _ :: _, _, h => by
    cases h with
    | cons h1 h2 =>
      cases h1
      rw [refs_at' h2]
      rfl
theorem call_dictN (hc : X.calm = true) (hu : X.A.units + 64 < cLine) : CallR X (.type "dict") (rDict X.prog X.w X.K) := by
  intro pins s σ H xs us Q I r h
  obtain ⟨a, Ts, kvs, rfl, hq, hp, hks, q⟩ := h
  obtain ⟨u, rfl, rx⟩ := vals1 r
  cases rx
  obtain ⟨its, rv, ⟨o, n, ho, hcl, hd, hdat⟩, hz⟩ := I.list hq
  obtain rfl := refs_at' rv
  rw [List.length_map] at hz
  obtain ⟨ys, rel, hl, hpr⟩ := pairs_n I hp
  have hTs : Ts.length = kvs.length := Paired.length hp
  have hst := nestedKind_stays (prog := X.prog) (w := X.w)
  have room : (nestedKind X.prog X.w).room X.A.in1.in1 := by
    show X.A.in1.in1.units + 8 < cLine
    have : X.A.in1.in1.units = X.A.units + 1 + 1 := rfl
    omega
  refine call_dict_pairsH (knd := nestedKind X.prog X.w) (ps := ys) (PairArg.list a (Ts.map Value.ref).toArray (fun j => Ts.getD j 0) (ys.map fun x => (Value.ref x.2.1, x.2.2))) (I.ok.hd hc) room ⟨⟨o, n, ho, hcl, hd, hdat⟩, ?_, fun j k v e => ?_⟩ ⟨by rw [List.length_map], fun i key v e => ?_⟩ (fun h' hk x hx => ?_) (by rw [List.length_map, hl]; exact hz) fun h' tk hd' hk => ?_
  · rw [List.size_toArray, List.length_map, List.length_map, hl]
  · rw [List.getElem?_map] at e
    obtain ⟨x, hx, e⟩ := Option.map_eq_some_iff.mp e
    cases e
    obtain ⟨T, hT, ht⟩ := hpr j x hx
    have eT : Ts.getD j 0 = T := by rw [List.getD_eq_getElem?_getD, hT]; rfl
    refine ⟨?_, .inl (by show s.heap.IsTuple (Ts.getD j 0) _; rw [eT]; exact ht)⟩
    show (Ts.map Value.ref).toArray[j]? = some (Value.ref (Ts.getD j 0))
    rw [eT]
    rw [List.getElem?_toArray, List.getElem?_map, hT]
    rfl
  · have e' : (ys.map fun x => (Value.ref x.2.1, x.2.2))[i]? = some (key, v) := e
    rw [List.getElem?_map] at e'
    obtain ⟨x, hx, e'⟩ := Option.map_eq_some_iff.mp e'
    cases e'
    exact ⟨x.1, x.2.1, hx, rfl⟩
  · obtain ⟨e, he, e1, e2⟩ := nv_mem rel x hx
    rw [← e1, ← e2]
    exact hst.stays (fun b ob _ _ g _ => hk b ob (Nat.ne_of_lt (Heap.lt_size g)) (fun z => nomatch z) g) (key_is I (hks e he))
  · have hm : (s.heap.objs.size == sysModules) = false := beq_eq_false_iff_ne.mpr (Nat.ne_of_gt I.big)
    have hlen : (nMerge [] kvs).length ≤ sizeLine := by
      have := nMerge_len kvs []
      rw [List.length_nil] at this
      omega
    have hkk : ∀ b o, s.heap.get? b = some o → h'.get? b = some o := fun b o g => hk b o (fun z => nomatch z) g
    exact ⟨.ref s.heap.objs.size, upd H s.heap.objs.size (NDo X.prog X.w s.heap.objs.size (nMerge [] kvs)), I.laid (t' := tk) hkk (Nat.le_refl _) (nd_new hlen hm (NV.merge rel .nil) hd'), rfl, q _ (I.hok.fresh (Nat.le_refl _))⟩
end
/-! ### d.setdefault(k, x) -/
section
variable {X : Cx} {o e f : Expr} {apos cpos : Pos} {td ty tx : TE}
def tSetd (P : Program) (w : World) (K : PySem.W.Frag) (td ty tx : TE) : TE := fun σ H Q => td σ H fun x H1 => ∃ a kvs, x = .ref a ∧ Rd H1 a (NDo P w a kvs) ∧ ty σ H1 fun y H2 => tx σ H2 fun d H3 => ∃ b k kvs, y = .ref b ∧ H3 a = some (NDo P w a kvs) ∧ KsAt K H3 kvs ∧ KeyAt K H3 b k ∧ kvs.length < sizeLine ∧
  (∀ v, nGet kvs k = some v → Q v H3) ∧ (nGet kvs k = none → Q d (upd H3 a (NDo P w a (kvs ++ [(k, b, d)]))))
theorem pe_setd (hu : X.A.units + 64 < cLine) (ho : PE X o td) (he : PE X e ty) (hf : PE X f tx) (m : M2 X o "setdefault" apos e f cpos) : PE X (.Call (.Attribute o "setdefault" apos) [e, f] [] cpos) (tSetd X.prog X.w X.K td ty tx) := by
  refine ⟨fun pins s σ H Q I h => ?_⟩
  refine wpAny_Call_method m.base m.few m.line PySem.F.plainAttrs_dict PySem.F.slot_dict_setdefault PySem.F.type_dict_setdefault (thn (ho.run pins s σ H _ I h) fun u s1 ⟨x, H1, I1, rx, a, kvs0, ex, d, q1⟩ => ?_)
  subst ex
  obtain rfl : u = Value.ref a := rx
  obtain ⟨t1, t2⟩ := nd_typeIs I1 d
  refine ⟨t1, t2, ?_⟩
  rw [m.trees]
  refine Calls.callWith_builtin rfl (Calls.evalArgs_plain (Calls.spliced_cons (thn (he.run pins s1 σ H1 _ I1 q1) fun iv s2 ⟨y, H2, I2, ry, q2⟩ =>
    Calls.spliced_cons (thn (hf.run pins s2 σ H2 _ I2 q2) fun fv s3 ⟨z, H3, I3, rz, b, k, kvs, ey, g, ks, kb, hl, q3, q4⟩ => Calls.spliced_nil ?_))))
  subst ey
  obtain rfl : iv = Value.ref b := ry
  obtain ⟨zz, hd, xs, rel, dd⟩ := nd_rd I3 (.inl g) ks
  have hz : xs.length ≤ sizeLine := by rw [← Paired.length rel]; exact zz
  have rv := NV.val rel k
  refine call_setdefault_heap (hsz := hz) (room9 hu) (key_is I3 kb) hd dd (fun p hp => ?_) fun hn h' dd' hs => ?_
  · rw [hp] at rv
    cases hg : nGet kvs k with
    | none => rw [hg] at rv; exact (show False from rv).elim
    | some v =>
      rw [hg] at rv
      exact ⟨v, H3, I3.tok _, rv, q3 v hg⟩
  · rw [hn] at rv
    have hg : nGet kvs k = none := by
      cases hg : nGet kvs k with
      | none => rfl
      | some v => rw [hg] at rv; exact (show False from rv).elim
    obtain ⟨q, es, ep, hq, h2, h3, h4, h6, h5⟩ := id dd'
    have rel' := NV.put rel k b rz
    rw [nPut_new hg] at rel'
    exact ⟨z, _, d_write I3 (by rw [g]; exact True.intro) hs ⟨q, hq⟩ (nd_new (by rw [List.length_append]; simp; omega) hd rel' dd'), rz, q4 hg⟩
end
/-! ### list(d): the keys -/
section
variable {X : Cx}
def rListKeys (P : Program) (w : World) : List V → Hp → VK → Prop := fun xs H Q => ∃ (a : Addr) (kvs : List NE), xs = [.ref a] ∧ Rd H a (NDo P w a kvs) ∧ ∀ l, H l = none → Q (.ref l) (upd H l (.lst (kvs.map fun e => V.ref e.2.1)))
theorem call_list_keys (hc : X.calm = true) : CallR X (.type "list") (rListKeys X.prog X.w) := by
  intro pins s σ H xs us Q I r h
  obtain ⟨d, kvs, rfl, hd, q⟩ := h
  obtain ⟨u, rfl, rx⟩ := vals1 r
  cases rx
  obtain ⟨z, hs, ks, pr, o, es, ep, ho, hx, hdt, he, hn⟩ := ndo_raw (rd_of I.hok hd)
  obtain ⟨hsz, ent⟩ := ent_get he pr
  refine PySem.W.kdl_call (kdl_raw hs hx hdt) (I.ok.hd hc) ho (by omega) fun h' tk acc' c' kp e it => ?_
  have rv : Vals (kvs.map fun e => V.ref e.2.1) acc'.toList := by
    refine vals_of_at (by rw [List.length_map]; have h1 := it.1; have h2 : acc'.toList.length = acc'.size := (by simp); omega) fun j x u h1 h2 => ?_
    rw [List.getElem?_map] at h1
    obtain ⟨e0, he0, rfl⟩ := Option.map_eq_some_iff.mp h1
    obtain ⟨en, hen, hv⟩ := it.2 j u (by rw [← Array.getElem?_toList]; exact h2)
    obtain ⟨en', hen', k1, _⟩ := ent j e0 he0
    rw [hen] at hen'
    cases hen'
    rw [hv, k1]
    exact rfl
  have hz : (kvs.map fun e => V.ref e.2.1).length ≤ sizeLine := by rw [List.length_map]; exact z
  refine ⟨.ref s.heap.objs.size, _, I.laid (t' := tk) (o := .lst (kvs.map fun e => V.ref e.2.1)) kp (Nat.le_refl _) ?_, rfl, q _ (I.hok.fresh (Nat.le_refl _))⟩
  exact ⟨hz, acc'.toList, c', rv, by rw [Array.toArray_toList]; exact e⟩
end
end ND
namespace ND
open PySem PySem.Spec PyProof.Rows L2
section
variable {X : Cx}
def rIn (P : Program) (w : World) (K : PySem.W.Frag) : R2 := fun y x H Q => ∃ a b k kvs, x = .ref a ∧ y = .ref b ∧ Rd H a (NDo P w a kvs) ∧ KsAt K H kvs ∧ KeyAt K H b k ∧ Q (.bl (nGet kvs k).isSome) H
def rNotIn (P : Program) (w : World) (K : PySem.W.Frag) : R2 := fun y x H Q => ∃ a b k kvs, x = .ref a ∧ y = .ref b ∧ Rd H a (NDo P w a kvs) ∧ KsAt K H kvs ∧ KeyAt K H b k ∧ Q (.bl (!(nGet kvs k).isSome)) H
theorem op_in (hu : X.A.units + 64 < cLine) : OpR X (compareOp .In) (rIn X.prog X.w X.K) := by
  intro pins s σ H y x v u Q I ry rx h
  obtain ⟨a, b, k, kvs, ex, ey, g, ks, kb, q⟩ := h
  subst ex ey
  cases (show u = Value.ref a from rx)
  cases (show v = Value.ref b from ry)
  exact n_in hu I g ks kb fun s3 I3 => ⟨.bl (nGet kvs k).isSome, H, I3, rfl, q⟩
theorem op_notIn (hu : X.A.units + 64 < cLine) : OpR X (compareOp .NotIn) (rNotIn X.prog X.w X.K) := by
  intro pins s σ H y x v u Q I ry rx h
  obtain ⟨a, b, k, kvs, ex, ey, g, ks, kb, q⟩ := h
  subst ex ey
  cases (show u = Value.ref a from rx)
  cases (show v = Value.ref b from ry)
  exact n_notIn hu I g ks kb fun s3 I3 => ⟨.bl (!(nGet kvs k).isSome), H, I3, rfl, q⟩
end
end ND
/-! a != b of two instances of a class that has its own == ; get of a written dict -/
namespace NeX
open PySem PySem.W PyProof.Rows PySem.Spec
section
variable {prog : Program} {w : World} {A : Around} {E : Value → Shared → Prop} {s : Shared} {K : Frag} {x C L f : Addr} {h₀ : Heap} {m : Str → Option Value} {ox : Obj} {od : Option Obj} {b : Value}
theorem ifBound_ne {args : List Value} {Q : Option Value → Shared → Prop} (X : K.In s.heap) (I : InstAt s.heap x ox C od) (hs : findIn K (.ref C) "__ne__" = some (some (.builtin "object.__ne__")))
    (h : wpAny (model prog w) A (call (.builtin "object.__ne__") (.ref x :: args)) (fun v => Q (some v)) E s) : wpAny (model prog w) A (callSpecialIfBound? (.ref x) "__ne__" args) Q E s := by
  simp only [callSpecialIfBound?, bindSpecialIfBound?]
  refine wpAny_holding (wpAny_bind (wpAny_bind (wpAny_bind (I.type.here ((looks_findIn X hs).here ?_)))))
  refine wpAny_bind (wpAny_askSetting (wpAny_ite ?_))
  have fin : wpAny (model prog w) A (call (.builtin "object.__ne__") ([.ref x] ++ args) >>= fun v => pure (some v)) Q E s := wpAny_bind (wpAny_mono h (fun v s' h' => wpAny_pure h') fun _ _ h' => h')
  have hb := F.slot_object_ne.bind (.ref x)
  split
  · exact wpAny_bind (wpAny_of_eq hb (wpAny_pure (by exact fin)))
  · exact wpAny_tryCatch (wpAny_bind (wpAny_of_eq hb (wpAny_pure (by exact fin))))
theorem ne_K {y : Addr} {oy : Obj} {ody : Option Obj} {Q : Value → Shared → Prop} (hu : A.units + 1 < cLine) (X : K.In s.heap) (I : InstAt s.heap x ox C od) (J : InstAt s.heap y oy C ody)
    (hs : findIn K (.ref C) "__ne__" = some (some (.builtin "object.__ne__"))) (he : findIn K (.ref C) "__eq__" = some (some (.ref f))) (hf : isFn K (.ref f) = true) (ho : mroIn K C (.type "object") = some true)
    (h : wpAny (model prog w) A.in1 (call (.ref f) [.ref x, .ref y]) (fun v s' => ∃ c, v = .bool c ∧ Q (.bool (!c)) s') E s) : wpAny (model prog w) A (richCompare .NotEq (.ref x) (.ref y)) Q E s := by
  have one : wpAny (model prog w) A (tryCompare (.ref x) "__ne__" (.ref y)) (fun r s' => ∃ v, r = some v ∧ Q v s') E s := by
    unfold tryCompare
    refine wpAny_bind (ifBound_ne X I hs ?_)
    have sub : Looks (model prog w) s.heap (isInstance (.ref x) (.type "object")) true := I.type.andThen (looks_mroIn X ho)
    refine wpAny_call (codeAny_call_builtin F.slot_object_ne.plain F.entry_object_ne (@check_slot (model prog w) _ _ s "object.__ne__" "object" "__ne__" (.ref x) [.ref y] [] _ (by decide +kernel) (by decide +kernel) sub (F.args_object_ne_2 _ _) ?_))
    show wpAny _ _ (slotArgs "__ne__" 1 ⟨[.ref x, .ref y], []⟩ >>= _) _ _ s
    refine wpAny_bind (wpAny_of_eq (a := (.ref x, [.ref y])) rfl ?_)
    refine wpAny_bind (wpAny_cRoomFor (by show A.units + 1 < cLine; exact hu) ?_)
    refine wpAny_bind (ifBound_K X I he hf (wpAny_mono h (fun v s' hv => ?_) fun _ _ e => e))
    obtain ⟨c, rfl, hq⟩ := hv
    refine wpAny_bind (wpAny_truthy_bool (wpAny_pure ?_))
    exact wpAny_pure ⟨_, rfl, hq⟩
  unfold richCompare
  simp only [oneThing_ref]
  refine wpAny_holding (wpAny_bind (wpAny_cRoomFor (by omega) ?_))
  refine wpAny_bind (I.type.here (wpAny_bind (J.type.here ?_)))
  rw [if_neg (by simp)]
  refine wpAny_bind (wpAny_pure ?_)
  simp only [Bool.false_eq_true, if_false]
  refine wpAny_bind (wpAny_mono one (fun r s' z => ?_) fun _ _ e => e)
  obtain ⟨v, rfl, hq⟩ := z
  exact wpAny_pure hq
end
end NeX
namespace LL
open PySem PySem.Spec PyProof.Rows L2
section
variable {X : Cx} {CX : CXT} {n : Nat} {C g : Addr} {sp : Sp} {E : XK}
/-- a != b by the class's own == -/
def rOwnNe (C : Addr) (sp : Sp) (E : XK) : R2 := fun x y H Q => ∃ a dx fs b dy gs, x = .ref a ∧ y = .ref b ∧ H a = some (.ins C dx fs) ∧ H b = some (.ins C dy gs) ∧ sp [x, y] H (fun z H' => ∃ c, z = .bl c ∧ Q (.bl (!c)) H') E
theorem op_ownNe (hn : PySem.W.findIn X.K (.ref C) "__ne__" = some (some (.builtin "object.__ne__"))) (hs : PySem.W.findIn X.K (.ref C) "__eq__" = some (some (.ref g))) (hf : PySem.W.isFn X.K (.ref g) = true) (ho : PySem.W.mroIn X.K C (.type "object") = some true) (F : FnR X.prog X.w X.K X.mg X.base CX n g sp)
    (hr : Room (n + 1) X.A) (hx : Passes CX X E) : OpR X (compareOp .NotEq) (rOwnNe C sp E) := by
  intro pins s σ H x y v u Q I rx ry h
  obtain ⟨a, dx, fs, b, dy, gs, rfl, rfl, ha, hb, q⟩ := h
  cases (show v = Value.ref a from rx)
  cases (show u = Value.ref b from ry)
  obtain ⟨mA, O, _⟩ := ins_get I.hok ha
  obtain ⟨od, J, _⟩ := O.look
  obtain ⟨mB, O2, _⟩ := ins_get I.hok hb
  obtain ⟨od2, J2, _⟩ := O2.look
  show wpAny (model X.prog X.w) X.A (richCompare .NotEq (.ref a) (.ref b)) _ _ s
  refine NeX.ne_K (hu_of hr) I.kIn J J2 hn hs hf ho ?_
  have e0 : Env0 X.prog X.w X.K X.mg X.base X.A.in1 X.stack s H := by
    have e := I.env0
    exact ⟨e.frames, e.mod, e.bs, e.bsz, e.funs, e.frf, e.hok, e.bare⟩
  refine wpAny_call (codeAny_mono (F X.A.in1 X.stack s H [.ref a, .ref b] [.ref a, .ref b] _ E hr.in1 e0 (.cons rfl (.cons rfl .nil)) q) fun r s' hq => ?_)
  cases r with
  | error e => exact hx pins σ H s e s' I hq
  | ok fl =>
    cases fl with
    | ret w =>
      obtain ⟨z, H', I', rz, c, ez, ex⟩ := I.after hq
      subst ez
      cases rz
      exact ⟨c, rfl, .bl (!c), H', I', rfl, ex⟩
    | next => exact False.elim hq
    | brk => exact False.elim hq
    | cont => exact False.elim hq
end
/-! ### get of a written dict with text keys -/
def KGet (K : PySem.W.Frag) (w : World) (a : Addr) (x : Str) (o : Option V) : Prop :=
  ∃ es n u, K.lookup a = some ⟨.type "dict", none, .dict es n, #[]⟩ ∧ PySem.W.KeysLit w.params es.toList ∧ PySem.W.nsIn K a x = some u ∧ RelO o u
def tKGet2 (K : PySem.W.Frag) (w : World) (td ty tx : TE) : TE := fun σ H Q => td σ H fun x H1 => ∃ a, x = .ref a ∧ (∃ z o, KGet K w a z o) ∧ (a == sysModules) = false ∧ ty σ H1 fun y H2 => tx σ H2 fun d H3 => ∃ z o, y = .str z ∧ KGet K w a z o ∧ Q (o.getD d) H3
section
variable {X : Cx} {o e f : Expr} {apos cpos : Pos} {td ty tx : TE}
theorem pe_kget2 (ho : PE X o td) (he : PE X e ty) (hf : PE X f tx) (m : M2 X o "get" apos e f cpos) : PE X (.Call (.Attribute o "get" apos) [e, f] [] cpos) (tKGet2 X.K X.w td ty tx) := by
  refine ⟨fun pins s σ H Q I h => ?_⟩
  refine wpAny_Call_method m.base m.few m.line PySem.F.plainAttrs_dict PySem.F.slot_dict_get PySem.F.type_dict_get (thn (ho.run pins s σ H _ I h) fun u s1 ⟨x, H1, I1, rx, a, ex, ⟨z0, o0, es0, n0, u0, hl0, hk0, _⟩, hsys, q1⟩ => ?_)
  subst ex
  obtain rfl : u = Value.ref a := rx
  have hm := PySem.W.mapOf_K (prog := X.prog) (w := X.w) I1.kIn hl0 hk0
  refine ⟨hm.typeIs, hm.noDict, ?_⟩
  rw [m.trees]
  refine Calls.callWith_builtin rfl (Calls.evalArgs_plain (Calls.spliced_cons (thn (he.run pins s1 σ H1 _ I1 q1) fun iv s2 ⟨y, H2, I2, ry, q2⟩ =>
    Calls.spliced_cons (thn (hf.run pins s2 σ H2 _ I2 q2) fun fv s3 ⟨d, H3, I3, rd, z, oo, ey, ⟨es, n, uo, hl, hk, hn, ro⟩, q3⟩ => Calls.spliced_nil ?_))))
  subst ey
  obtain ⟨t, rfl⟩ := ry
  have hm3 := PySem.W.mapOf_K (prog := X.prog) (w := X.w) I3.kIn hl hk
  refine call_meetsIn PySem.F.slot_dict_get hm3.typeIs PySem.F.entry_dict_get (PySem.F.args_dict_get_3 _ _ _) (meets_dict_get_default (strKind X.prog X.w) a (strKind_is X.prog X.w z t) hsys fv) ⟨_, hm3, ⟨oo.getD d, H3, I3.tok _, ?_, q3⟩⟩
  rw [PySem.W.find_K hl hn]
  exact ro.getD rd
end
/-- what a written dict holds, from the head's facts -/
theorem kget_of {K : PySem.W.Frag} {w : World} {a : Addr} {kvs : List (Str × He.Dv)} (h : He.dicW K a = some (He.keysIn w.params (kvs.map (·.1)))) (hv : He.valsB K a kvs = true) :
    (a == sysModules) = false ∧ ∀ z : Str, KGet K w a z ((kvs.lookup z).map (He.Dv.v K)) := by
  have h0 := h
  unfold He.dicW at h
  cases q : K.lookup a with
  | none => rw [q] at h; cases h
  | some o =>
    obtain ⟨oc, od, dt, osl⟩ := o
    rw [q] at h
    cases oc with
    | type c =>
      cases od with
      | none =>
        cases dt with
        | dict es n =>
          have h1 : (match decide (c = "dict") && (osl.isEmpty && !(a == sysModules)) with
            | true => some (es.toList.map He.keyOf)
            | false => none) = some (He.keysIn w.params (kvs.map (·.1))) := h
          cases z : decide (c = "dict") && (osl.isEmpty && !(a == sysModules)) with
          | false => rw [z] at h1; cases h1
          | true =>
            rw [z] at h1
            obtain ⟨z1, z2⟩ := Bool.and_eq_true_iff.mp z
            obtain ⟨z3, z4⟩ := Bool.and_eq_true_iff.mp z2
            have e1 : c = "dict" := of_decide_eq_true z1
            have e2 : osl = #[] := Array.isEmpty_iff.mp z3
            subst e1 e2
            have hk := He.keysLit_of (Option.some.inj h1)
            refine ⟨by simpa using z4, fun x => ?_⟩
            have hkey : es.toList.map He.keyOf = He.keysIn w.params (kvs.map (·.1)) := Option.some.inj h1
            by_cases hx : ∃ p ∈ kvs, p.1 = x
            · -- there
              have hl : ∃ d, kvs.lookup x = some d ∧ (x, d) ∈ kvs := by
                clear hv h0 h h1 hkey hk
                induction kvs with
                | nil => obtain ⟨p, hp, _⟩ := hx; cases hp
                | cons p r ih =>
                  obtain ⟨p1, p2⟩ := p
                  by_cases e : x = p1
                  · subst e
                    exact ⟨p2, by simp [List.lookup], .head _⟩
                  · have e' : (x == p1) = false := by simpa using e
                    obtain ⟨d, h1, h2⟩ := ih (by
                      obtain ⟨p, hp, he⟩ := hx
                      rcases List.mem_cons.mp hp with rfl | hp
                      · exact absurd he.symm e
                      · exact ⟨p, hp, he⟩)
                    exact ⟨d, by simp [List.lookup, e', h1], .tail _ h2⟩
              obtain ⟨d, hl, hm⟩ := hl
              obtain ⟨u, hu, ru⟩ := He.valsB_ok hv hm
              rw [hl]
              exact ⟨es, n, some u, q, hk, hu, ru⟩
            · have hn : kvs.lookup x = none := by
                clear hv h0 h h1 hkey hk
                induction kvs with
                | nil => rfl
                | cons p r ih =>
                  obtain ⟨p1, p2⟩ := p
                  have e : ¬ x = p1 := fun e => hx ⟨_, .head _, e.symm⟩
                  have e' : (x == p1) = false := by simpa using e
                  have := ih fun ⟨p, hp, he⟩ => hx ⟨p, .tail _ hp, he⟩
                  simp [List.lookup, e', this]
              rw [hn]
              refine ⟨es, n, none, q, hk, ?_, True.intro⟩
              unfold PySem.W.nsIn
              rw [q]
              have keys : ∀ e ∈ es.toList, ∃ y t, e.key = .str y t ∧ y ∈ kvs.map (·.1) := by
                intro e he
                obtain ⟨y, t, e1, _⟩ := hk.all e he
                refine ⟨y, t, e1, ?_⟩
                have : He.keyOf e ∈ He.keysIn w.params (kvs.map (·.1)) := by rw [← hkey]; exact List.mem_map_of_mem he
                unfold He.keyOf at this
                rw [e1] at this
                unfold He.keysIn at this
                obtain ⟨k, hk1, hk2⟩ := List.mem_map.mp this
                have := (Prod.mk.inj (Option.some.inj hk2)).1
                rw [← this]
                exact hk1
              have f1 : es.toList.find? (·.key.isStr x) = none := List.find?_eq_none.mpr fun e he => by
                obtain ⟨y, t, e1, hy⟩ := keys e he
                rw [e1]
                intro hz
                have : y = x := by
                  simp only [Value.isStr] at hz
                  simpa using hz
                subst this
                obtain ⟨p, hp, he⟩ := List.mem_map.mp hy
                exact hx ⟨p, hp, he⟩
              have f2 : es.toList.any (·.refKey) = false := by
                rw [List.any_eq_false]
                intro e he
                obtain ⟨y, t, e1, _⟩ := keys e he
                simp [DictEntry.refKey, e1]
              simp only [f1, f2]
              rfl
        | _ => cases h
      | some b => cases dt <;> cases h
    | _ => cases od <;> cases dt <;> cases h
end LL
namespace LL
open PySem PySem.Spec PyProof.Rows L2 He
/-! ### the row's places (printed by gen.py) -/
abbrev R : PySem.W.OpenRow := PySem.W.OpenLaw.row PySem.Challenge.rw_lostleast_k11_plans
def PR : Program := R.prog
def top (i : Nat) : Stmt := PySem.Challenge.pw_lostleast_k11_plans.main.body.getD i (.Pass ⟨0, 0, 0, 0⟩)
abbrev s__wall : Stmt := top 0
abbrev n__wall : List Str := ["k"]
theorem sc__wall : FnScope n__wall ["k"] (defScope s__wall) := ⟨rfl, rfl, rfl, by decide +kernel, rfl, by decide +kernel, by decide +kernel⟩
abbrev s_Ratio_init : Stmt := inClass (top 11) 0
abbrev n_Ratio_init : List Str := ["self", "num", "den", "left", "right"]
theorem sc_Ratio_init : FnScope n_Ratio_init ["self", "num", "den"] (defScope s_Ratio_init) := ⟨rfl, rfl, rfl, by decide +kernel, rfl, by decide +kernel, by decide +kernel⟩
abbrev s_Ratio_add : Stmt := inClass (top 11) 1
abbrev n_Ratio_add : List Str := ["self", "other"]
theorem sc_Ratio_add : FnScope n_Ratio_add ["self", "other"] (defScope s_Ratio_add) := ⟨rfl, rfl, rfl, by decide +kernel, rfl, by decide +kernel, by decide +kernel⟩
abbrev s_Ratio_sub : Stmt := inClass (top 11) 2
abbrev n_Ratio_sub : List Str := ["self", "other"]
theorem sc_Ratio_sub : FnScope n_Ratio_sub ["self", "other"] (defScope s_Ratio_sub) := ⟨rfl, rfl, rfl, by decide +kernel, rfl, by decide +kernel, by decide +kernel⟩
abbrev s_Ratio_mul : Stmt := inClass (top 11) 3
abbrev n_Ratio_mul : List Str := ["self", "other"]
theorem sc_Ratio_mul : FnScope n_Ratio_mul ["self", "other"] (defScope s_Ratio_mul) := ⟨rfl, rfl, rfl, by decide +kernel, rfl, by decide +kernel, by decide +kernel⟩
abbrev s_Ratio_eq : Stmt := inClass (top 11) 4
abbrev n_Ratio_eq : List Str := ["self", "other"]
theorem sc_Ratio_eq : FnScope n_Ratio_eq ["self", "other"] (defScope s_Ratio_eq) := ⟨rfl, rfl, rfl, by decide +kernel, rfl, by decide +kernel, by decide +kernel⟩
abbrev s_Ratio_str : Stmt := inClass (top 11) 5
abbrev n_Ratio_str : List Str := ["self"]
theorem sc_Ratio_str : FnScope n_Ratio_str ["self"] (defScope s_Ratio_str) := ⟨rfl, rfl, rfl, by decide +kernel, rfl, by decide +kernel, by decide +kernel⟩
abbrev s_Ratio_less : Stmt := inClass (top 11) 6
abbrev n_Ratio_less : List Str := ["self", "other"]
theorem sc_Ratio_less : FnScope n_Ratio_less ["self", "other"] (defScope s_Ratio_less) := ⟨rfl, rfl, rfl, by decide +kernel, rfl, by decide +kernel, by decide +kernel⟩
abbrev s_Ratio_over : Stmt := inClass (top 11) 7
abbrev n_Ratio_over : List Str := ["self", "other"]
theorem sc_Ratio_over : FnScope n_Ratio_over ["self", "other"] (defScope s_Ratio_over) := ⟨rfl, rfl, rfl, by decide +kernel, rfl, by decide +kernel, by decide +kernel⟩
abbrev s_added : Stmt := top 12
abbrev n_added : List Str := ["ratios", "result", "ratio"]
theorem sc_added : FnScope n_added ["ratios"] (defScope s_added) := ⟨rfl, rfl, rfl, by decide +kernel, rfl, by decide +kernel, by decide +kernel⟩
abbrev s_Plan_init : Stmt := inClass (top 14) 0
abbrev n_Plan_init : List Str := ["self", "entries", "at", "entry", "view", "lots", "lot"]
theorem sc_Plan_init : FnScope n_Plan_init ["self", "entries"] (defScope s_Plan_init) := ⟨rfl, rfl, rfl, by decide +kernel, rfl, by decide +kernel, by decide +kernel⟩
abbrev s_Plan_eq : Stmt := inClass (top 14) 1
abbrev n_Plan_eq : List Str := ["self", "other"]
theorem sc_Plan_eq : FnScope n_Plan_eq ["self", "other"] (defScope s_Plan_eq) := ⟨rfl, rfl, rfl, by decide +kernel, rfl, by decide +kernel, by decide +kernel⟩
abbrev s_Plan_entries : Stmt := inClass (top 14) 2
abbrev n_Plan_entries : List Str := ["self"]
theorem sc_Plan_entries : FnScope n_Plan_entries ["self"] (defScope s_Plan_entries) := ⟨rfl, rfl, rfl, by decide +kernel, rfl, by decide +kernel, by decide +kernel⟩
abbrev s_Plan_lots : Stmt := inClass (top 14) 3
abbrev n_Plan_lots : List Str := ["self", "view", "count", "lots"]
theorem sc_Plan_lots : FnScope n_Plan_lots ["self", "view", "count"] (defScope s_Plan_lots) := ⟨rfl, rfl, rfl, by decide +kernel, rfl, by decide +kernel, by decide +kernel⟩
abbrev s_sure : Stmt := top 15
abbrev n_sure : List Str := ["views", "moves", "entries", "pair", "move", "part"]
theorem sc_sure : FnScope n_sure ["views", "moves"] (defScope s_sure) := ⟨rfl, rfl, rfl, by decide +kernel, rfl, by decide +kernel, by decide +kernel⟩
abbrev s_l_pool : Stmt := top 17
abbrev n_l_pool : List Str := ["_law_script", "_law_budget"]
theorem sc_l_pool : FnScope n_l_pool ["_law_script", "_law_budget"] (defScope s_l_pool) := ⟨rfl, rfl, rfl, by decide +kernel, rfl, by decide +kernel, by decide +kernel⟩
abbrev s_l_draw : Stmt := top 18
abbrev n_l_draw : List Str := ["_law_pool_here", "_law_size", "_law_cell", "_law_value"]
theorem sc_l_draw : FnScope n_l_draw ["_law_pool_here", "_law_size"] (defScope s_l_draw) := ⟨rfl, rfl, rfl, by decide +kernel, rfl, by decide +kernel, by decide +kernel⟩
abbrev s_l_same : Stmt := top 19
abbrev n_l_same : List Str := ["_law_actual", "_law_due", "_law_k"]
theorem sc_l_same : FnScope n_l_same ["_law_actual", "_law_due"] (defScope s_l_same) := ⟨rfl, rfl, rfl, by decide +kernel, rfl, by decide +kernel, by decide +kernel⟩
abbrev s_l_less : Stmt := top 20
abbrev n_l_less : List Str := ["_law_num", "_law_den", "_law_a", "_law_b", "_law_k"]
theorem sc_l_less : FnScope n_l_less ["_law_num", "_law_den"] (defScope s_l_less) := ⟨rfl, rfl, rfl, by decide +kernel, rfl, by decide +kernel, by decide +kernel⟩
abbrev s_l_made_plan : Stmt := top 21
abbrev n_l_made_plan : List Str := ["_law_plan", "_law_num", "_law_den", "_law_view"]
theorem sc_l_made_plan : FnScope n_l_made_plan ["_law_plan"] (defScope s_l_made_plan) := ⟨rfl, rfl, rfl, by decide +kernel, rfl, by decide +kernel, by decide +kernel⟩
abbrev s_l_weights : Stmt := top 22
abbrev n_l_weights : List Str := ["_law_pool_here", "_law_k", "_law_weights_here", "_law_whole", "_law_way", "_law_at", "_law_less_here", "_law_others", "_law_part", "_law_first", "_law_second"]
theorem sc_l_weights : FnScope n_l_weights ["_law_pool_here"] (defScope s_l_weights) := ⟨rfl, rfl, rfl, by decide +kernel, rfl, by decide +kernel, by decide +kernel⟩
abbrev s_l_told : Stmt := top 23
abbrev n_l_told : List Str := ["_law_plan", "_law_found", "_law_rows", "_law_entry", "_law_lot"]
theorem sc_l_told : FnScope n_l_told ["_law_plan"] (defScope s_l_told) := ⟨rfl, rfl, rfl, by decide +kernel, rfl, by decide +kernel, by decide +kernel⟩
abbrev s_l_kept : Stmt := top 24
abbrev n_l_kept : List Str := ["_law_entries", "_law_lot", "_law_view", "_law_lots"]
theorem sc_l_kept : FnScope n_l_kept ["_law_entries"] (defScope s_l_kept) := ⟨rfl, rfl, rfl, by decide +kernel, rfl, by decide +kernel, by decide +kernel⟩
abbrev s_l_sure : Stmt := top 25
abbrev n_l_sure : List Str := ["_law_pool_here", "_law_views", "_law_k", "_law_count", "_law_view", "_law_turn", "_law_moves", "_law_due", "_law_part", "_law_passed", "_law_actual", "_law_num", "_law_den", "_law_lots", "_law_same_here"]
theorem sc_l_sure : FnScope n_l_sure ["_law_pool_here"] (defScope s_l_sure) := ⟨rfl, rfl, rfl, by decide +kernel, rfl, by decide +kernel, by decide +kernel⟩
abbrev s_law : Stmt := top 26
abbrev n_law : List Str := ["_law_script", "_law_pool_here", "_law_rows", "_law_bad", "_law_k", "_law_view", "_law_weights_here", "_law_whole", "_law_row", "_law_wrong", "_law_weight", "_law_num", "_law_den", "_law_lots", "_law_entries", "_law_kept_here", "_law_plan", "e", "_law_due", "_law_told_here", "_law_more", "_law_other", "_law_short", "_law_at", "_law_moved"]
theorem sc_law : FnScope n_law ["_law_script"] (defScope s_law) := ⟨rfl, rfl, rfl, by decide +kernel, rfl, by decide +kernel, by decide +kernel⟩
def d__wall : He.DefD := ⟨("_wall", none), "_wall", "_wall", defArgs s__wall, defBody s__wall, defScope s__wall, [], []⟩
def d_Ratio_init : He.DefD := ⟨("Ratio", some "__init__"), "__init__", "Ratio.__init__", defArgs s_Ratio_init, defBody s_Ratio_init, defScope s_Ratio_init, [.int 1], []⟩
def d_Ratio_add : He.DefD := ⟨("Ratio", some "__add__"), "__add__", "Ratio.__add__", defArgs s_Ratio_add, defBody s_Ratio_add, defScope s_Ratio_add, [], []⟩
def d_Ratio_sub : He.DefD := ⟨("Ratio", some "__sub__"), "__sub__", "Ratio.__sub__", defArgs s_Ratio_sub, defBody s_Ratio_sub, defScope s_Ratio_sub, [], []⟩
def d_Ratio_mul : He.DefD := ⟨("Ratio", some "__mul__"), "__mul__", "Ratio.__mul__", defArgs s_Ratio_mul, defBody s_Ratio_mul, defScope s_Ratio_mul, [], []⟩
def d_Ratio_eq : He.DefD := ⟨("Ratio", some "__eq__"), "__eq__", "Ratio.__eq__", defArgs s_Ratio_eq, defBody s_Ratio_eq, defScope s_Ratio_eq, [], []⟩
def d_Ratio_str : He.DefD := ⟨("Ratio", some "__str__"), "__str__", "Ratio.__str__", defArgs s_Ratio_str, defBody s_Ratio_str, defScope s_Ratio_str, [], []⟩
def d_Ratio_less : He.DefD := ⟨("Ratio", some "less"), "less", "Ratio.less", defArgs s_Ratio_less, defBody s_Ratio_less, defScope s_Ratio_less, [], []⟩
def d_Ratio_over : He.DefD := ⟨("Ratio", some "over"), "over", "Ratio.over", defArgs s_Ratio_over, defBody s_Ratio_over, defScope s_Ratio_over, [], []⟩
def d_added : He.DefD := ⟨("added", none), "added", "added", defArgs s_added, defBody s_added, defScope s_added, [], []⟩
def d_Plan_init : He.DefD := ⟨("Plan", some "__init__"), "__init__", "Plan.__init__", defArgs s_Plan_init, defBody s_Plan_init, defScope s_Plan_init, [], []⟩
def d_Plan_eq : He.DefD := ⟨("Plan", some "__eq__"), "__eq__", "Plan.__eq__", defArgs s_Plan_eq, defBody s_Plan_eq, defScope s_Plan_eq, [], []⟩
def d_Plan_entries : He.DefD := ⟨("Plan", some "entries"), "entries", "Plan.entries", defArgs s_Plan_entries, defBody s_Plan_entries, defScope s_Plan_entries, [], []⟩
def d_Plan_lots : He.DefD := ⟨("Plan", some "lots"), "lots", "Plan.lots", defArgs s_Plan_lots, defBody s_Plan_lots, defScope s_Plan_lots, [], []⟩
def d_sure : He.DefD := ⟨("sure", none), "sure", "sure", defArgs s_sure, defBody s_sure, defScope s_sure, [], []⟩
def d_l_pool : He.DefD := ⟨("_law_pool", none), "_law_pool", "_law_pool", defArgs s_l_pool, defBody s_l_pool, defScope s_l_pool, [], []⟩
def d_l_draw : He.DefD := ⟨("_law_draw", none), "_law_draw", "_law_draw", defArgs s_l_draw, defBody s_l_draw, defScope s_l_draw, [], []⟩
def d_l_same : He.DefD := ⟨("_law_same", none), "_law_same", "_law_same", defArgs s_l_same, defBody s_l_same, defScope s_l_same, [], []⟩
def d_l_less : He.DefD := ⟨("_law_less", none), "_law_less", "_law_less", defArgs s_l_less, defBody s_l_less, defScope s_l_less, [], []⟩
def d_l_made_plan : He.DefD := ⟨("_law_made_plan", none), "_law_made_plan", "_law_made_plan", defArgs s_l_made_plan, defBody s_l_made_plan, defScope s_l_made_plan, [], []⟩
def d_l_weights : He.DefD := ⟨("_law_weights", none), "_law_weights", "_law_weights", defArgs s_l_weights, defBody s_l_weights, defScope s_l_weights, [], []⟩
def d_l_told : He.DefD := ⟨("_law_told", none), "_law_told", "_law_told", defArgs s_l_told, defBody s_l_told, defScope s_l_told, [], []⟩
def d_l_kept : He.DefD := ⟨("_law_kept", none), "_law_kept", "_law_kept", defArgs s_l_kept, defBody s_l_kept, defScope s_l_kept, [], []⟩
def d_l_sure : He.DefD := ⟨("_law_sure", none), "_law_sure", "_law_sure", defArgs s_l_sure, defBody s_l_sure, defScope s_l_sure, [], []⟩
def d_law : He.DefD := ⟨("law", none), "law", "law", defArgs s_law, defBody s_law, defScope s_law, [], []⟩
def excB (K : PySem.W.Frag) (D : Addr) : Bool := eqO (PySem.W.findIn K (.ref D) "__getattribute__") (some (some (.builtin "BaseException.__getattribute__"))) && (eqO (PySem.W.findIn K (.ref D) "__getattr__") (some none) && (decide (PySem.W.subIn K (.ref D) (.type "BaseException") = some true) && (PySem.W.hasDictIn K D && (eqO (PySem.W.findIn K (.ref D) "__class__") (some (some (.builtin "object.__class__"))) && (eqO (PySem.W.specialIn K (.builtin "object.__class__") "__get__") (some (some (.builtin "getset_descriptor.__get__"))) && (decide (PySem.W.takesIn K (.builtin "object.__class__") = some true) && decide (PySem.W.mroIn K D (.type "object") = some true)))))))
theorem excB_ok {K : PySem.W.Frag} {D : Addr} (h : excB K D = true) : ExcC K D := by
  simp only [excB, Bool.and_eq_true] at h
  obtain ⟨h1, h2, h3, h4, h5, h6, h7, h8⟩ := h
  exact ⟨eqO_ok h1, eqO_ok h2, of_decide_eq_true h3, h4, eqO_ok h5, eqO_ok h6, of_decide_eq_true h7, of_decide_eq_true h8⟩
def fn : List He.DefD := [d__wall, d_Ratio_init, d_Ratio_add, d_Ratio_sub, d_Ratio_mul, d_Ratio_eq, d_Ratio_str, d_Ratio_less, d_Ratio_over, d_added, d_Plan_init, d_Plan_eq, d_Plan_entries, d_Plan_lots, d_sure, d_l_pool, d_l_draw, d_l_same, d_l_less, d_l_made_plan, d_l_weights, d_l_told, d_l_kept, d_l_sure, d_law]
def fa : List He.Fa := [
  .glo "_wall",
  .glo "added",
  .glo "sure",
  .glo "_law_pool",
  .glo "_law_draw",
  .glo "_law_same",
  .glo "_law_less",
  .glo "_law_made_plan",
  .glo "_law_weights",
  .glo "_law_told",
  .glo "_law_kept",
  .glo "_law_sure",
  .glo "law",
  .glo "LossError",
  .exc "LossError",
  .glo "BadText",
  .glo "BadRatio",
  .exc "BadRatio",
  .glo "BadPlan",
  .glo "BadPaper",
  .glo "NoShare",
  .glo "NoPlan",
  .glo "TooLarge",
  .glo "Ratio",
  .cls "Ratio",
  .mkr "Ratio",
  .noat "Ratio" "num",
  .noat "Ratio" "den",
  .meth "Ratio" "__add__",
  .meth "Ratio" "__sub__",
  .meth "Ratio" "__mul__",
  .meth "Ratio" "__eq__",
  .meth "Ratio" "__str__",
  .meth "Ratio" "less",
  .meth "Ratio" "over",
  .glo "Plan",
  .cls "Plan",
  .mkr "Plan",
  .noat "Plan" "table",
  .meth "Plan" "__eq__",
  .meth "Plan" "entries",
  .meth "Plan" "lots",
  .free "ValueError",
  .free "zip",
  .free "isinstance",
  .free "int",
  .free "abs",
  .free "range",
  .free "sum",
  .free "dict",
  .free "enumerate",
  .free "list",
  .free "tuple",
  .free "bool",
  .free "str",
  .free "max",
  .free "len",
  .free "super",
  .free "any",
  .free "min"]
def exs : List (PySem.W.Frag → Bool) := [
  fun K => eqO (PySem.W.findIn K (.ref (ga K "Ratio")) "__class__") (some (some (.builtin "object.__class__"))),
  fun K => PySem.W.notFirst K (ga K "Ratio") (.ref (ga K "Ratio")),
  fun K => eqO (PySem.W.findIn K (.ref (ga K "Ratio")) "__ne__") (some (some (.builtin "object.__ne__"))),
  fun K => decide (PySem.W.mroIn K (ga K "Ratio") (.type "object") = some true),
  fun K => decide (PySem.W.kitOne K (.ref (ga K "Ratio")) (.type "tuple") = some false),
  fun K => decide (PySem.W.kitOne K (.ref (ga K "Ratio")) (.type "list") = some false),
  fun K => decide (PySem.W.kitOne K (.ref (ga K "Ratio")) (.type "bool") = some false),
  fun K => decide (PySem.W.kitOne K (.ref (ga K "Ratio")) (.type "int") = some false),
  fun K => decide (PySem.W.kitOne K (.ref (ga K "Ratio")) (.type "str") = some false),
  fun K => decide (PySem.W.kitOne K (.ref (ga K "Ratio")) (.ref (ga K "Ratio")) = some true),
  fun K => decide (PySem.W.kitOne K (.ref (ga K "Ratio")) (.ref (ga K "Plan")) = some false),
  fun K => eqO (PySem.W.findIn K (.ref (ga K "Ratio")) "__format__") (some (some (.builtin "object.__format__"))),
  fun K => PySem.W.selfFirst K (ga K "Ratio"),
  fun K => eqO (PySem.W.findIn K (.ref (ga K "Plan")) "__class__") (some (some (.builtin "object.__class__"))),
  fun K => PySem.W.notFirst K (ga K "Plan") (.ref (ga K "Plan")),
  fun K => eqO (PySem.W.findIn K (.ref (ga K "Plan")) "__ne__") (some (some (.builtin "object.__ne__"))),
  fun K => decide (PySem.W.mroIn K (ga K "Plan") (.type "object") = some true),
  fun K => decide (PySem.W.kitOne K (.ref (ga K "Plan")) (.type "tuple") = some false),
  fun K => decide (PySem.W.kitOne K (.ref (ga K "Plan")) (.type "list") = some false),
  fun K => decide (PySem.W.kitOne K (.ref (ga K "Plan")) (.type "bool") = some false),
  fun K => decide (PySem.W.kitOne K (.ref (ga K "Plan")) (.type "int") = some false),
  fun K => decide (PySem.W.kitOne K (.ref (ga K "Plan")) (.type "str") = some false),
  fun K => decide (PySem.W.kitOne K (.ref (ga K "Plan")) (.ref (ga K "Ratio")) = some false),
  fun K => decide (PySem.W.kitOne K (.ref (ga K "Plan")) (.ref (ga K "Plan")) = some true),
  fun K => eqO (PySem.W.specialIn K (.builtin "object.__class__") "__get__") (some (some (.builtin "getset_descriptor.__get__"))),
  fun K => decide (PySem.W.takesIn K (.builtin "object.__class__") = some true),
  fun K => excB K (ga K "LossError"),
  fun K => decide (PySem.W.exmOne K (.ref (ga K "LossError")) (.ref (ga K "LossError")) = some true),
  fun K => decide (PySem.W.kitOne K (.ref (ga K "LossError")) (.ref (ga K "LossError")) = some true),
  fun K => decide (PySem.W.exmOne K (.ref (ga K "LossError")) (.ref (ga K "BadText")) = some false),
  fun K => decide (PySem.W.kitOne K (.ref (ga K "LossError")) (.ref (ga K "BadText")) = some false),
  fun K => decide (PySem.W.exmOne K (.ref (ga K "LossError")) (.ref (ga K "BadRatio")) = some false),
  fun K => decide (PySem.W.kitOne K (.ref (ga K "LossError")) (.ref (ga K "BadRatio")) = some false),
  fun K => decide (PySem.W.exmOne K (.ref (ga K "LossError")) (.ref (ga K "BadPlan")) = some false),
  fun K => decide (PySem.W.kitOne K (.ref (ga K "LossError")) (.ref (ga K "BadPlan")) = some false),
  fun K => decide (PySem.W.exmOne K (.ref (ga K "LossError")) (.ref (ga K "BadPaper")) = some false),
  fun K => decide (PySem.W.kitOne K (.ref (ga K "LossError")) (.ref (ga K "BadPaper")) = some false),
  fun K => decide (PySem.W.exmOne K (.ref (ga K "LossError")) (.ref (ga K "NoShare")) = some false),
  fun K => decide (PySem.W.kitOne K (.ref (ga K "LossError")) (.ref (ga K "NoShare")) = some false),
  fun K => decide (PySem.W.exmOne K (.ref (ga K "LossError")) (.ref (ga K "NoPlan")) = some false),
  fun K => decide (PySem.W.kitOne K (.ref (ga K "LossError")) (.ref (ga K "NoPlan")) = some false),
  fun K => decide (PySem.W.exmOne K (.ref (ga K "LossError")) (.ref (ga K "TooLarge")) = some false),
  fun K => decide (PySem.W.kitOne K (.ref (ga K "LossError")) (.ref (ga K "TooLarge")) = some false),
  fun K => decide (PySem.W.kitOne K (.ref (ga K "LossError")) (.type "ValueError") = some true),
  fun K => excB K (ga K "BadText"),
  fun K => decide (PySem.W.exmOne K (.ref (ga K "BadText")) (.ref (ga K "LossError")) = some true),
  fun K => decide (PySem.W.kitOne K (.ref (ga K "BadText")) (.ref (ga K "LossError")) = some true),
  fun K => decide (PySem.W.exmOne K (.ref (ga K "BadText")) (.ref (ga K "BadText")) = some true),
  fun K => decide (PySem.W.kitOne K (.ref (ga K "BadText")) (.ref (ga K "BadText")) = some true),
  fun K => decide (PySem.W.exmOne K (.ref (ga K "BadText")) (.ref (ga K "BadRatio")) = some false),
  fun K => decide (PySem.W.kitOne K (.ref (ga K "BadText")) (.ref (ga K "BadRatio")) = some false),
  fun K => decide (PySem.W.exmOne K (.ref (ga K "BadText")) (.ref (ga K "BadPlan")) = some false),
  fun K => decide (PySem.W.kitOne K (.ref (ga K "BadText")) (.ref (ga K "BadPlan")) = some false),
  fun K => decide (PySem.W.exmOne K (.ref (ga K "BadText")) (.ref (ga K "BadPaper")) = some false),
  fun K => decide (PySem.W.kitOne K (.ref (ga K "BadText")) (.ref (ga K "BadPaper")) = some false),
  fun K => decide (PySem.W.exmOne K (.ref (ga K "BadText")) (.ref (ga K "NoShare")) = some false),
  fun K => decide (PySem.W.kitOne K (.ref (ga K "BadText")) (.ref (ga K "NoShare")) = some false),
  fun K => decide (PySem.W.exmOne K (.ref (ga K "BadText")) (.ref (ga K "NoPlan")) = some false),
  fun K => decide (PySem.W.kitOne K (.ref (ga K "BadText")) (.ref (ga K "NoPlan")) = some false),
  fun K => decide (PySem.W.exmOne K (.ref (ga K "BadText")) (.ref (ga K "TooLarge")) = some false),
  fun K => decide (PySem.W.kitOne K (.ref (ga K "BadText")) (.ref (ga K "TooLarge")) = some false),
  fun K => decide (PySem.W.kitOne K (.ref (ga K "BadText")) (.type "ValueError") = some true),
  fun K => excB K (ga K "BadRatio"),
  fun K => decide (PySem.W.exmOne K (.ref (ga K "BadRatio")) (.ref (ga K "LossError")) = some true),
  fun K => decide (PySem.W.kitOne K (.ref (ga K "BadRatio")) (.ref (ga K "LossError")) = some true),
  fun K => decide (PySem.W.exmOne K (.ref (ga K "BadRatio")) (.ref (ga K "BadText")) = some false),
  fun K => decide (PySem.W.kitOne K (.ref (ga K "BadRatio")) (.ref (ga K "BadText")) = some false),
  fun K => decide (PySem.W.exmOne K (.ref (ga K "BadRatio")) (.ref (ga K "BadRatio")) = some true),
  fun K => decide (PySem.W.kitOne K (.ref (ga K "BadRatio")) (.ref (ga K "BadRatio")) = some true),
  fun K => decide (PySem.W.exmOne K (.ref (ga K "BadRatio")) (.ref (ga K "BadPlan")) = some false),
  fun K => decide (PySem.W.kitOne K (.ref (ga K "BadRatio")) (.ref (ga K "BadPlan")) = some false),
  fun K => decide (PySem.W.exmOne K (.ref (ga K "BadRatio")) (.ref (ga K "BadPaper")) = some false),
  fun K => decide (PySem.W.kitOne K (.ref (ga K "BadRatio")) (.ref (ga K "BadPaper")) = some false),
  fun K => decide (PySem.W.exmOne K (.ref (ga K "BadRatio")) (.ref (ga K "NoShare")) = some false),
  fun K => decide (PySem.W.kitOne K (.ref (ga K "BadRatio")) (.ref (ga K "NoShare")) = some false),
  fun K => decide (PySem.W.exmOne K (.ref (ga K "BadRatio")) (.ref (ga K "NoPlan")) = some false),
  fun K => decide (PySem.W.kitOne K (.ref (ga K "BadRatio")) (.ref (ga K "NoPlan")) = some false),
  fun K => decide (PySem.W.exmOne K (.ref (ga K "BadRatio")) (.ref (ga K "TooLarge")) = some false),
  fun K => decide (PySem.W.kitOne K (.ref (ga K "BadRatio")) (.ref (ga K "TooLarge")) = some false),
  fun K => decide (PySem.W.kitOne K (.ref (ga K "BadRatio")) (.type "ValueError") = some true),
  fun K => excB K (ga K "BadPlan"),
  fun K => decide (PySem.W.exmOne K (.ref (ga K "BadPlan")) (.ref (ga K "LossError")) = some true),
  fun K => decide (PySem.W.kitOne K (.ref (ga K "BadPlan")) (.ref (ga K "LossError")) = some true),
  fun K => decide (PySem.W.exmOne K (.ref (ga K "BadPlan")) (.ref (ga K "BadText")) = some false),
  fun K => decide (PySem.W.kitOne K (.ref (ga K "BadPlan")) (.ref (ga K "BadText")) = some false),
  fun K => decide (PySem.W.exmOne K (.ref (ga K "BadPlan")) (.ref (ga K "BadRatio")) = some false),
  fun K => decide (PySem.W.kitOne K (.ref (ga K "BadPlan")) (.ref (ga K "BadRatio")) = some false),
  fun K => decide (PySem.W.exmOne K (.ref (ga K "BadPlan")) (.ref (ga K "BadPlan")) = some true),
  fun K => decide (PySem.W.kitOne K (.ref (ga K "BadPlan")) (.ref (ga K "BadPlan")) = some true),
  fun K => decide (PySem.W.exmOne K (.ref (ga K "BadPlan")) (.ref (ga K "BadPaper")) = some false),
  fun K => decide (PySem.W.kitOne K (.ref (ga K "BadPlan")) (.ref (ga K "BadPaper")) = some false),
  fun K => decide (PySem.W.exmOne K (.ref (ga K "BadPlan")) (.ref (ga K "NoShare")) = some false),
  fun K => decide (PySem.W.kitOne K (.ref (ga K "BadPlan")) (.ref (ga K "NoShare")) = some false),
  fun K => decide (PySem.W.exmOne K (.ref (ga K "BadPlan")) (.ref (ga K "NoPlan")) = some false),
  fun K => decide (PySem.W.kitOne K (.ref (ga K "BadPlan")) (.ref (ga K "NoPlan")) = some false),
  fun K => decide (PySem.W.exmOne K (.ref (ga K "BadPlan")) (.ref (ga K "TooLarge")) = some false),
  fun K => decide (PySem.W.kitOne K (.ref (ga K "BadPlan")) (.ref (ga K "TooLarge")) = some false),
  fun K => decide (PySem.W.kitOne K (.ref (ga K "BadPlan")) (.type "ValueError") = some true),
  fun K => excB K (ga K "BadPaper"),
  fun K => decide (PySem.W.exmOne K (.ref (ga K "BadPaper")) (.ref (ga K "LossError")) = some true),
  fun K => decide (PySem.W.kitOne K (.ref (ga K "BadPaper")) (.ref (ga K "LossError")) = some true),
  fun K => decide (PySem.W.exmOne K (.ref (ga K "BadPaper")) (.ref (ga K "BadText")) = some false),
  fun K => decide (PySem.W.kitOne K (.ref (ga K "BadPaper")) (.ref (ga K "BadText")) = some false),
  fun K => decide (PySem.W.exmOne K (.ref (ga K "BadPaper")) (.ref (ga K "BadRatio")) = some false),
  fun K => decide (PySem.W.kitOne K (.ref (ga K "BadPaper")) (.ref (ga K "BadRatio")) = some false),
  fun K => decide (PySem.W.exmOne K (.ref (ga K "BadPaper")) (.ref (ga K "BadPlan")) = some false),
  fun K => decide (PySem.W.kitOne K (.ref (ga K "BadPaper")) (.ref (ga K "BadPlan")) = some false),
  fun K => decide (PySem.W.exmOne K (.ref (ga K "BadPaper")) (.ref (ga K "BadPaper")) = some true),
  fun K => decide (PySem.W.kitOne K (.ref (ga K "BadPaper")) (.ref (ga K "BadPaper")) = some true),
  fun K => decide (PySem.W.exmOne K (.ref (ga K "BadPaper")) (.ref (ga K "NoShare")) = some false),
  fun K => decide (PySem.W.kitOne K (.ref (ga K "BadPaper")) (.ref (ga K "NoShare")) = some false),
  fun K => decide (PySem.W.exmOne K (.ref (ga K "BadPaper")) (.ref (ga K "NoPlan")) = some false),
  fun K => decide (PySem.W.kitOne K (.ref (ga K "BadPaper")) (.ref (ga K "NoPlan")) = some false),
  fun K => decide (PySem.W.exmOne K (.ref (ga K "BadPaper")) (.ref (ga K "TooLarge")) = some false),
  fun K => decide (PySem.W.kitOne K (.ref (ga K "BadPaper")) (.ref (ga K "TooLarge")) = some false),
  fun K => decide (PySem.W.kitOne K (.ref (ga K "BadPaper")) (.type "ValueError") = some true),
  fun K => excB K (ga K "NoShare"),
  fun K => decide (PySem.W.exmOne K (.ref (ga K "NoShare")) (.ref (ga K "LossError")) = some true),
  fun K => decide (PySem.W.kitOne K (.ref (ga K "NoShare")) (.ref (ga K "LossError")) = some true),
  fun K => decide (PySem.W.exmOne K (.ref (ga K "NoShare")) (.ref (ga K "BadText")) = some false),
  fun K => decide (PySem.W.kitOne K (.ref (ga K "NoShare")) (.ref (ga K "BadText")) = some false),
  fun K => decide (PySem.W.exmOne K (.ref (ga K "NoShare")) (.ref (ga K "BadRatio")) = some false),
  fun K => decide (PySem.W.kitOne K (.ref (ga K "NoShare")) (.ref (ga K "BadRatio")) = some false),
  fun K => decide (PySem.W.exmOne K (.ref (ga K "NoShare")) (.ref (ga K "BadPlan")) = some false),
  fun K => decide (PySem.W.kitOne K (.ref (ga K "NoShare")) (.ref (ga K "BadPlan")) = some false),
  fun K => decide (PySem.W.exmOne K (.ref (ga K "NoShare")) (.ref (ga K "BadPaper")) = some false),
  fun K => decide (PySem.W.kitOne K (.ref (ga K "NoShare")) (.ref (ga K "BadPaper")) = some false),
  fun K => decide (PySem.W.exmOne K (.ref (ga K "NoShare")) (.ref (ga K "NoShare")) = some true),
  fun K => decide (PySem.W.kitOne K (.ref (ga K "NoShare")) (.ref (ga K "NoShare")) = some true),
  fun K => decide (PySem.W.exmOne K (.ref (ga K "NoShare")) (.ref (ga K "NoPlan")) = some false),
  fun K => decide (PySem.W.kitOne K (.ref (ga K "NoShare")) (.ref (ga K "NoPlan")) = some false),
  fun K => decide (PySem.W.exmOne K (.ref (ga K "NoShare")) (.ref (ga K "TooLarge")) = some false),
  fun K => decide (PySem.W.kitOne K (.ref (ga K "NoShare")) (.ref (ga K "TooLarge")) = some false),
  fun K => decide (PySem.W.kitOne K (.ref (ga K "NoShare")) (.type "ValueError") = some true),
  fun K => excB K (ga K "NoPlan"),
  fun K => decide (PySem.W.exmOne K (.ref (ga K "NoPlan")) (.ref (ga K "LossError")) = some true),
  fun K => decide (PySem.W.kitOne K (.ref (ga K "NoPlan")) (.ref (ga K "LossError")) = some true),
  fun K => decide (PySem.W.exmOne K (.ref (ga K "NoPlan")) (.ref (ga K "BadText")) = some false),
  fun K => decide (PySem.W.kitOne K (.ref (ga K "NoPlan")) (.ref (ga K "BadText")) = some false),
  fun K => decide (PySem.W.exmOne K (.ref (ga K "NoPlan")) (.ref (ga K "BadRatio")) = some false),
  fun K => decide (PySem.W.kitOne K (.ref (ga K "NoPlan")) (.ref (ga K "BadRatio")) = some false),
  fun K => decide (PySem.W.exmOne K (.ref (ga K "NoPlan")) (.ref (ga K "BadPlan")) = some false),
  fun K => decide (PySem.W.kitOne K (.ref (ga K "NoPlan")) (.ref (ga K "BadPlan")) = some false),
  fun K => decide (PySem.W.exmOne K (.ref (ga K "NoPlan")) (.ref (ga K "BadPaper")) = some false),
  fun K => decide (PySem.W.kitOne K (.ref (ga K "NoPlan")) (.ref (ga K "BadPaper")) = some false),
  fun K => decide (PySem.W.exmOne K (.ref (ga K "NoPlan")) (.ref (ga K "NoShare")) = some false),
  fun K => decide (PySem.W.kitOne K (.ref (ga K "NoPlan")) (.ref (ga K "NoShare")) = some false),
  fun K => decide (PySem.W.exmOne K (.ref (ga K "NoPlan")) (.ref (ga K "NoPlan")) = some true),
  fun K => decide (PySem.W.kitOne K (.ref (ga K "NoPlan")) (.ref (ga K "NoPlan")) = some true),
  fun K => decide (PySem.W.exmOne K (.ref (ga K "NoPlan")) (.ref (ga K "TooLarge")) = some false),
  fun K => decide (PySem.W.kitOne K (.ref (ga K "NoPlan")) (.ref (ga K "TooLarge")) = some false),
  fun K => decide (PySem.W.kitOne K (.ref (ga K "NoPlan")) (.type "ValueError") = some true),
  fun K => excB K (ga K "TooLarge"),
  fun K => decide (PySem.W.exmOne K (.ref (ga K "TooLarge")) (.ref (ga K "LossError")) = some true),
  fun K => decide (PySem.W.kitOne K (.ref (ga K "TooLarge")) (.ref (ga K "LossError")) = some true),
  fun K => decide (PySem.W.exmOne K (.ref (ga K "TooLarge")) (.ref (ga K "BadText")) = some false),
  fun K => decide (PySem.W.kitOne K (.ref (ga K "TooLarge")) (.ref (ga K "BadText")) = some false),
  fun K => decide (PySem.W.exmOne K (.ref (ga K "TooLarge")) (.ref (ga K "BadRatio")) = some false),
  fun K => decide (PySem.W.kitOne K (.ref (ga K "TooLarge")) (.ref (ga K "BadRatio")) = some false),
  fun K => decide (PySem.W.exmOne K (.ref (ga K "TooLarge")) (.ref (ga K "BadPlan")) = some false),
  fun K => decide (PySem.W.kitOne K (.ref (ga K "TooLarge")) (.ref (ga K "BadPlan")) = some false),
  fun K => decide (PySem.W.exmOne K (.ref (ga K "TooLarge")) (.ref (ga K "BadPaper")) = some false),
  fun K => decide (PySem.W.kitOne K (.ref (ga K "TooLarge")) (.ref (ga K "BadPaper")) = some false),
  fun K => decide (PySem.W.exmOne K (.ref (ga K "TooLarge")) (.ref (ga K "NoShare")) = some false),
  fun K => decide (PySem.W.kitOne K (.ref (ga K "TooLarge")) (.ref (ga K "NoShare")) = some false),
  fun K => decide (PySem.W.exmOne K (.ref (ga K "TooLarge")) (.ref (ga K "NoPlan")) = some false),
  fun K => decide (PySem.W.kitOne K (.ref (ga K "TooLarge")) (.ref (ga K "NoPlan")) = some false),
  fun K => decide (PySem.W.exmOne K (.ref (ga K "TooLarge")) (.ref (ga K "TooLarge")) = some true),
  fun K => decide (PySem.W.kitOne K (.ref (ga K "TooLarge")) (.ref (ga K "TooLarge")) = some true),
  fun K => decide (PySem.W.kitOne K (.ref (ga K "TooLarge")) (.type "ValueError") = some true),
  fun K => SupX.supB R.prog.main.file K (ga K "BadText") "at",
  fun K => L2.xfB K (ga K "BadText"),
  fun K => eqO (PySem.W.findIn K (.ref (ga K "BadText")) "at") (some none),
  fun K => SupX.supB R.prog.main.file K (ga K "BadPlan") "at",
  fun K => L2.xfB K (ga K "BadPlan"),
  fun K => eqO (PySem.W.findIn K (.ref (ga K "BadPlan")) "at") (some none),
  fun K => SupX.supB R.prog.main.file K (ga K "BadPaper") "at",
  fun K => L2.xfB K (ga K "BadPaper"),
  fun K => eqO (PySem.W.findIn K (.ref (ga K "BadPaper")) "at") (some none),
  fun K => SupX.supB R.prog.main.file K (ga K "NoShare") "what",
  fun K => L2.xfB K (ga K "NoShare"),
  fun K => eqO (PySem.W.findIn K (.ref (ga K "NoShare")) "what") (some none),
  fun K => SupX.supB R.prog.main.file K (ga K "NoPlan") "least",
  fun K => L2.xfB K (ga K "NoPlan"),
  fun K => eqO (PySem.W.findIn K (.ref (ga K "NoPlan")) "least") (some none),
  fun K => SupX.supB R.prog.main.file K (ga K "TooLarge") "what",
  fun K => L2.xfB K (ga K "TooLarge"),
  fun K => eqO (PySem.W.findIn K (.ref (ga K "TooLarge")) "what") (some none)]
def exB (K : PySem.W.Frag) : Bool := exs.all fun f => f K
theorem exB_at {K : PySem.W.Frag} (h : exB K = true) (i : Nat) {f : PySem.W.Frag → Bool} (e : exs[i]? = some f) : f K = true := List.all_eq_true.mp h f (List.mem_of_getElem? e)
abbrev s_BadText_init : Stmt := inClass (top 3) 0
abbrev s_BadPlan_init : Stmt := inClass (top 5) 0
abbrev s_BadPaper_init : Stmt := inClass (top 6) 0
abbrev s_NoShare_init : Stmt := inClass (top 7) 0
abbrev s_NoPlan_init : Stmt := inClass (top 8) 0
abbrev s_TooLarge_init : Stmt := inClass (top 9) 0
def zs : List Str := ["BadText", "BadPlan", "BadPaper", "NoShare", "NoPlan", "TooLarge"]
def zv : List SupX.FnZ := [some ("__init__", "BadText.__init__", defArgs s_BadText_init, .stmts (defBody s_BadText_init), defScope s_BadText_init, mainGlobals, ["__class__"], builtinsNs), some ("__init__", "BadPlan.__init__", defArgs s_BadPlan_init, .stmts (defBody s_BadPlan_init), defScope s_BadPlan_init, mainGlobals, ["__class__"], builtinsNs), some ("__init__", "BadPaper.__init__", defArgs s_BadPaper_init, .stmts (defBody s_BadPaper_init), defScope s_BadPaper_init, mainGlobals, ["__class__"], builtinsNs), some ("__init__", "NoShare.__init__", defArgs s_NoShare_init, .stmts (defBody s_NoShare_init), defScope s_NoShare_init, mainGlobals, ["__class__"], builtinsNs), some ("__init__", "NoPlan.__init__", defArgs s_NoPlan_init, .stmts (defBody s_NoPlan_init), defScope s_NoPlan_init, mainGlobals, ["__class__"], builtinsNs), some ("__init__", "TooLarge.__init__", defArgs s_TooLarge_init, .stmts (defBody s_TooLarge_init), defScope s_TooLarge_init, mainGlobals, ["__class__"], builtinsNs)]
def tabs : List He.Tab := []
/-- what the walk asks of the top -/
structure Txt (K : PySem.W.Frag) (mg : Str → Option Value) : Prop where
  d__wall : ∃ fd, FunD K "_wall" "_wall" (defArgs s__wall) (defBody s__wall) (defScope s__wall) (List.map (He.Dv.v K) []) [] (ga K "_wall") fd
  d_Ratio_init : ∃ fd, FunD K "__init__" "Ratio.__init__" (defArgs s_Ratio_init) (defBody s_Ratio_init) (defScope s_Ratio_init) (List.map (He.Dv.v K) [.int 1]) [] (ma K (ga K "Ratio") "__init__") fd
  d_Ratio_add : ∃ fd, FunD K "__add__" "Ratio.__add__" (defArgs s_Ratio_add) (defBody s_Ratio_add) (defScope s_Ratio_add) (List.map (He.Dv.v K) []) [] (ma K (ga K "Ratio") "__add__") fd
  d_Ratio_sub : ∃ fd, FunD K "__sub__" "Ratio.__sub__" (defArgs s_Ratio_sub) (defBody s_Ratio_sub) (defScope s_Ratio_sub) (List.map (He.Dv.v K) []) [] (ma K (ga K "Ratio") "__sub__") fd
  d_Ratio_mul : ∃ fd, FunD K "__mul__" "Ratio.__mul__" (defArgs s_Ratio_mul) (defBody s_Ratio_mul) (defScope s_Ratio_mul) (List.map (He.Dv.v K) []) [] (ma K (ga K "Ratio") "__mul__") fd
  d_Ratio_eq : ∃ fd, FunD K "__eq__" "Ratio.__eq__" (defArgs s_Ratio_eq) (defBody s_Ratio_eq) (defScope s_Ratio_eq) (List.map (He.Dv.v K) []) [] (ma K (ga K "Ratio") "__eq__") fd
  d_Ratio_str : ∃ fd, FunD K "__str__" "Ratio.__str__" (defArgs s_Ratio_str) (defBody s_Ratio_str) (defScope s_Ratio_str) (List.map (He.Dv.v K) []) [] (ma K (ga K "Ratio") "__str__") fd
  d_Ratio_less : ∃ fd, FunD K "less" "Ratio.less" (defArgs s_Ratio_less) (defBody s_Ratio_less) (defScope s_Ratio_less) (List.map (He.Dv.v K) []) [] (ma K (ga K "Ratio") "less") fd
  d_Ratio_over : ∃ fd, FunD K "over" "Ratio.over" (defArgs s_Ratio_over) (defBody s_Ratio_over) (defScope s_Ratio_over) (List.map (He.Dv.v K) []) [] (ma K (ga K "Ratio") "over") fd
  d_added : ∃ fd, FunD K "added" "added" (defArgs s_added) (defBody s_added) (defScope s_added) (List.map (He.Dv.v K) []) [] (ga K "added") fd
  d_Plan_init : ∃ fd, FunD K "__init__" "Plan.__init__" (defArgs s_Plan_init) (defBody s_Plan_init) (defScope s_Plan_init) (List.map (He.Dv.v K) []) [] (ma K (ga K "Plan") "__init__") fd
  d_Plan_eq : ∃ fd, FunD K "__eq__" "Plan.__eq__" (defArgs s_Plan_eq) (defBody s_Plan_eq) (defScope s_Plan_eq) (List.map (He.Dv.v K) []) [] (ma K (ga K "Plan") "__eq__") fd
  d_Plan_entries : ∃ fd, FunD K "entries" "Plan.entries" (defArgs s_Plan_entries) (defBody s_Plan_entries) (defScope s_Plan_entries) (List.map (He.Dv.v K) []) [] (ma K (ga K "Plan") "entries") fd
  d_Plan_lots : ∃ fd, FunD K "lots" "Plan.lots" (defArgs s_Plan_lots) (defBody s_Plan_lots) (defScope s_Plan_lots) (List.map (He.Dv.v K) []) [] (ma K (ga K "Plan") "lots") fd
  d_sure : ∃ fd, FunD K "sure" "sure" (defArgs s_sure) (defBody s_sure) (defScope s_sure) (List.map (He.Dv.v K) []) [] (ga K "sure") fd
  d_l_pool : ∃ fd, FunD K "_law_pool" "_law_pool" (defArgs s_l_pool) (defBody s_l_pool) (defScope s_l_pool) (List.map (He.Dv.v K) []) [] (ga K "_law_pool") fd
  d_l_draw : ∃ fd, FunD K "_law_draw" "_law_draw" (defArgs s_l_draw) (defBody s_l_draw) (defScope s_l_draw) (List.map (He.Dv.v K) []) [] (ga K "_law_draw") fd
  d_l_same : ∃ fd, FunD K "_law_same" "_law_same" (defArgs s_l_same) (defBody s_l_same) (defScope s_l_same) (List.map (He.Dv.v K) []) [] (ga K "_law_same") fd
  d_l_less : ∃ fd, FunD K "_law_less" "_law_less" (defArgs s_l_less) (defBody s_l_less) (defScope s_l_less) (List.map (He.Dv.v K) []) [] (ga K "_law_less") fd
  d_l_made_plan : ∃ fd, FunD K "_law_made_plan" "_law_made_plan" (defArgs s_l_made_plan) (defBody s_l_made_plan) (defScope s_l_made_plan) (List.map (He.Dv.v K) []) [] (ga K "_law_made_plan") fd
  d_l_weights : ∃ fd, FunD K "_law_weights" "_law_weights" (defArgs s_l_weights) (defBody s_l_weights) (defScope s_l_weights) (List.map (He.Dv.v K) []) [] (ga K "_law_weights") fd
  d_l_told : ∃ fd, FunD K "_law_told" "_law_told" (defArgs s_l_told) (defBody s_l_told) (defScope s_l_told) (List.map (He.Dv.v K) []) [] (ga K "_law_told") fd
  d_l_kept : ∃ fd, FunD K "_law_kept" "_law_kept" (defArgs s_l_kept) (defBody s_l_kept) (defScope s_l_kept) (List.map (He.Dv.v K) []) [] (ga K "_law_kept") fd
  d_l_sure : ∃ fd, FunD K "_law_sure" "_law_sure" (defArgs s_l_sure) (defBody s_l_sure) (defScope s_l_sure) (List.map (He.Dv.v K) []) [] (ga K "_law_sure") fd
  d_law : ∃ fd, FunD K "law" "law" (defArgs s_law) (defBody s_law) (defScope s_law) (List.map (He.Dv.v K) []) [] (ga K "law") fd
  g__wall : mg "_wall" = some (.ref (ga K "_wall"))
  g_added : mg "added" = some (.ref (ga K "added"))
  g_sure : mg "sure" = some (.ref (ga K "sure"))
  g_l_pool : mg "_law_pool" = some (.ref (ga K "_law_pool"))
  g_l_draw : mg "_law_draw" = some (.ref (ga K "_law_draw"))
  g_l_same : mg "_law_same" = some (.ref (ga K "_law_same"))
  g_l_less : mg "_law_less" = some (.ref (ga K "_law_less"))
  g_l_made_plan : mg "_law_made_plan" = some (.ref (ga K "_law_made_plan"))
  g_l_weights : mg "_law_weights" = some (.ref (ga K "_law_weights"))
  g_l_told : mg "_law_told" = some (.ref (ga K "_law_told"))
  g_l_kept : mg "_law_kept" = some (.ref (ga K "_law_kept"))
  g_l_sure : mg "_law_sure" = some (.ref (ga K "_law_sure"))
  g_law : mg "law" = some (.ref (ga K "law"))
  g_LossError : mg "LossError" = some (.ref (ga K "LossError"))
  x_LossError : PySem.W.excIn K (ga K "LossError") He.veBase "ValueError.__new__" = true ∧ PySem.W.keepIn K (.ref (ga K "LossError")) = true ∧ PySem.W.subIn K (.ref (ga K "LossError")) (.type "BaseException") = some true ∧ PySem.W.typeIn K (.ref (ga K "LossError")) = some (.type "type")
  g_BadText : mg "BadText" = some (.ref (ga K "BadText"))
  g_BadRatio : mg "BadRatio" = some (.ref (ga K "BadRatio"))
  x_BadRatio : PySem.W.excIn K (ga K "BadRatio") He.veBase "ValueError.__new__" = true ∧ PySem.W.keepIn K (.ref (ga K "BadRatio")) = true ∧ PySem.W.subIn K (.ref (ga K "BadRatio")) (.type "BaseException") = some true ∧ PySem.W.typeIn K (.ref (ga K "BadRatio")) = some (.type "type")
  g_BadPlan : mg "BadPlan" = some (.ref (ga K "BadPlan"))
  g_BadPaper : mg "BadPaper" = some (.ref (ga K "BadPaper"))
  g_NoShare : mg "NoShare" = some (.ref (ga K "NoShare"))
  g_NoPlan : mg "NoPlan" = some (.ref (ga K "NoPlan"))
  g_TooLarge : mg "TooLarge" = some (.ref (ga K "TooLarge"))
  g_Ratio : mg "Ratio" = some (.ref (ga K "Ratio"))
  c_Ratio : Cls K (ga K "Ratio")
  m_Ratio : Mk K (ga K "Ratio") (ma K (ga K "Ratio") "__init__")
  a_Ratio_num : NoAttr K (ga K "Ratio") "num"
  a_Ratio_den : NoAttr K (ga K "Ratio") "den"
  t_Ratio_add : Meth K (ga K "Ratio") "__add__" (ma K (ga K "Ratio") "__add__")
  t_Ratio_sub : Meth K (ga K "Ratio") "__sub__" (ma K (ga K "Ratio") "__sub__")
  t_Ratio_mul : Meth K (ga K "Ratio") "__mul__" (ma K (ga K "Ratio") "__mul__")
  t_Ratio_eq : Meth K (ga K "Ratio") "__eq__" (ma K (ga K "Ratio") "__eq__")
  t_Ratio_str : Meth K (ga K "Ratio") "__str__" (ma K (ga K "Ratio") "__str__")
  t_Ratio_less : Meth K (ga K "Ratio") "less" (ma K (ga K "Ratio") "less")
  t_Ratio_over : Meth K (ga K "Ratio") "over" (ma K (ga K "Ratio") "over")
  g_Plan : mg "Plan" = some (.ref (ga K "Plan"))
  c_Plan : Cls K (ga K "Plan")
  m_Plan : Mk K (ga K "Plan") (ma K (ga K "Plan") "__init__")
  a_Plan_table : NoAttr K (ga K "Plan") "table"
  t_Plan_eq : Meth K (ga K "Plan") "__eq__" (ma K (ga K "Plan") "__eq__")
  t_Plan_entries : Meth K (ga K "Plan") "entries" (ma K (ga K "Plan") "entries")
  t_Plan_lots : Meth K (ga K "Plan") "lots" (ma K (ga K "Plan") "lots")
  f_ValueError : mg "ValueError" = none
  f_zip : mg "zip" = none
  f_isinstance : mg "isinstance" = none
  f_int : mg "int" = none
  f_abs : mg "abs" = none
  f_range : mg "range" = none
  f_sum : mg "sum" = none
  f_dict : mg "dict" = none
  f_enumerate : mg "enumerate" = none
  f_list : mg "list" = none
  f_tuple : mg "tuple" = none
  f_bool : mg "bool" = none
  f_str : mg "str" = none
  f_max : mg "max" = none
  f_len : mg "len" = none
  f_super : mg "super" = none
  f_any : mg "any" = none
  f_min : mg "min" = none
  oc_Ratio : PySem.W.findIn K (.ref (ga K "Ratio")) "__class__" = some (some (.builtin "object.__class__"))
  nf_Ratio : PySem.W.notFirst K (ga K "Ratio") (.ref (ga K "Ratio")) = true
  ne_Ratio : PySem.W.findIn K (.ref (ga K "Ratio")) "__ne__" = some (some (.builtin "object.__ne__"))
  om_Ratio : PySem.W.mroIn K (ga K "Ratio") (.type "object") = some true
  ki_Ratio_tuple : PySem.W.kitOne K (.ref (ga K "Ratio")) (.type "tuple") = some false
  ki_Ratio_list : PySem.W.kitOne K (.ref (ga K "Ratio")) (.type "list") = some false
  ki_Ratio_bool : PySem.W.kitOne K (.ref (ga K "Ratio")) (.type "bool") = some false
  ki_Ratio_int : PySem.W.kitOne K (.ref (ga K "Ratio")) (.type "int") = some false
  ki_Ratio_str : PySem.W.kitOne K (.ref (ga K "Ratio")) (.type "str") = some false
  ki_Ratio_Ratio : PySem.W.kitOne K (.ref (ga K "Ratio")) (.ref (ga K "Ratio")) = some true
  ki_Ratio_Plan : PySem.W.kitOne K (.ref (ga K "Ratio")) (.ref (ga K "Plan")) = some false
  of_Ratio : PySem.W.findIn K (.ref (ga K "Ratio")) "__format__" = some (some (.builtin "object.__format__"))
  sf_Ratio : PySem.W.selfFirst K (ga K "Ratio") = true
  oc_Plan : PySem.W.findIn K (.ref (ga K "Plan")) "__class__" = some (some (.builtin "object.__class__"))
  nf_Plan : PySem.W.notFirst K (ga K "Plan") (.ref (ga K "Plan")) = true
  ne_Plan : PySem.W.findIn K (.ref (ga K "Plan")) "__ne__" = some (some (.builtin "object.__ne__"))
  om_Plan : PySem.W.mroIn K (ga K "Plan") (.type "object") = some true
  ki_Plan_tuple : PySem.W.kitOne K (.ref (ga K "Plan")) (.type "tuple") = some false
  ki_Plan_list : PySem.W.kitOne K (.ref (ga K "Plan")) (.type "list") = some false
  ki_Plan_bool : PySem.W.kitOne K (.ref (ga K "Plan")) (.type "bool") = some false
  ki_Plan_int : PySem.W.kitOne K (.ref (ga K "Plan")) (.type "int") = some false
  ki_Plan_str : PySem.W.kitOne K (.ref (ga K "Plan")) (.type "str") = some false
  ki_Plan_Ratio : PySem.W.kitOne K (.ref (ga K "Plan")) (.ref (ga K "Ratio")) = some false
  ki_Plan_Plan : PySem.W.kitOne K (.ref (ga K "Plan")) (.ref (ga K "Plan")) = some true
  og : PySem.W.specialIn K (.builtin "object.__class__") "__get__" = some (some (.builtin "getset_descriptor.__get__"))
  ot : PySem.W.takesIn K (.builtin "object.__class__") = some true
  xc_LossError : ExcC K (ga K "LossError")
  em_LossError_LossError : PySem.W.exmOne K (.ref (ga K "LossError")) (.ref (ga K "LossError")) = some true
  ki_LossError_LossError : PySem.W.kitOne K (.ref (ga K "LossError")) (.ref (ga K "LossError")) = some true
  em_LossError_BadText : PySem.W.exmOne K (.ref (ga K "LossError")) (.ref (ga K "BadText")) = some false
  ki_LossError_BadText : PySem.W.kitOne K (.ref (ga K "LossError")) (.ref (ga K "BadText")) = some false
  em_LossError_BadRatio : PySem.W.exmOne K (.ref (ga K "LossError")) (.ref (ga K "BadRatio")) = some false
  ki_LossError_BadRatio : PySem.W.kitOne K (.ref (ga K "LossError")) (.ref (ga K "BadRatio")) = some false
  em_LossError_BadPlan : PySem.W.exmOne K (.ref (ga K "LossError")) (.ref (ga K "BadPlan")) = some false
  ki_LossError_BadPlan : PySem.W.kitOne K (.ref (ga K "LossError")) (.ref (ga K "BadPlan")) = some false
  em_LossError_BadPaper : PySem.W.exmOne K (.ref (ga K "LossError")) (.ref (ga K "BadPaper")) = some false
  ki_LossError_BadPaper : PySem.W.kitOne K (.ref (ga K "LossError")) (.ref (ga K "BadPaper")) = some false
  em_LossError_NoShare : PySem.W.exmOne K (.ref (ga K "LossError")) (.ref (ga K "NoShare")) = some false
  ki_LossError_NoShare : PySem.W.kitOne K (.ref (ga K "LossError")) (.ref (ga K "NoShare")) = some false
  em_LossError_NoPlan : PySem.W.exmOne K (.ref (ga K "LossError")) (.ref (ga K "NoPlan")) = some false
  ki_LossError_NoPlan : PySem.W.kitOne K (.ref (ga K "LossError")) (.ref (ga K "NoPlan")) = some false
  em_LossError_TooLarge : PySem.W.exmOne K (.ref (ga K "LossError")) (.ref (ga K "TooLarge")) = some false
  ki_LossError_TooLarge : PySem.W.kitOne K (.ref (ga K "LossError")) (.ref (ga K "TooLarge")) = some false
  kv_LossError : PySem.W.kitOne K (.ref (ga K "LossError")) (.type "ValueError") = some true
  xc_BadText : ExcC K (ga K "BadText")
  em_BadText_LossError : PySem.W.exmOne K (.ref (ga K "BadText")) (.ref (ga K "LossError")) = some true
  ki_BadText_LossError : PySem.W.kitOne K (.ref (ga K "BadText")) (.ref (ga K "LossError")) = some true
  em_BadText_BadText : PySem.W.exmOne K (.ref (ga K "BadText")) (.ref (ga K "BadText")) = some true
  ki_BadText_BadText : PySem.W.kitOne K (.ref (ga K "BadText")) (.ref (ga K "BadText")) = some true
  em_BadText_BadRatio : PySem.W.exmOne K (.ref (ga K "BadText")) (.ref (ga K "BadRatio")) = some false
  ki_BadText_BadRatio : PySem.W.kitOne K (.ref (ga K "BadText")) (.ref (ga K "BadRatio")) = some false
  em_BadText_BadPlan : PySem.W.exmOne K (.ref (ga K "BadText")) (.ref (ga K "BadPlan")) = some false
  ki_BadText_BadPlan : PySem.W.kitOne K (.ref (ga K "BadText")) (.ref (ga K "BadPlan")) = some false
  em_BadText_BadPaper : PySem.W.exmOne K (.ref (ga K "BadText")) (.ref (ga K "BadPaper")) = some false
  ki_BadText_BadPaper : PySem.W.kitOne K (.ref (ga K "BadText")) (.ref (ga K "BadPaper")) = some false
  em_BadText_NoShare : PySem.W.exmOne K (.ref (ga K "BadText")) (.ref (ga K "NoShare")) = some false
  ki_BadText_NoShare : PySem.W.kitOne K (.ref (ga K "BadText")) (.ref (ga K "NoShare")) = some false
  em_BadText_NoPlan : PySem.W.exmOne K (.ref (ga K "BadText")) (.ref (ga K "NoPlan")) = some false
  ki_BadText_NoPlan : PySem.W.kitOne K (.ref (ga K "BadText")) (.ref (ga K "NoPlan")) = some false
  em_BadText_TooLarge : PySem.W.exmOne K (.ref (ga K "BadText")) (.ref (ga K "TooLarge")) = some false
  ki_BadText_TooLarge : PySem.W.kitOne K (.ref (ga K "BadText")) (.ref (ga K "TooLarge")) = some false
  kv_BadText : PySem.W.kitOne K (.ref (ga K "BadText")) (.type "ValueError") = some true
  xc_BadRatio : ExcC K (ga K "BadRatio")
  em_BadRatio_LossError : PySem.W.exmOne K (.ref (ga K "BadRatio")) (.ref (ga K "LossError")) = some true
  ki_BadRatio_LossError : PySem.W.kitOne K (.ref (ga K "BadRatio")) (.ref (ga K "LossError")) = some true
  em_BadRatio_BadText : PySem.W.exmOne K (.ref (ga K "BadRatio")) (.ref (ga K "BadText")) = some false
  ki_BadRatio_BadText : PySem.W.kitOne K (.ref (ga K "BadRatio")) (.ref (ga K "BadText")) = some false
  em_BadRatio_BadRatio : PySem.W.exmOne K (.ref (ga K "BadRatio")) (.ref (ga K "BadRatio")) = some true
  ki_BadRatio_BadRatio : PySem.W.kitOne K (.ref (ga K "BadRatio")) (.ref (ga K "BadRatio")) = some true
  em_BadRatio_BadPlan : PySem.W.exmOne K (.ref (ga K "BadRatio")) (.ref (ga K "BadPlan")) = some false
  ki_BadRatio_BadPlan : PySem.W.kitOne K (.ref (ga K "BadRatio")) (.ref (ga K "BadPlan")) = some false
  em_BadRatio_BadPaper : PySem.W.exmOne K (.ref (ga K "BadRatio")) (.ref (ga K "BadPaper")) = some false
  ki_BadRatio_BadPaper : PySem.W.kitOne K (.ref (ga K "BadRatio")) (.ref (ga K "BadPaper")) = some false
  em_BadRatio_NoShare : PySem.W.exmOne K (.ref (ga K "BadRatio")) (.ref (ga K "NoShare")) = some false
  ki_BadRatio_NoShare : PySem.W.kitOne K (.ref (ga K "BadRatio")) (.ref (ga K "NoShare")) = some false
  em_BadRatio_NoPlan : PySem.W.exmOne K (.ref (ga K "BadRatio")) (.ref (ga K "NoPlan")) = some false
  ki_BadRatio_NoPlan : PySem.W.kitOne K (.ref (ga K "BadRatio")) (.ref (ga K "NoPlan")) = some false
  em_BadRatio_TooLarge : PySem.W.exmOne K (.ref (ga K "BadRatio")) (.ref (ga K "TooLarge")) = some false
  ki_BadRatio_TooLarge : PySem.W.kitOne K (.ref (ga K "BadRatio")) (.ref (ga K "TooLarge")) = some false
  kv_BadRatio : PySem.W.kitOne K (.ref (ga K "BadRatio")) (.type "ValueError") = some true
  xc_BadPlan : ExcC K (ga K "BadPlan")
  em_BadPlan_LossError : PySem.W.exmOne K (.ref (ga K "BadPlan")) (.ref (ga K "LossError")) = some true
  ki_BadPlan_LossError : PySem.W.kitOne K (.ref (ga K "BadPlan")) (.ref (ga K "LossError")) = some true
  em_BadPlan_BadText : PySem.W.exmOne K (.ref (ga K "BadPlan")) (.ref (ga K "BadText")) = some false
  ki_BadPlan_BadText : PySem.W.kitOne K (.ref (ga K "BadPlan")) (.ref (ga K "BadText")) = some false
  em_BadPlan_BadRatio : PySem.W.exmOne K (.ref (ga K "BadPlan")) (.ref (ga K "BadRatio")) = some false
  ki_BadPlan_BadRatio : PySem.W.kitOne K (.ref (ga K "BadPlan")) (.ref (ga K "BadRatio")) = some false
  em_BadPlan_BadPlan : PySem.W.exmOne K (.ref (ga K "BadPlan")) (.ref (ga K "BadPlan")) = some true
  ki_BadPlan_BadPlan : PySem.W.kitOne K (.ref (ga K "BadPlan")) (.ref (ga K "BadPlan")) = some true
  em_BadPlan_BadPaper : PySem.W.exmOne K (.ref (ga K "BadPlan")) (.ref (ga K "BadPaper")) = some false
  ki_BadPlan_BadPaper : PySem.W.kitOne K (.ref (ga K "BadPlan")) (.ref (ga K "BadPaper")) = some false
  em_BadPlan_NoShare : PySem.W.exmOne K (.ref (ga K "BadPlan")) (.ref (ga K "NoShare")) = some false
  ki_BadPlan_NoShare : PySem.W.kitOne K (.ref (ga K "BadPlan")) (.ref (ga K "NoShare")) = some false
  em_BadPlan_NoPlan : PySem.W.exmOne K (.ref (ga K "BadPlan")) (.ref (ga K "NoPlan")) = some false
  ki_BadPlan_NoPlan : PySem.W.kitOne K (.ref (ga K "BadPlan")) (.ref (ga K "NoPlan")) = some false
  em_BadPlan_TooLarge : PySem.W.exmOne K (.ref (ga K "BadPlan")) (.ref (ga K "TooLarge")) = some false
  ki_BadPlan_TooLarge : PySem.W.kitOne K (.ref (ga K "BadPlan")) (.ref (ga K "TooLarge")) = some false
  kv_BadPlan : PySem.W.kitOne K (.ref (ga K "BadPlan")) (.type "ValueError") = some true
  xc_BadPaper : ExcC K (ga K "BadPaper")
  em_BadPaper_LossError : PySem.W.exmOne K (.ref (ga K "BadPaper")) (.ref (ga K "LossError")) = some true
  ki_BadPaper_LossError : PySem.W.kitOne K (.ref (ga K "BadPaper")) (.ref (ga K "LossError")) = some true
  em_BadPaper_BadText : PySem.W.exmOne K (.ref (ga K "BadPaper")) (.ref (ga K "BadText")) = some false
  ki_BadPaper_BadText : PySem.W.kitOne K (.ref (ga K "BadPaper")) (.ref (ga K "BadText")) = some false
  em_BadPaper_BadRatio : PySem.W.exmOne K (.ref (ga K "BadPaper")) (.ref (ga K "BadRatio")) = some false
  ki_BadPaper_BadRatio : PySem.W.kitOne K (.ref (ga K "BadPaper")) (.ref (ga K "BadRatio")) = some false
  em_BadPaper_BadPlan : PySem.W.exmOne K (.ref (ga K "BadPaper")) (.ref (ga K "BadPlan")) = some false
  ki_BadPaper_BadPlan : PySem.W.kitOne K (.ref (ga K "BadPaper")) (.ref (ga K "BadPlan")) = some false
  em_BadPaper_BadPaper : PySem.W.exmOne K (.ref (ga K "BadPaper")) (.ref (ga K "BadPaper")) = some true
  ki_BadPaper_BadPaper : PySem.W.kitOne K (.ref (ga K "BadPaper")) (.ref (ga K "BadPaper")) = some true
  em_BadPaper_NoShare : PySem.W.exmOne K (.ref (ga K "BadPaper")) (.ref (ga K "NoShare")) = some false
  ki_BadPaper_NoShare : PySem.W.kitOne K (.ref (ga K "BadPaper")) (.ref (ga K "NoShare")) = some false
  em_BadPaper_NoPlan : PySem.W.exmOne K (.ref (ga K "BadPaper")) (.ref (ga K "NoPlan")) = some false
  ki_BadPaper_NoPlan : PySem.W.kitOne K (.ref (ga K "BadPaper")) (.ref (ga K "NoPlan")) = some false
  em_BadPaper_TooLarge : PySem.W.exmOne K (.ref (ga K "BadPaper")) (.ref (ga K "TooLarge")) = some false
  ki_BadPaper_TooLarge : PySem.W.kitOne K (.ref (ga K "BadPaper")) (.ref (ga K "TooLarge")) = some false
  kv_BadPaper : PySem.W.kitOne K (.ref (ga K "BadPaper")) (.type "ValueError") = some true
  xc_NoShare : ExcC K (ga K "NoShare")
  em_NoShare_LossError : PySem.W.exmOne K (.ref (ga K "NoShare")) (.ref (ga K "LossError")) = some true
  ki_NoShare_LossError : PySem.W.kitOne K (.ref (ga K "NoShare")) (.ref (ga K "LossError")) = some true
  em_NoShare_BadText : PySem.W.exmOne K (.ref (ga K "NoShare")) (.ref (ga K "BadText")) = some false
  ki_NoShare_BadText : PySem.W.kitOne K (.ref (ga K "NoShare")) (.ref (ga K "BadText")) = some false
  em_NoShare_BadRatio : PySem.W.exmOne K (.ref (ga K "NoShare")) (.ref (ga K "BadRatio")) = some false
  ki_NoShare_BadRatio : PySem.W.kitOne K (.ref (ga K "NoShare")) (.ref (ga K "BadRatio")) = some false
  em_NoShare_BadPlan : PySem.W.exmOne K (.ref (ga K "NoShare")) (.ref (ga K "BadPlan")) = some false
  ki_NoShare_BadPlan : PySem.W.kitOne K (.ref (ga K "NoShare")) (.ref (ga K "BadPlan")) = some false
  em_NoShare_BadPaper : PySem.W.exmOne K (.ref (ga K "NoShare")) (.ref (ga K "BadPaper")) = some false
  ki_NoShare_BadPaper : PySem.W.kitOne K (.ref (ga K "NoShare")) (.ref (ga K "BadPaper")) = some false
  em_NoShare_NoShare : PySem.W.exmOne K (.ref (ga K "NoShare")) (.ref (ga K "NoShare")) = some true
  ki_NoShare_NoShare : PySem.W.kitOne K (.ref (ga K "NoShare")) (.ref (ga K "NoShare")) = some true
  em_NoShare_NoPlan : PySem.W.exmOne K (.ref (ga K "NoShare")) (.ref (ga K "NoPlan")) = some false
  ki_NoShare_NoPlan : PySem.W.kitOne K (.ref (ga K "NoShare")) (.ref (ga K "NoPlan")) = some false
  em_NoShare_TooLarge : PySem.W.exmOne K (.ref (ga K "NoShare")) (.ref (ga K "TooLarge")) = some false
  ki_NoShare_TooLarge : PySem.W.kitOne K (.ref (ga K "NoShare")) (.ref (ga K "TooLarge")) = some false
  kv_NoShare : PySem.W.kitOne K (.ref (ga K "NoShare")) (.type "ValueError") = some true
  xc_NoPlan : ExcC K (ga K "NoPlan")
  em_NoPlan_LossError : PySem.W.exmOne K (.ref (ga K "NoPlan")) (.ref (ga K "LossError")) = some true
  ki_NoPlan_LossError : PySem.W.kitOne K (.ref (ga K "NoPlan")) (.ref (ga K "LossError")) = some true
  em_NoPlan_BadText : PySem.W.exmOne K (.ref (ga K "NoPlan")) (.ref (ga K "BadText")) = some false
  ki_NoPlan_BadText : PySem.W.kitOne K (.ref (ga K "NoPlan")) (.ref (ga K "BadText")) = some false
  em_NoPlan_BadRatio : PySem.W.exmOne K (.ref (ga K "NoPlan")) (.ref (ga K "BadRatio")) = some false
  ki_NoPlan_BadRatio : PySem.W.kitOne K (.ref (ga K "NoPlan")) (.ref (ga K "BadRatio")) = some false
  em_NoPlan_BadPlan : PySem.W.exmOne K (.ref (ga K "NoPlan")) (.ref (ga K "BadPlan")) = some false
  ki_NoPlan_BadPlan : PySem.W.kitOne K (.ref (ga K "NoPlan")) (.ref (ga K "BadPlan")) = some false
  em_NoPlan_BadPaper : PySem.W.exmOne K (.ref (ga K "NoPlan")) (.ref (ga K "BadPaper")) = some false
  ki_NoPlan_BadPaper : PySem.W.kitOne K (.ref (ga K "NoPlan")) (.ref (ga K "BadPaper")) = some false
  em_NoPlan_NoShare : PySem.W.exmOne K (.ref (ga K "NoPlan")) (.ref (ga K "NoShare")) = some false
  ki_NoPlan_NoShare : PySem.W.kitOne K (.ref (ga K "NoPlan")) (.ref (ga K "NoShare")) = some false
  em_NoPlan_NoPlan : PySem.W.exmOne K (.ref (ga K "NoPlan")) (.ref (ga K "NoPlan")) = some true
  ki_NoPlan_NoPlan : PySem.W.kitOne K (.ref (ga K "NoPlan")) (.ref (ga K "NoPlan")) = some true
  em_NoPlan_TooLarge : PySem.W.exmOne K (.ref (ga K "NoPlan")) (.ref (ga K "TooLarge")) = some false
  ki_NoPlan_TooLarge : PySem.W.kitOne K (.ref (ga K "NoPlan")) (.ref (ga K "TooLarge")) = some false
  kv_NoPlan : PySem.W.kitOne K (.ref (ga K "NoPlan")) (.type "ValueError") = some true
  xc_TooLarge : ExcC K (ga K "TooLarge")
  em_TooLarge_LossError : PySem.W.exmOne K (.ref (ga K "TooLarge")) (.ref (ga K "LossError")) = some true
  ki_TooLarge_LossError : PySem.W.kitOne K (.ref (ga K "TooLarge")) (.ref (ga K "LossError")) = some true
  em_TooLarge_BadText : PySem.W.exmOne K (.ref (ga K "TooLarge")) (.ref (ga K "BadText")) = some false
  ki_TooLarge_BadText : PySem.W.kitOne K (.ref (ga K "TooLarge")) (.ref (ga K "BadText")) = some false
  em_TooLarge_BadRatio : PySem.W.exmOne K (.ref (ga K "TooLarge")) (.ref (ga K "BadRatio")) = some false
  ki_TooLarge_BadRatio : PySem.W.kitOne K (.ref (ga K "TooLarge")) (.ref (ga K "BadRatio")) = some false
  em_TooLarge_BadPlan : PySem.W.exmOne K (.ref (ga K "TooLarge")) (.ref (ga K "BadPlan")) = some false
  ki_TooLarge_BadPlan : PySem.W.kitOne K (.ref (ga K "TooLarge")) (.ref (ga K "BadPlan")) = some false
  em_TooLarge_BadPaper : PySem.W.exmOne K (.ref (ga K "TooLarge")) (.ref (ga K "BadPaper")) = some false
  ki_TooLarge_BadPaper : PySem.W.kitOne K (.ref (ga K "TooLarge")) (.ref (ga K "BadPaper")) = some false
  em_TooLarge_NoShare : PySem.W.exmOne K (.ref (ga K "TooLarge")) (.ref (ga K "NoShare")) = some false
  ki_TooLarge_NoShare : PySem.W.kitOne K (.ref (ga K "TooLarge")) (.ref (ga K "NoShare")) = some false
  em_TooLarge_NoPlan : PySem.W.exmOne K (.ref (ga K "TooLarge")) (.ref (ga K "NoPlan")) = some false
  ki_TooLarge_NoPlan : PySem.W.kitOne K (.ref (ga K "TooLarge")) (.ref (ga K "NoPlan")) = some false
  em_TooLarge_TooLarge : PySem.W.exmOne K (.ref (ga K "TooLarge")) (.ref (ga K "TooLarge")) = some true
  ki_TooLarge_TooLarge : PySem.W.kitOne K (.ref (ga K "TooLarge")) (.ref (ga K "TooLarge")) = some true
  kv_TooLarge : PySem.W.kitOne K (.ref (ga K "TooLarge")) (.type "ValueError") = some true
  sb_BadText : SupX.supB R.prog.main.file K (ga K "BadText") "at" = true
  xf_BadText : L2.XfC K (ga K "BadText")
  xn_BadText : PySem.W.findIn K (.ref (ga K "BadText")) "at" = some none
  sb_BadPlan : SupX.supB R.prog.main.file K (ga K "BadPlan") "at" = true
  xf_BadPlan : L2.XfC K (ga K "BadPlan")
  xn_BadPlan : PySem.W.findIn K (.ref (ga K "BadPlan")) "at" = some none
  sb_BadPaper : SupX.supB R.prog.main.file K (ga K "BadPaper") "at" = true
  xf_BadPaper : L2.XfC K (ga K "BadPaper")
  xn_BadPaper : PySem.W.findIn K (.ref (ga K "BadPaper")) "at" = some none
  sb_NoShare : SupX.supB R.prog.main.file K (ga K "NoShare") "what" = true
  xf_NoShare : L2.XfC K (ga K "NoShare")
  xn_NoShare : PySem.W.findIn K (.ref (ga K "NoShare")) "what" = some none
  sb_NoPlan : SupX.supB R.prog.main.file K (ga K "NoPlan") "least" = true
  xf_NoPlan : L2.XfC K (ga K "NoPlan")
  xn_NoPlan : PySem.W.findIn K (.ref (ga K "NoPlan")) "least" = some none
  sb_TooLarge : SupX.supB R.prog.main.file K (ga K "TooLarge") "what" = true
  xf_TooLarge : L2.XfC K (ga K "TooLarge")
  xn_TooLarge : PySem.W.findIn K (.ref (ga K "TooLarge")) "what" = some none
  s_BadText : SupX.SupC PR K (ga K "BadText") "at"
  s_BadPlan : SupX.SupC PR K (ga K "BadPlan") "at"
  s_BadPaper : SupX.SupC PR K (ga K "BadPaper") "at"
  s_NoShare : SupX.SupC PR K (ga K "NoShare") "what"
  s_NoPlan : SupX.SupC PR K (ga K "NoPlan") "least"
  s_TooLarge : SupX.SupC PR K (ga K "TooLarge") "what"
theorem txt_of {w : World} {K : PySem.W.Frag} {h : Heap} {mg : Str → Option Value} (X : K.In h) (G : h.Ns mainGlobals mg) (c : He.SaysX fa fn tabs [] exB w h K) (z : He.zsW K zs = zv) : Txt K mg where
  d__wall := He.SaysD.def_ c.t.d 0 (d := d__wall) rfl
  d_Ratio_init := He.SaysD.def_ c.t.d 1 (d := d_Ratio_init) rfl
  d_Ratio_add := He.SaysD.def_ c.t.d 2 (d := d_Ratio_add) rfl
  d_Ratio_sub := He.SaysD.def_ c.t.d 3 (d := d_Ratio_sub) rfl
  d_Ratio_mul := He.SaysD.def_ c.t.d 4 (d := d_Ratio_mul) rfl
  d_Ratio_eq := He.SaysD.def_ c.t.d 5 (d := d_Ratio_eq) rfl
  d_Ratio_str := He.SaysD.def_ c.t.d 6 (d := d_Ratio_str) rfl
  d_Ratio_less := He.SaysD.def_ c.t.d 7 (d := d_Ratio_less) rfl
  d_Ratio_over := He.SaysD.def_ c.t.d 8 (d := d_Ratio_over) rfl
  d_added := He.SaysD.def_ c.t.d 9 (d := d_added) rfl
  d_Plan_init := He.SaysD.def_ c.t.d 10 (d := d_Plan_init) rfl
  d_Plan_eq := He.SaysD.def_ c.t.d 11 (d := d_Plan_eq) rfl
  d_Plan_entries := He.SaysD.def_ c.t.d 12 (d := d_Plan_entries) rfl
  d_Plan_lots := He.SaysD.def_ c.t.d 13 (d := d_Plan_lots) rfl
  d_sure := He.SaysD.def_ c.t.d 14 (d := d_sure) rfl
  d_l_pool := He.SaysD.def_ c.t.d 15 (d := d_l_pool) rfl
  d_l_draw := He.SaysD.def_ c.t.d 16 (d := d_l_draw) rfl
  d_l_same := He.SaysD.def_ c.t.d 17 (d := d_l_same) rfl
  d_l_less := He.SaysD.def_ c.t.d 18 (d := d_l_less) rfl
  d_l_made_plan := He.SaysD.def_ c.t.d 19 (d := d_l_made_plan) rfl
  d_l_weights := He.SaysD.def_ c.t.d 20 (d := d_l_weights) rfl
  d_l_told := He.SaysD.def_ c.t.d 21 (d := d_l_told) rfl
  d_l_kept := He.SaysD.def_ c.t.d 22 (d := d_l_kept) rfl
  d_l_sure := He.SaysD.def_ c.t.d 23 (d := d_l_sure) rfl
  d_law := He.SaysD.def_ c.t.d 24 (d := d_law) rfl
  g__wall := He.glo_ok X G (He.SaysD.fact c.t.d 0 (f := .glo "_wall") rfl)
  g_added := He.glo_ok X G (He.SaysD.fact c.t.d 1 (f := .glo "added") rfl)
  g_sure := He.glo_ok X G (He.SaysD.fact c.t.d 2 (f := .glo "sure") rfl)
  g_l_pool := He.glo_ok X G (He.SaysD.fact c.t.d 3 (f := .glo "_law_pool") rfl)
  g_l_draw := He.glo_ok X G (He.SaysD.fact c.t.d 4 (f := .glo "_law_draw") rfl)
  g_l_same := He.glo_ok X G (He.SaysD.fact c.t.d 5 (f := .glo "_law_same") rfl)
  g_l_less := He.glo_ok X G (He.SaysD.fact c.t.d 6 (f := .glo "_law_less") rfl)
  g_l_made_plan := He.glo_ok X G (He.SaysD.fact c.t.d 7 (f := .glo "_law_made_plan") rfl)
  g_l_weights := He.glo_ok X G (He.SaysD.fact c.t.d 8 (f := .glo "_law_weights") rfl)
  g_l_told := He.glo_ok X G (He.SaysD.fact c.t.d 9 (f := .glo "_law_told") rfl)
  g_l_kept := He.glo_ok X G (He.SaysD.fact c.t.d 10 (f := .glo "_law_kept") rfl)
  g_l_sure := He.glo_ok X G (He.SaysD.fact c.t.d 11 (f := .glo "_law_sure") rfl)
  g_law := He.glo_ok X G (He.SaysD.fact c.t.d 12 (f := .glo "law") rfl)
  g_LossError := He.glo_ok X G (He.SaysD.fact c.t.d 13 (f := .glo "LossError") rfl)
  x_LossError := He.exc_ok (He.SaysD.fact c.t.d 14 (f := .exc "LossError") rfl)
  g_BadText := He.glo_ok X G (He.SaysD.fact c.t.d 15 (f := .glo "BadText") rfl)
  g_BadRatio := He.glo_ok X G (He.SaysD.fact c.t.d 16 (f := .glo "BadRatio") rfl)
  x_BadRatio := He.exc_ok (He.SaysD.fact c.t.d 17 (f := .exc "BadRatio") rfl)
  g_BadPlan := He.glo_ok X G (He.SaysD.fact c.t.d 18 (f := .glo "BadPlan") rfl)
  g_BadPaper := He.glo_ok X G (He.SaysD.fact c.t.d 19 (f := .glo "BadPaper") rfl)
  g_NoShare := He.glo_ok X G (He.SaysD.fact c.t.d 20 (f := .glo "NoShare") rfl)
  g_NoPlan := He.glo_ok X G (He.SaysD.fact c.t.d 21 (f := .glo "NoPlan") rfl)
  g_TooLarge := He.glo_ok X G (He.SaysD.fact c.t.d 22 (f := .glo "TooLarge") rfl)
  g_Ratio := He.glo_ok X G (He.SaysD.fact c.t.d 23 (f := .glo "Ratio") rfl)
  c_Ratio := He.cls_ok (He.SaysD.fact c.t.d 24 (f := .cls "Ratio") rfl)
  m_Ratio := He.mkr_ok (He.SaysD.fact c.t.d 25 (f := .mkr "Ratio") rfl)
  a_Ratio_num := He.noat_ok (He.SaysD.fact c.t.d 26 (f := .noat "Ratio" "num") rfl)
  a_Ratio_den := He.noat_ok (He.SaysD.fact c.t.d 27 (f := .noat "Ratio" "den") rfl)
  t_Ratio_add := He.meth_ok (He.SaysD.fact c.t.d 28 (f := .meth "Ratio" "__add__") rfl)
  t_Ratio_sub := He.meth_ok (He.SaysD.fact c.t.d 29 (f := .meth "Ratio" "__sub__") rfl)
  t_Ratio_mul := He.meth_ok (He.SaysD.fact c.t.d 30 (f := .meth "Ratio" "__mul__") rfl)
  t_Ratio_eq := He.meth_ok (He.SaysD.fact c.t.d 31 (f := .meth "Ratio" "__eq__") rfl)
  t_Ratio_str := He.meth_ok (He.SaysD.fact c.t.d 32 (f := .meth "Ratio" "__str__") rfl)
  t_Ratio_less := He.meth_ok (He.SaysD.fact c.t.d 33 (f := .meth "Ratio" "less") rfl)
  t_Ratio_over := He.meth_ok (He.SaysD.fact c.t.d 34 (f := .meth "Ratio" "over") rfl)
  g_Plan := He.glo_ok X G (He.SaysD.fact c.t.d 35 (f := .glo "Plan") rfl)
  c_Plan := He.cls_ok (He.SaysD.fact c.t.d 36 (f := .cls "Plan") rfl)
  m_Plan := He.mkr_ok (He.SaysD.fact c.t.d 37 (f := .mkr "Plan") rfl)
  a_Plan_table := He.noat_ok (He.SaysD.fact c.t.d 38 (f := .noat "Plan" "table") rfl)
  t_Plan_eq := He.meth_ok (He.SaysD.fact c.t.d 39 (f := .meth "Plan" "__eq__") rfl)
  t_Plan_entries := He.meth_ok (He.SaysD.fact c.t.d 40 (f := .meth "Plan" "entries") rfl)
  t_Plan_lots := He.meth_ok (He.SaysD.fact c.t.d 41 (f := .meth "Plan" "lots") rfl)
  f_ValueError := He.free_ok X G (He.SaysD.fact c.t.d 42 (f := .free "ValueError") rfl)
  f_zip := He.free_ok X G (He.SaysD.fact c.t.d 43 (f := .free "zip") rfl)
  f_isinstance := He.free_ok X G (He.SaysD.fact c.t.d 44 (f := .free "isinstance") rfl)
  f_int := He.free_ok X G (He.SaysD.fact c.t.d 45 (f := .free "int") rfl)
  f_abs := He.free_ok X G (He.SaysD.fact c.t.d 46 (f := .free "abs") rfl)
  f_range := He.free_ok X G (He.SaysD.fact c.t.d 47 (f := .free "range") rfl)
  f_sum := He.free_ok X G (He.SaysD.fact c.t.d 48 (f := .free "sum") rfl)
  f_dict := He.free_ok X G (He.SaysD.fact c.t.d 49 (f := .free "dict") rfl)
  f_enumerate := He.free_ok X G (He.SaysD.fact c.t.d 50 (f := .free "enumerate") rfl)
  f_list := He.free_ok X G (He.SaysD.fact c.t.d 51 (f := .free "list") rfl)
  f_tuple := He.free_ok X G (He.SaysD.fact c.t.d 52 (f := .free "tuple") rfl)
  f_bool := He.free_ok X G (He.SaysD.fact c.t.d 53 (f := .free "bool") rfl)
  f_str := He.free_ok X G (He.SaysD.fact c.t.d 54 (f := .free "str") rfl)
  f_max := He.free_ok X G (He.SaysD.fact c.t.d 55 (f := .free "max") rfl)
  f_len := He.free_ok X G (He.SaysD.fact c.t.d 56 (f := .free "len") rfl)
  f_super := He.free_ok X G (He.SaysD.fact c.t.d 57 (f := .free "super") rfl)
  f_any := He.free_ok X G (He.SaysD.fact c.t.d 58 (f := .free "any") rfl)
  f_min := He.free_ok X G (He.SaysD.fact c.t.d 59 (f := .free "min") rfl)
  oc_Ratio := eqO_ok (exB_at c.more 0 rfl)
  nf_Ratio := (exB_at c.more 1 rfl)
  ne_Ratio := eqO_ok (exB_at c.more 2 rfl)
  om_Ratio := of_decide_eq_true (exB_at c.more 3 rfl)
  ki_Ratio_tuple := of_decide_eq_true (exB_at c.more 4 rfl)
  ki_Ratio_list := of_decide_eq_true (exB_at c.more 5 rfl)
  ki_Ratio_bool := of_decide_eq_true (exB_at c.more 6 rfl)
  ki_Ratio_int := of_decide_eq_true (exB_at c.more 7 rfl)
  ki_Ratio_str := of_decide_eq_true (exB_at c.more 8 rfl)
  ki_Ratio_Ratio := of_decide_eq_true (exB_at c.more 9 rfl)
  ki_Ratio_Plan := of_decide_eq_true (exB_at c.more 10 rfl)
  of_Ratio := eqO_ok (exB_at c.more 11 rfl)
  sf_Ratio := (exB_at c.more 12 rfl)
  oc_Plan := eqO_ok (exB_at c.more 13 rfl)
  nf_Plan := (exB_at c.more 14 rfl)
  ne_Plan := eqO_ok (exB_at c.more 15 rfl)
  om_Plan := of_decide_eq_true (exB_at c.more 16 rfl)
  ki_Plan_tuple := of_decide_eq_true (exB_at c.more 17 rfl)
  ki_Plan_list := of_decide_eq_true (exB_at c.more 18 rfl)
  ki_Plan_bool := of_decide_eq_true (exB_at c.more 19 rfl)
  ki_Plan_int := of_decide_eq_true (exB_at c.more 20 rfl)
  ki_Plan_str := of_decide_eq_true (exB_at c.more 21 rfl)
  ki_Plan_Ratio := of_decide_eq_true (exB_at c.more 22 rfl)
  ki_Plan_Plan := of_decide_eq_true (exB_at c.more 23 rfl)
  og := eqO_ok (exB_at c.more 24 rfl)
  ot := of_decide_eq_true (exB_at c.more 25 rfl)
  xc_LossError := excB_ok (exB_at c.more 26 rfl)
  em_LossError_LossError := of_decide_eq_true (exB_at c.more 27 rfl)
  ki_LossError_LossError := of_decide_eq_true (exB_at c.more 28 rfl)
  em_LossError_BadText := of_decide_eq_true (exB_at c.more 29 rfl)
  ki_LossError_BadText := of_decide_eq_true (exB_at c.more 30 rfl)
  em_LossError_BadRatio := of_decide_eq_true (exB_at c.more 31 rfl)
  ki_LossError_BadRatio := of_decide_eq_true (exB_at c.more 32 rfl)
  em_LossError_BadPlan := of_decide_eq_true (exB_at c.more 33 rfl)
  ki_LossError_BadPlan := of_decide_eq_true (exB_at c.more 34 rfl)
  em_LossError_BadPaper := of_decide_eq_true (exB_at c.more 35 rfl)
  ki_LossError_BadPaper := of_decide_eq_true (exB_at c.more 36 rfl)
  em_LossError_NoShare := of_decide_eq_true (exB_at c.more 37 rfl)
  ki_LossError_NoShare := of_decide_eq_true (exB_at c.more 38 rfl)
  em_LossError_NoPlan := of_decide_eq_true (exB_at c.more 39 rfl)
  ki_LossError_NoPlan := of_decide_eq_true (exB_at c.more 40 rfl)
  em_LossError_TooLarge := of_decide_eq_true (exB_at c.more 41 rfl)
  ki_LossError_TooLarge := of_decide_eq_true (exB_at c.more 42 rfl)
  kv_LossError := of_decide_eq_true (exB_at c.more 43 rfl)
  xc_BadText := excB_ok (exB_at c.more 44 rfl)
  em_BadText_LossError := of_decide_eq_true (exB_at c.more 45 rfl)
  ki_BadText_LossError := of_decide_eq_true (exB_at c.more 46 rfl)
  em_BadText_BadText := of_decide_eq_true (exB_at c.more 47 rfl)
  ki_BadText_BadText := of_decide_eq_true (exB_at c.more 48 rfl)
  em_BadText_BadRatio := of_decide_eq_true (exB_at c.more 49 rfl)
  ki_BadText_BadRatio := of_decide_eq_true (exB_at c.more 50 rfl)
  em_BadText_BadPlan := of_decide_eq_true (exB_at c.more 51 rfl)
  ki_BadText_BadPlan := of_decide_eq_true (exB_at c.more 52 rfl)
  em_BadText_BadPaper := of_decide_eq_true (exB_at c.more 53 rfl)
  ki_BadText_BadPaper := of_decide_eq_true (exB_at c.more 54 rfl)
  em_BadText_NoShare := of_decide_eq_true (exB_at c.more 55 rfl)
  ki_BadText_NoShare := of_decide_eq_true (exB_at c.more 56 rfl)
  em_BadText_NoPlan := of_decide_eq_true (exB_at c.more 57 rfl)
  ki_BadText_NoPlan := of_decide_eq_true (exB_at c.more 58 rfl)
  em_BadText_TooLarge := of_decide_eq_true (exB_at c.more 59 rfl)
  ki_BadText_TooLarge := of_decide_eq_true (exB_at c.more 60 rfl)
  kv_BadText := of_decide_eq_true (exB_at c.more 61 rfl)
  xc_BadRatio := excB_ok (exB_at c.more 62 rfl)
  em_BadRatio_LossError := of_decide_eq_true (exB_at c.more 63 rfl)
  ki_BadRatio_LossError := of_decide_eq_true (exB_at c.more 64 rfl)
  em_BadRatio_BadText := of_decide_eq_true (exB_at c.more 65 rfl)
  ki_BadRatio_BadText := of_decide_eq_true (exB_at c.more 66 rfl)
  em_BadRatio_BadRatio := of_decide_eq_true (exB_at c.more 67 rfl)
  ki_BadRatio_BadRatio := of_decide_eq_true (exB_at c.more 68 rfl)
  em_BadRatio_BadPlan := of_decide_eq_true (exB_at c.more 69 rfl)
  ki_BadRatio_BadPlan := of_decide_eq_true (exB_at c.more 70 rfl)
  em_BadRatio_BadPaper := of_decide_eq_true (exB_at c.more 71 rfl)
  ki_BadRatio_BadPaper := of_decide_eq_true (exB_at c.more 72 rfl)
  em_BadRatio_NoShare := of_decide_eq_true (exB_at c.more 73 rfl)
  ki_BadRatio_NoShare := of_decide_eq_true (exB_at c.more 74 rfl)
  em_BadRatio_NoPlan := of_decide_eq_true (exB_at c.more 75 rfl)
  ki_BadRatio_NoPlan := of_decide_eq_true (exB_at c.more 76 rfl)
  em_BadRatio_TooLarge := of_decide_eq_true (exB_at c.more 77 rfl)
  ki_BadRatio_TooLarge := of_decide_eq_true (exB_at c.more 78 rfl)
  kv_BadRatio := of_decide_eq_true (exB_at c.more 79 rfl)
  xc_BadPlan := excB_ok (exB_at c.more 80 rfl)
  em_BadPlan_LossError := of_decide_eq_true (exB_at c.more 81 rfl)
  ki_BadPlan_LossError := of_decide_eq_true (exB_at c.more 82 rfl)
  em_BadPlan_BadText := of_decide_eq_true (exB_at c.more 83 rfl)
  ki_BadPlan_BadText := of_decide_eq_true (exB_at c.more 84 rfl)
  em_BadPlan_BadRatio := of_decide_eq_true (exB_at c.more 85 rfl)
  ki_BadPlan_BadRatio := of_decide_eq_true (exB_at c.more 86 rfl)
  em_BadPlan_BadPlan := of_decide_eq_true (exB_at c.more 87 rfl)
  ki_BadPlan_BadPlan := of_decide_eq_true (exB_at c.more 88 rfl)
  em_BadPlan_BadPaper := of_decide_eq_true (exB_at c.more 89 rfl)
  ki_BadPlan_BadPaper := of_decide_eq_true (exB_at c.more 90 rfl)
  em_BadPlan_NoShare := of_decide_eq_true (exB_at c.more 91 rfl)
  ki_BadPlan_NoShare := of_decide_eq_true (exB_at c.more 92 rfl)
  em_BadPlan_NoPlan := of_decide_eq_true (exB_at c.more 93 rfl)
  ki_BadPlan_NoPlan := of_decide_eq_true (exB_at c.more 94 rfl)
  em_BadPlan_TooLarge := of_decide_eq_true (exB_at c.more 95 rfl)
  ki_BadPlan_TooLarge := of_decide_eq_true (exB_at c.more 96 rfl)
  kv_BadPlan := of_decide_eq_true (exB_at c.more 97 rfl)
  xc_BadPaper := excB_ok (exB_at c.more 98 rfl)
  em_BadPaper_LossError := of_decide_eq_true (exB_at c.more 99 rfl)
  ki_BadPaper_LossError := of_decide_eq_true (exB_at c.more 100 rfl)
  em_BadPaper_BadText := of_decide_eq_true (exB_at c.more 101 rfl)
  ki_BadPaper_BadText := of_decide_eq_true (exB_at c.more 102 rfl)
  em_BadPaper_BadRatio := of_decide_eq_true (exB_at c.more 103 rfl)
  ki_BadPaper_BadRatio := of_decide_eq_true (exB_at c.more 104 rfl)
  em_BadPaper_BadPlan := of_decide_eq_true (exB_at c.more 105 rfl)
  ki_BadPaper_BadPlan := of_decide_eq_true (exB_at c.more 106 rfl)
  em_BadPaper_BadPaper := of_decide_eq_true (exB_at c.more 107 rfl)
  ki_BadPaper_BadPaper := of_decide_eq_true (exB_at c.more 108 rfl)
  em_BadPaper_NoShare := of_decide_eq_true (exB_at c.more 109 rfl)
  ki_BadPaper_NoShare := of_decide_eq_true (exB_at c.more 110 rfl)
  em_BadPaper_NoPlan := of_decide_eq_true (exB_at c.more 111 rfl)
  ki_BadPaper_NoPlan := of_decide_eq_true (exB_at c.more 112 rfl)
  em_BadPaper_TooLarge := of_decide_eq_true (exB_at c.more 113 rfl)
  ki_BadPaper_TooLarge := of_decide_eq_true (exB_at c.more 114 rfl)
  kv_BadPaper := of_decide_eq_true (exB_at c.more 115 rfl)
  xc_NoShare := excB_ok (exB_at c.more 116 rfl)
  em_NoShare_LossError := of_decide_eq_true (exB_at c.more 117 rfl)
  ki_NoShare_LossError := of_decide_eq_true (exB_at c.more 118 rfl)
  em_NoShare_BadText := of_decide_eq_true (exB_at c.more 119 rfl)
  ki_NoShare_BadText := of_decide_eq_true (exB_at c.more 120 rfl)
  em_NoShare_BadRatio := of_decide_eq_true (exB_at c.more 121 rfl)
  ki_NoShare_BadRatio := of_decide_eq_true (exB_at c.more 122 rfl)
  em_NoShare_BadPlan := of_decide_eq_true (exB_at c.more 123 rfl)
  ki_NoShare_BadPlan := of_decide_eq_true (exB_at c.more 124 rfl)
  em_NoShare_BadPaper := of_decide_eq_true (exB_at c.more 125 rfl)
  ki_NoShare_BadPaper := of_decide_eq_true (exB_at c.more 126 rfl)
  em_NoShare_NoShare := of_decide_eq_true (exB_at c.more 127 rfl)
  ki_NoShare_NoShare := of_decide_eq_true (exB_at c.more 128 rfl)
  em_NoShare_NoPlan := of_decide_eq_true (exB_at c.more 129 rfl)
  ki_NoShare_NoPlan := of_decide_eq_true (exB_at c.more 130 rfl)
  em_NoShare_TooLarge := of_decide_eq_true (exB_at c.more 131 rfl)
  ki_NoShare_TooLarge := of_decide_eq_true (exB_at c.more 132 rfl)
  kv_NoShare := of_decide_eq_true (exB_at c.more 133 rfl)
  xc_NoPlan := excB_ok (exB_at c.more 134 rfl)
  em_NoPlan_LossError := of_decide_eq_true (exB_at c.more 135 rfl)
  ki_NoPlan_LossError := of_decide_eq_true (exB_at c.more 136 rfl)
  em_NoPlan_BadText := of_decide_eq_true (exB_at c.more 137 rfl)
  ki_NoPlan_BadText := of_decide_eq_true (exB_at c.more 138 rfl)
  em_NoPlan_BadRatio := of_decide_eq_true (exB_at c.more 139 rfl)
  ki_NoPlan_BadRatio := of_decide_eq_true (exB_at c.more 140 rfl)
  em_NoPlan_BadPlan := of_decide_eq_true (exB_at c.more 141 rfl)
  ki_NoPlan_BadPlan := of_decide_eq_true (exB_at c.more 142 rfl)
  em_NoPlan_BadPaper := of_decide_eq_true (exB_at c.more 143 rfl)
  ki_NoPlan_BadPaper := of_decide_eq_true (exB_at c.more 144 rfl)
  em_NoPlan_NoShare := of_decide_eq_true (exB_at c.more 145 rfl)
  ki_NoPlan_NoShare := of_decide_eq_true (exB_at c.more 146 rfl)
  em_NoPlan_NoPlan := of_decide_eq_true (exB_at c.more 147 rfl)
  ki_NoPlan_NoPlan := of_decide_eq_true (exB_at c.more 148 rfl)
  em_NoPlan_TooLarge := of_decide_eq_true (exB_at c.more 149 rfl)
  ki_NoPlan_TooLarge := of_decide_eq_true (exB_at c.more 150 rfl)
  kv_NoPlan := of_decide_eq_true (exB_at c.more 151 rfl)
  xc_TooLarge := excB_ok (exB_at c.more 152 rfl)
  em_TooLarge_LossError := of_decide_eq_true (exB_at c.more 153 rfl)
  ki_TooLarge_LossError := of_decide_eq_true (exB_at c.more 154 rfl)
  em_TooLarge_BadText := of_decide_eq_true (exB_at c.more 155 rfl)
  ki_TooLarge_BadText := of_decide_eq_true (exB_at c.more 156 rfl)
  em_TooLarge_BadRatio := of_decide_eq_true (exB_at c.more 157 rfl)
  ki_TooLarge_BadRatio := of_decide_eq_true (exB_at c.more 158 rfl)
  em_TooLarge_BadPlan := of_decide_eq_true (exB_at c.more 159 rfl)
  ki_TooLarge_BadPlan := of_decide_eq_true (exB_at c.more 160 rfl)
  em_TooLarge_BadPaper := of_decide_eq_true (exB_at c.more 161 rfl)
  ki_TooLarge_BadPaper := of_decide_eq_true (exB_at c.more 162 rfl)
  em_TooLarge_NoShare := of_decide_eq_true (exB_at c.more 163 rfl)
  ki_TooLarge_NoShare := of_decide_eq_true (exB_at c.more 164 rfl)
  em_TooLarge_NoPlan := of_decide_eq_true (exB_at c.more 165 rfl)
  ki_TooLarge_NoPlan := of_decide_eq_true (exB_at c.more 166 rfl)
  em_TooLarge_TooLarge := of_decide_eq_true (exB_at c.more 167 rfl)
  ki_TooLarge_TooLarge := of_decide_eq_true (exB_at c.more 168 rfl)
  kv_TooLarge := of_decide_eq_true (exB_at c.more 169 rfl)
  sb_BadText := (exB_at c.more 170 rfl)
  xf_BadText := L2.xfB_ok (exB_at c.more 171 rfl)
  xn_BadText := eqO_ok (exB_at c.more 172 rfl)
  sb_BadPlan := (exB_at c.more 173 rfl)
  xf_BadPlan := L2.xfB_ok (exB_at c.more 174 rfl)
  xn_BadPlan := eqO_ok (exB_at c.more 175 rfl)
  sb_BadPaper := (exB_at c.more 176 rfl)
  xf_BadPaper := L2.xfB_ok (exB_at c.more 177 rfl)
  xn_BadPaper := eqO_ok (exB_at c.more 178 rfl)
  sb_NoShare := (exB_at c.more 179 rfl)
  xf_NoShare := L2.xfB_ok (exB_at c.more 180 rfl)
  xn_NoShare := eqO_ok (exB_at c.more 181 rfl)
  sb_NoPlan := (exB_at c.more 182 rfl)
  xf_NoPlan := L2.xfB_ok (exB_at c.more 183 rfl)
  xn_NoPlan := eqO_ok (exB_at c.more 184 rfl)
  sb_TooLarge := (exB_at c.more 185 rfl)
  xf_TooLarge := L2.xfB_ok (exB_at c.more 186 rfl)
  xn_TooLarge := eqO_ok (exB_at c.more 187 rfl)
  s_BadText := SupX.sup_of (P := PR) (x := "at") (exB_at c.more 170 rfl) (He.zsW_at z 0 rfl rfl) (by decide +kernel) (fun _ _ _ _ _ _ _ _ _ => rfl) rfl rfl rfl rfl rfl rfl (by decide +kernel) (by decide +kernel) (by decide +kernel) (by decide +kernel) (by decide +kernel) (by decide) (by decide) (fun _ _ _ _ => rfl) ⟨_, fun _ _ _ _ => rfl⟩ (fun _ _ _ _ => rfl) (fun _ _ _ _ => rfl)
  s_BadPlan := SupX.sup_of (P := PR) (x := "at") (exB_at c.more 173 rfl) (He.zsW_at z 1 rfl rfl) (by decide +kernel) (fun _ _ _ _ _ _ _ _ _ => rfl) rfl rfl rfl rfl rfl rfl (by decide +kernel) (by decide +kernel) (by decide +kernel) (by decide +kernel) (by decide +kernel) (by decide) (by decide) (fun _ _ _ _ => rfl) ⟨_, fun _ _ _ _ => rfl⟩ (fun _ _ _ _ => rfl) (fun _ _ _ _ => rfl)
  s_BadPaper := SupX.sup_of (P := PR) (x := "at") (exB_at c.more 176 rfl) (He.zsW_at z 2 rfl rfl) (by decide +kernel) (fun _ _ _ _ _ _ _ _ _ => rfl) rfl rfl rfl rfl rfl rfl (by decide +kernel) (by decide +kernel) (by decide +kernel) (by decide +kernel) (by decide +kernel) (by decide) (by decide) (fun _ _ _ _ => rfl) ⟨_, fun _ _ _ _ => rfl⟩ (fun _ _ _ _ => rfl) (fun _ _ _ _ => rfl)
  s_NoShare := SupX.sup_of (P := PR) (x := "what") (exB_at c.more 179 rfl) (He.zsW_at z 3 rfl rfl) (by decide +kernel) (fun _ _ _ _ _ _ _ _ _ => rfl) rfl rfl rfl rfl rfl rfl (by decide +kernel) (by decide +kernel) (by decide +kernel) (by decide +kernel) (by decide +kernel) (by decide) (by decide) (fun _ _ _ _ => rfl) ⟨_, fun _ _ _ _ => rfl⟩ (fun _ _ _ _ => rfl) (fun _ _ _ _ => rfl)
  s_NoPlan := SupX.sup_of (P := PR) (x := "least") (exB_at c.more 182 rfl) (He.zsW_at z 4 rfl rfl) (by decide +kernel) (fun _ _ _ _ _ _ _ _ _ => rfl) rfl rfl rfl rfl rfl rfl (by decide +kernel) (by decide +kernel) (by decide +kernel) (by decide +kernel) (by decide +kernel) (by decide) (by decide) (fun _ _ _ _ => rfl) ⟨_, fun _ _ _ _ => rfl⟩ (fun _ _ _ _ => rfl) (fun _ _ _ _ => rfl)
  s_TooLarge := SupX.sup_of (P := PR) (x := "what") (exB_at c.more 185 rfl) (He.zsW_at z 5 rfl rfl) (by decide +kernel) (fun _ _ _ _ _ _ _ _ _ => rfl) rfl rfl rfl rfl rfl rfl (by decide +kernel) (by decide +kernel) (by decide +kernel) (by decide +kernel) (by decide +kernel) (by decide) (by decide) (fun _ _ _ _ => rfl) ⟨_, fun _ _ _ _ => rfl⟩ (fun _ _ _ _ => rfl) (fun _ _ _ _ => rfl)
/-! ### the head's run -/
def names0 : List Str := ["_wall", "LossError", "BadText", "BadRatio", "BadPlan", "BadPaper", "NoShare", "NoPlan", "TooLarge", "Ratio", "added", "Plan", "sure", "_law_pool", "_law_draw", "_law_same", "_law_less", "_law_made_plan", "_law_weights", "_law_told", "_law_kept", "_law_sure"]
def names : List Str := names0
abbrev lawAt : Nat := 26
abbrev hk : PySem.W.Hook := He.hookY 4 fa fn tabs exB zs zv
def ob (s : PySem.W.SharedT) : He.AlX × List SupX.FnZ := He.obsY 4 fa fn tabs exB zs (HandSHeadRun.getT s)
theorem ob_eq (s : PySem.W.SharedT) : ob s = hk.obs s.abs := He.obsY_eq (HandSHeadRun.getT_eq s)
theorem runF (w : World) : HandSHeadRun.RunEq R (PySem.W.view R.prog [lawAt]) hk ob 60000 names (w.withFollow "special-get-raises" false) := by
  intro os
  kernel_rfl
theorem runT (w : World) : HandSHeadRun.RunEq R (PySem.W.view R.prog [lawAt]) hk ob 60000 names (w.withFollow "special-get-raises" true) := by
  intro os
  kernel_rfl
theorem run (w : World) : HandSHeadRun.RunEq R (PySem.W.view R.prog [lawAt]) hk ob 60000 names w :=
  PySem.W.byRow2 "special-get-raises" (P := fun w => HandSHeadRun.RunEq R (PySem.W.view R.prog [lawAt]) hk ob 60000 names w) runF runT w
end LL
namespace LL
open PySem PySem.Spec PyProof.Rows L2 He Evl
/-! ### rules of own operators, own str -/
section
variable {X : Cx} {CX : CXT} {n : Nat} {C g : Addr} {sp : Sp} {E : XK}
def rOwnB (C : Addr) (sp : Sp) (E : XK) : R2 := fun x y H Q => ∃ a dx fs b dy gs, x = .ref a ∧ y = .ref b ∧ H a = some (.ins C dx fs) ∧ H b = some (.ins C dy gs) ∧ sp [x, y] H Q E
theorem op_ownB {op : Operator} (hc : PySem.W.selfFirst X.K C = true) (hs : PySem.W.findIn X.K (.ref C) (PySem.dunder op.info.2) = some (some (.ref g))) (hf : PySem.W.isFn X.K (.ref g) = true) (F : FnR X.prog X.w X.K X.mg X.base CX n g sp)
    (hr : Room n X.A) (hx : Passes CX X E) : OpR X (binaryOp op) (rOwnB C sp E) := by
  intro pins s σ H x y v u Q I rx ry h
  obtain ⟨a, dx, fs, b, dy, gs, rfl, rfl, ha, hb, q⟩ := h
  cases (show v = Value.ref a from rx)
  cases (show u = Value.ref b from ry)
  obtain ⟨mA, O, _⟩ := ins_get I.hok ha
  obtain ⟨od, J, _⟩ := O.look
  obtain ⟨mB, O2, _⟩ := ins_get I.hok hb
  obtain ⟨od2, J2, _⟩ := O2.look
  obtain ⟨m, hF⟩ := I.fr
  refine PySem.W.binop_K hF I.ok.mod.kin J J2.type hc hs hf ?_
  refine wpAny_mono (wpAny_call (run_fnR (us := [.ref a, .ref b]) (vs := [.ref a, .ref b]) F hr hx I (.cons rfl (.cons rfl .nil)) q)) (fun w s' z => ?_) fun _ _ x => x
  obtain ⟨z', H', I', rz, qz⟩ := z
  exact SlX.cmpback rz ⟨z', H', I', rz, qz⟩
theorem op_ownC {op : CmpOp} (hop : ∀ a b, compareOp op a b = richCompare op a b) (hn : PySem.W.notFirst X.K C (.ref C) = true) (hs : PySem.W.findIn X.K (.ref C) (cmpInfo op).2.1 = some (some (.ref g))) (hf : PySem.W.isFn X.K (.ref g) = true) (F : FnR X.prog X.w X.K X.mg X.base CX n g sp)
    (hr : Room n X.A) (hx : Passes CX X E) : OpR X (compareOp op) (rOwnB C sp E) := by
  intro pins s σ H x y v u Q I rx ry h
  obtain ⟨a, dx, fs, b, dy, gs, rfl, rfl, ha, hb, q⟩ := h
  cases (show v = Value.ref a from rx)
  cases (show u = Value.ref b from ry)
  obtain ⟨mA, O, _⟩ := ins_get I.hok ha
  obtain ⟨od, J, _⟩ := O.look
  obtain ⟨mB, O2, _⟩ := ins_get I.hok hb
  obtain ⟨od2, J2, _⟩ := O2.look
  obtain ⟨m, hF⟩ := I.fr
  rw [hop]
  refine PySem.W.cmp_K (op := op) (tb := .ref C) hr.units0 hF I.ok.mod.kin J J2.type hn hs hf ?_
  refine wpAny_mono (wpAny_call (run_fnR (us := [.ref a, .ref b]) (vs := [.ref a, .ref b]) F hr hx I (.cons rfl (.cons rfl .nil)) q)) (fun w s' z => ?_) fun _ _ x => x
  obtain ⟨z', H', I', rz, qz⟩ := z
  exact SlX.cmpback rz ⟨z', H', I', rz, qz⟩
def rStrOwn (C : Addr) (sp : Sp) (E : XK) : List V → Hp → VK → Prop := fun xs H Q => ∃ a dx fs, xs = [.ref a] ∧ H a = some (.ins C dx fs) ∧ sp [.ref a] H (fun z H' => ∃ y, z = .str y ∧ Q (.str y) H') E
open Builtin Builtin.Str PySem.W in
theorem call_strOwn (hs : PySem.W.findIn X.K (.ref C) "__str__" = some (some (.ref g))) (hf : PySem.W.isFn X.K (.ref g) = true) (F : FnR X.prog X.w X.K X.mg X.base CX n g sp) (hr : Room (n + 2) X.A) (hx : Passes CX X E) : CallR X (.type "str") (rStrOwn C sp E) := by
  intro pins s σ H xs us Q I r h
  obtain ⟨a, dx, fs, rfl, ha, q⟩ := h
  obtain ⟨u, rfl, ru⟩ := r.one
  cases (show u = Value.ref a from ru)
  obtain ⟨mA, O, _⟩ := ins_get I.hok ha
  obtain ⟨od, J, _⟩ := O.look
  have hr2 : Room n X.A.in1.in1 := (show Room (n + 1) X.A.in1 from Room.in1 hr).in1
  refine callType_codes (T := "str") (Bi := Builtin.«object.__init__») (Q₁ := fun r s₁ => ∃ y u, r = .str y u ∧ EP X pins σ Q r s₁) PySem.F.called_str (PySem.F.typeCall_str_1 _) PySem.F.entry_object_init ?_ ?_
  · refine codeAny_of_tree ?_
    show wpAny _ X.A.in1.in1 (do checkBuiltinCall "str.__new__" ⟨[.type "str", .ref a], []⟩; again (.builtin "str.__new__" ⟨[.type "str", .ref a], []⟩)) _ _ s
    refine wpAny_bind (wpAny_of_eq (PySem.F.newCall_str_1 _) (wpAny_pure ⟨plainId_quiet (by decide +kernel) _, codeAny_builtin PySem.F.entry_str_new ?_⟩))
    rw [Around.under_plainId (by decide +kernel) _]
    rw [str_new_tree]
    refine wpAny_bind (wpAny_pure ?_)
    refine wpAny_bind (wpAny_of_eq isSubtype_str_str ?_)
    have key : wpAny (model X.prog X.w) X.A.in1.in1 (PySem.Builtin.Str.strOf (.ref a)) (fun r s₁ => ∃ y u, r = .str y u ∧ EP X pins σ Q r s₁) X.xe s := by
      unfold PySem.Builtin.Str.strOf
      rw [show isExactStr (.ref a) = false from rfl]
      refine wpAny_bind (m := cRoomFor _ _) (wpAny_cRoomFor hr2.units0 ?_)
      refine wpAny_bind (m := callSpecial? (.ref a) (Str.ofString "__str__")) (special_fn I.kIn J hs (beq_iff_eq.mp hf) (wpAny_mono (wpAny_call (SlX.run_at (us := [.ref a]) (ws := [.ref a]) F hr2 I.env0.in1.in1 hx I (.cons rfl .nil) q)) (fun r s' z => ?_) fun _ _ y => y))
      obtain ⟨z', H', I', rz, y, ez, qz⟩ := z
      subst ez
      obtain ⟨t, e⟩ := (show ∃ t, r = Value.str y t from rz)
      cases e
      exact wpAny_pure ⟨_, _, rfl, .str y, H', I', ⟨t, rfl⟩, qz⟩
    exact wpAny_bind (wpAny_mono key (fun r s₁ hr => wpAny_pure hr) fun _ _ y => y)
  · rintro obj s₁ ⟨y, u, rfl, hq⟩
    exact ⟨typeIs_str _ _ _, PySem.F.args_object_init_2 _ _, object_init_meets PySem.F.called_str.init.lookup PySem.F.called_str.made (by decide) X.prog X.w X.A.in1 _ s₁ ⟨typeIs_str _ _ _, rfl, hq⟩⟩
end
section
variable {P : Program} {w : World} {K : PySem.W.Frag} {mg : Str → Option Value} {base : Heap}
abbrev Fn (P : Program) (w : World) (K : PySem.W.Frag) (mg : Str → Option Value) (base : Heap) (k : Nat) (f : Addr) (sp : Sp) : Prop := FnR P w K mg base (L2.CX P w) k f sp
/-- what a call lets out is what the def lets out -/
theorem pc {N : List Str} {qual : Str} {scope : Scope} {f : Addr} {cd : Value} {A : Around} {outer : List Env} {s : Shared} {H : Hp} {E : XK} (h : scope.kind = .function := by rfl) : Passes (L2.CX P w) (cxOf (L2.CX P w) P w K mg base N qual scope f cd A outer s H E) E :=
  passes_call (takes_of rfl rfl rfl rfl) (fun _ _ _ _ h => h)
theorem fn_def {x qual : Str} {st : Stmt} {f : Addr} {N ps : List Str} {k : Nat} {sp : Sp} (D : ∃ fd, FunD K x qual (defArgs st) (defBody st) (defScope st) [] [] f fd) (S : FnScope N ps (defScope st))
    (hb : ∀ (kV doc pm : Value) (an : Option Addr) (cdv ct : Value) (us : List Value), us.length = ps.length → bindArgs (PySem.W.fnOf x qual (defArgs st) (defBody st) (defScope st) .none kV doc pm an cdv ct) ⟨us, []⟩ = pure (ps.zip us))
    (len : ∀ vs H Q E, sp vs H Q E → vs.length = ps.length)
    (hbody : ∀ (cdv : Value) (A : Around) (outer : List Env) (s : Shared) (H : Hp) (vs : List V) (Q : VK) (E : XK), Room k (A.deeper (envOfC qual (defScope st) s.heap.objs.size f cdv)) → sp vs H Q E →
      ∃ t, PSs (cxOf (L2.CX P w) P w K mg base N qual (defScope st) f cdv A outer s H E) (defBody st) t ∧ t { nx := fun _ H' => Q .non H', rt := Q } (start N vs) H) : Fn P w K mg base (k + 1) f sp := by
  obtain ⟨fd, F⟩ := D
  exact (FnOk.raw (F.ok S len hbody) (F.bindsN hb) (dvs := []) .nil).imp (fun vs H Q E h => by simpa using h)
theorem pe_gr {X : Cx} {x : Str} {a : Addr} {pos : Pos} (hm : X.mg x = some (.ref a)) (hg : Gl X x := by rfl) (hd : (x == ("__debug__" : Str)) = false := by decide) : PE X (.Name x pos) (tC (.ref a)) := pe_glob hg hm rfl hd
/-! ### further rules -/
theorem kp_of {x qual : Str} {st : Stmt} {f : Addr} {dvs : List V} (D : ∃ fd, FunD K x qual (defArgs st) (defBody st) (defScope st) dvs [] f fd) : PySem.W.keepIn K (.ref f) = true := by
  obtain ⟨fd, F⟩ := D
  exact F.kp
theorem pe_fn {X : Cx} {CX : CXT} {k : Nat} {f : Addr} {sp : Sp} {E : XK} {x x' qual : Str} {st : Stmt} {dvs : List V} {e : Expr} {es : List Expr} {t : TA} {p pos : Pos} (D : ∃ fd, FunD X.K x' qual (defArgs st) (defBody st) (defScope st) dvs [] f fd)
    (F : FnR X.prog X.w X.K X.mg X.base CX k f sp) (hr : Room k X.A) (hm : X.mg x = some (.ref f)) (hx : Passes CX X E) (ha : PA X (e :: es) t) (hg : Gl X x := by rfl) (hdb : (x == ("__debug__" : Str)) = false := by decide)
    (he : starEach (e :: es) X.env = (false, eval e X.env) :: starEach es X.env := by rfl) (hpl : (backTo pos (starEach es X.env)).any (·.1) = false := by rfl) :
    PE X (.Call (.Name x p) (e :: es) [] pos) (fun σ H Q => t σ H fun vs H1 => sp vs H1 Q E) := by
  refine ⟨fun pins s σ H Q I h => ?_⟩
  refine wpAny_Call_Name_kw (ld_glob I hg hm ?_ hdb)
  refine PySem.W.callWith_K (h₀ := X.base) I.ok.mod.kin (kp_of D) (thn (ha.run pos pins s σ H _ I h) fun us s1 ⟨vs, H1, I1, r, q⟩ => ⟨I1.kIn, ?_⟩) he hpl
  exact wpAny_call (run_fnR F hr hx I1 r q)
theorem pe_methR0 {X : Cx} {CX : CXT} {k : Nat} {C f : Addr} {m : Str} {sp : Sp} {E : XK} {o : Expr} {ta : TE} {apos pos : Pos} {pl : Sem Bool} (he : PE X o ta) (c : Cls X.K C) (hm : Meth X.K C m f)
    (F : FnR X.prog X.w X.K X.mg X.base CX k f sp) (hr : Room k X.A) (hx : Passes CX X E)
    (ht : eval (.Call (.Attribute o m apos) [] [] pos) X.env = (do
      let ov ← eval o X.env
      standAt apos.atName
      let (f, first) ← holding [ov] (getMethod ov m pl)
      callWith pos f first (backTo pos (starEach [] X.env)) (backToKw pos (keywordEach [] X.env))) := by rfl) :
    PE X (.Call (.Attribute o m apos) [] [] pos) (tMethR C m sp E ta tNil) := by
  refine ⟨fun pins s σ H Q I h => ?_⟩
  refine PySem.W.methodCall_KW (pl := pl) (thn (he.run pins s σ H _ I h) fun u s1 ⟨x, H1, I1, rx, a, dx, fs, ex, ea, l, q⟩ => ?_) ht
  subst ex
  obtain rfl : u = Value.ref a := rx
  refine getmeth_ok I1 ea c hm l ?_
  exact PySem.W.callWith_K0 (first := [.ref a]) I1.kIn hm.kp (wpAny_call (run_fnR (us := [.ref a]) (vs := [.ref a]) F hr hx I1 (.cons rfl .nil) q))
theorem pe_gi {X : Cx} {x : Str} {i : Int} {pos : Pos} (h : ∃ t, X.mg x = some (.int i t)) (hg : Gl X x := by rfl) (hd : (x == ("__debug__" : Str)) = false := by decide) : PE X (.Name x pos) (tC (.int i)) := by
  obtain ⟨t, hm⟩ := h
  exact pe_glob hg hm ⟨_, rfl⟩ hd
theorem pe_gs {X : Cx} {x z : Str} {pos : Pos} (h : ∃ t, X.mg x = some (.str z t)) (hg : Gl X x := by rfl) (hd : (x == ("__debug__" : Str)) = false := by decide) : PE X (.Name x pos) (tC (.str z)) := by
  obtain ⟨t, hm⟩ := h
  exact pe_glob hg hm ⟨_, rfl⟩ hd
theorem run_makeR0 {X : Cx} {CX : CXT} {k : Nat} {f C : Addr} {sp : Sp} {E : XK} {pins : List (Addr × Obj)} {σ : L2.St} {H : Hp} {s : Shared} {Q : VK} (M : Mk X.K C f) (F : FnR X.prog X.w X.K X.mg X.base CX k f sp) (hr : Room (k + 1) X.A) (hx : Passes CX X E) (I : Inv X pins σ H s)
    (h : ∀ x dx, H x = Option.none → H dx = Option.none → dx ≠ x → sp [V.ref x] (upd (upd H dx (.own x)) x (.ins C dx [])) (fun v H2 => v = .non ∧ Q (.ref x) H2) E) :
    wpAny (model X.prog X.w) X.A (call (.ref C) []) (EP X pins σ Q) X.xe s := StX.run_makeR M F hr hx I .nil h
end
/-! ### calls in a try: what is let out is wished for at the slots -/
section
variable {X : Cx} {CX : CXT} {k : Nat} {f C : Addr} {sp : Sp} {E : L2.St → XK} {x : Str} {e : Expr} {es : List Expr} {t : TA} {p pos : Pos}
theorem run_makeRS {pins : List (Addr × Obj)} {σ : L2.St} {H : Hp} {s : Shared} {Q : VK} {us : List Value} {vs : List V} {E : XK} (M : Mk X.K C f) (F : FnR X.prog X.w X.K X.mg X.base CX k f sp) (hr : Room (k + 1) X.A) (hx : PassesAt CX X σ E) (I : Inv X pins σ H s) (r : Vals vs us)
    (h : ∀ x dx, H x = Option.none → H dx = Option.none → dx ≠ x → sp (V.ref x :: vs) (upd (upd H dx (.own x)) x (.ins C dx [])) (fun v H2 => v = .non ∧ Q (.ref x) H2) E) :
    wpAny (model X.prog X.w) X.A (call (.ref C) us) (EP X pins σ Q) X.xe s := by
  have hq := h (s.heap.objs.size + 1) s.heap.objs.size (I.hok.fresh (Nat.le_succ _)) (I.hok.fresh (Nat.le_refl _)) (Nat.ne_of_lt (Nat.lt_succ_self _))
  have I2 := Inv.made (C := C) I
  have r2 : Vals (V.ref (s.heap.objs.size + 1) :: vs) (Value.ref (s.heap.objs.size + 1) :: us) := .cons rfl r
  refine wpAny_call (make_map (f := f) I.kIn M.makes M.init (beq_iff_eq.mp M.fn) (codeAny_mono (F _ X.stack _ _ (Value.ref (s.heap.objs.size + 1) :: us) _ _ E (hr.make C us []) (I2.env0.make C us []) r2 hq) fun r s' hq' => ?_))
  cases r with
  | error e => exact hx pins _ _ e s' I2 hq'
  | ok fl =>
    cases fl with
    | ret u =>
      obtain ⟨v, H', I3, rv, ev, q3⟩ := I2.after hq'
      subst ev
      exact ⟨rv, ⟨V.ref (s.heap.objs.size + 1), H', I3, rfl, q3⟩⟩
    | next => exact False.elim hq'
    | brk => exact False.elim hq'
    | cont => exact False.elim hq'
def tMakeRS (C : Addr) (sp : Sp) (E : L2.St → XK) (t : TA) : TE := fun σ H Q => StX.tMakeR C sp (E σ) t σ H Q
theorem pe_makeRS (M : Mk X.K C f) (F : FnR X.prog X.w X.K X.mg X.base CX k f sp) (hr : Room (k + 1) X.A) (hg : Gl X x) (hm : X.mg x = some (.ref C)) (hx : ∀ σ, PassesAt CX X σ (E σ)) (ha : PA X (e :: es) t) (hdb : (x == ("__debug__" : Str)) = false := by decide)
    (he : starEach (e :: es) X.env = (false, eval e X.env) :: starEach es X.env := by rfl) (hpl : (backTo pos (starEach es X.env)).any (·.1) = false := by rfl) : PE X (.Call (.Name x p) (e :: es) [] pos) (tMakeRS C sp E t) := by
  refine ⟨fun pins s σ H Q I h => ?_⟩
  refine wpAny_Call_Name_kw (ld_glob I hg hm ?_ hdb)
  refine PySem.W.callWith_K (h₀ := X.base) I.ok.mod.kin M.kp (thn (ha.run pos pins s σ H _ I h) fun us s1 ⟨vs, H1, I1, r, q⟩ => ⟨I1.kIn, ?_⟩) he hpl
  exact run_makeRS M F hr (hx σ) I1 r q
theorem run_fnRS {pins : List (Addr × Obj)} {σ : L2.St} {H : Hp} {s : Shared} {E : XK} {Q : VK} {us : List Value} {vs : List V} (F : FnR X.prog X.w X.K X.mg X.base CX k f sp) (hr : Room k X.A) (hx : PassesAt CX X σ E) (I : Inv X pins σ H s) (r : Vals vs us) (h : sp vs H Q E) :
    codeAny (model X.prog X.w) X.A (.call (.ref f) ⟨us, []⟩) (fun r s' => match r with | .ok (.ret v) => EP X pins σ Q v s' | .ok _ => False | .error e => X.xe e s') s := by
  refine codeAny_mono (F X.A X.stack s H us vs Q E hr I.env0 r h) fun r s' hq => ?_
  cases r with
  | error e => exact hx pins H s e s' I hq
  | ok fl =>
    cases fl with
    | ret u => exact I.after hq
    | next => exact hq.elim
    | brk => exact hq.elim
    | cont => exact hq.elim
def tMethRS (C : Addr) (m : Str) (sp : Sp) (E : L2.St → XK) (ta : TE) (t : TA) : TE := fun σ H Q => tMethR C m sp (E σ) ta t σ H Q
theorem pe_methRS {m : Str} {o : Expr} {ta : TE} {apos : Pos} {pl : Sem Bool} (he : PE X o ta) (c : Cls X.K C) (hm : Meth X.K C m f)
    (F : FnR X.prog X.w X.K X.mg X.base CX k f sp) (hr : Room k X.A) (hx : ∀ σ, PassesAt CX X σ (E σ)) (ha : PA X (e :: es) t)
    (hst : starEach (e :: es) X.env = (false, eval e X.env) :: starEach es X.env := by rfl) (hpl : (backTo pos (starEach es X.env)).any (·.1) = false := by rfl)
    (ht : eval (.Call (.Attribute o m apos) (e :: es) [] pos) X.env = (do
      let ov ← eval o X.env
      standAt apos.atName
      let (f, first) ← holding [ov] (getMethod ov m pl)
      callWith pos f first (backTo pos (starEach (e :: es) X.env)) (backToKw pos (keywordEach [] X.env))) := by rfl) :
    PE X (.Call (.Attribute o m apos) (e :: es) [] pos) (tMethRS C m sp E ta t) := by
  refine ⟨fun pins s σ H Q I h => ?_⟩
  refine PySem.W.methodCall_KW (pl := pl) (thn (he.run pins s σ H _ I h) fun u s1 ⟨x, H1, I1, rx, a, dx, fs, ex, ea, l, q⟩ => ?_) ht
  subst ex
  obtain rfl : u = Value.ref a := rx
  refine getmeth_ok I1 ea c hm l ?_
  refine PySem.W.callWith_K (first := [.ref a]) (h₀ := X.base) I.ok.mod.kin hm.kp (thn (ha.run pos pins s1 σ H1 _ I1 q) fun us s2 ⟨vs, H2, I2, r, q2⟩ => ⟨I2.kIn, ?_⟩) hst hpl
  exact wpAny_call (run_fnRS (us := .ref a :: us) (vs := .ref a :: vs) F hr (hx σ) I2 (.cons rfl r) q2)
/-! ### the same rules with the written part by name (in a try) -/
theorem ixk_tup {X : Cx} (K : PySem.W.Frag) (h : X.K = K := by rfl) : IxR X (rIxT K) := by subst h; exact ix_tup
theorem ixk_list {X : Cx} (K : PySem.W.Frag) (h : X.K = K := by rfl) : IxR X (rIxL K) := by subst h; exact ix_list
theorem callk_isi {X : Cx} (K : PySem.W.Frag) (h : X.K = K := by rfl) : CallR X (.builtin "isinstance") (rIsi K) := by subst h; exact call_isi
theorem pek_fld {X : Cx} (K : PySem.W.Frag) {e : Expr} {ta : TE} {f : Str} {pos : Pos} (ha : PE X e ta) (hb : attributeBase e f X.env (eval e X.env) = eval e X.env) (h : X.K = K := by rfl) : PE X (.Attribute e f pos) (tFld K ta f) := by subst h; exact pe_fld ha hb
/-- a suite that is read under a condition -/
theorem pss_given {p : Prop} {st : List Stmt} {t : TS} (h : p → PSs X st t) : PSs X st (fun D σ H => p ∧ t D σ H) := ⟨fun pins s σ H D I hw => (h hw.1).run pins s σ H D I hw.2⟩
/-- isinstance(e, (c1, ..)), e the exception that the suite holds -/
def rIsET (K : PySem.W.Frag) (D a : Addr) : List V → Hp → VK → Prop := fun xs H Q => ∃ (tp : Addr) (cs : List V) (us : List Value) (b : Bool), xs = [.ref a, .ref tp] ∧ H tp = some (.tup cs) ∧ Paired ClsV cs us ∧ PySem.W.kitAny K (.ref D) us = some b ∧ Q (.bl b) H
theorem call_isET {a D : Addr} {oe : Obj} {pn : List (Addr × Obj)} (C : ExcC X.K D) (hz : Zc (.ref D) none oe) (hf : ∃ vs, oe.data = .fields vs) : CallR (X.suite a ((a, oe) :: pn)) (.builtin "isinstance") (rIsET X.K D a) := by
  intro pins s σ H xs us Q I r h
  obtain ⟨tp, cs, ws, b, rfl, hT, k, e, q⟩ := h
  obtain ⟨u1, u2, rfl, r1, r2⟩ := vals2 r
  cases (show u1 = Value.ref a from r1)
  cases (show u2 = Value.ref tp from r2)
  obtain ⟨_, its, rv, o, h1, h2, n, h3⟩ := (show ObjOk X.prog X.w H s.heap tp (.tup cs) from I.hok tp _ hT)
  have e3 := ClsV.all k rv
  subst e3
  obtain ⟨oc, od, dt, sl⟩ := o
  simp only at h2 h3
  subst h2 h3
  obtain ⟨hget, _⟩ := I.pin (a, oe) (List.mem_append.mpr (.inl List.mem_cons_self))
  obtain ⟨vs, hv⟩ := hf
  have J : PySem.W.InstAt s.heap a oe D none := by
    obtain ⟨oc, od, oda, osl⟩ := oe
    obtain ⟨h1, h2⟩ := hz
    dsimp only at h1 h2 hv
    subst h1 h2 hv
    exact ⟨hget, rfl, rfl, trivial⟩
  exact PySem.W.kia_tup (PySem.W.handS_kitx_exc C.hg C.hk C.hs C.hd C.ha C.hn C.ht C.hm) I.kIn J h1 e (fun z => nomatch z) fun tk => ⟨.bl b, H, I.kept (t' := tk) fun _ _ z => z, rfl, q⟩
theorem callk_isE (K : PySem.W.Frag) {a D : Addr} {oe : Obj} {pn : List (Addr × Obj)} (C : ExcC K D) (hz : Zc (.ref D) none oe) (hf : ∃ vs, oe.data = .fields vs) (h : X.K = K := by rfl) : CallR (X.suite a ((a, oe) :: pn)) (.builtin "isinstance") (rIsE K D a) := by subst h; exact call_isE C hz hf
theorem callk_isET (K : PySem.W.Frag) {a D : Addr} {oe : Obj} {pn : List (Addr × Obj)} (C : ExcC K D) (hz : Zc (.ref D) none oe) (hf : ∃ vs, oe.data = .fields vs) (h : X.K = K := by rfl) : CallR (X.suite a ((a, oe) :: pn)) (.builtin "isinstance") (rIsET K D a) := by subst h; exact call_isET C hz hf
end
end LL
namespace LL
open PySem PySem.Spec PyProof.Rows L2 He Evl
/-! ### the law's pool of draws -/
structure Pl where
  cells : List Int
  at_ : Addr
  ix : Nat
  big : Int
  st : Int
  run : Int
  bud : Int
def Pl.l (P : Pl) : List V := [.ref P.at_, .int P.ix, .int P.big, .int P.st, .int P.run, .int P.bud]
/-- the pool P stands at p -/
structure PoolAt (H : Hp) (p : Addr) (P : Pl) : Prop where
  l : H p = some (.lst P.l)
  c : H P.at_ = some (.lst (P.cells.map V.int))
  n : P.cells.length ≤ 63
theorem PoolAt.ne {H : Hp} {p : Addr} {P : Pl} (h : PoolAt H p P) : P.at_ ≠ p := by
  intro e
  have h1 := h.c
  rw [e, h.l] at h1
  simp only [Option.some.injEq, HO.lst.injEq, Pl.l] at h1
  cases hc : P.cells with
  | nil => rw [hc] at h1; simp at h1
  | cons a r => rw [hc] at h1; simp at h1
/-- all but what stands at p is as it was -/
def But (p : Addr) (H H' : Hp) : Prop := ∀ b o, b ≠ p → H b = some o → H' b = some o
theorem But.refl {p : Addr} (H : Hp) : But p H H := fun _ _ _ h => h
theorem But.trans {p : Addr} {H H1 H2 : Hp} (a : But p H H1) (b : But p H1 H2) : But p H H2 := fun c o n h => b c o n (a c o n h)
theorem But.same {p : Addr} {H H' : Hp} (e : Same H H') : But p H H' := fun b o _ h => e b o h
theorem But.upd {p : Addr} {H : Hp} {o : HO} : But p H (upd H p o) := fun b _ n h => (upd_ne n).trans h
theorem But.put {p : Addr} {H H' : Hp} {o : HO} (h : But p H H') : But p H (L2.upd H' p o) := h.trans .upd
theorem PoolAt.put {H : Hp} {p : Addr} {P P' : Pl} (h : PoolAt H p P) (e : P'.at_ = P.at_ ∧ P'.cells = P.cells) : PoolAt (upd H p (.lst P'.l)) p P' :=
  ⟨upd_same, by rw [e.1, e.2, upd_ne h.ne]; exact h.c, by rw [e.2]; exact h.n⟩
theorem PoolAt.mono {H H' : Hp} {p : Addr} {P : Pl} (e : Same H H') (h : PoolAt H p P) : PoolAt H' p P := ⟨e _ _ h.l, e _ _ h.c, h.n⟩
def spPool (K : PySem.W.Frag) : Sp := fun vs H Q _ => ∃ (a : Addr) (ns : List Int) (b : Int), vs = [.ref a, .int b] ∧ SqL K H a (ns.map V.int) ∧ ns.length ≤ 63 ∧ ∀ p H' P, Same H H' → H p = none → H P.at_ = none → PoolAt H' p P → P.bud = b → Q (.ref p) H'
/-- _law_draw(pool, n): some number from 0 to n - 1, the pool changed -/
def spDraw : Sp := fun vs H Q _ => ∃ (p : Addr) (n : Int) (P : Pl), vs = [.ref p, .int n] ∧ PoolAt H p P ∧ 0 < n ∧ n < 1073741824 ∧
  ∀ (r : Int) (P' : Pl), 0 ≤ r → r < n → P'.at_ = P.at_ → P'.cells = P.cells → P'.bud = P.bud → Q (.int r) (upd H p (.lst P'.l))
section
variable {P : Program} {w : World} {K : PySem.W.Frag} {mg : Str → Option Value} {base : Heap}
theorem fn_l_pool (T : Txt K mg) : Fn P w K mg base 1 (ga K "_law_pool") (spPool K) := by
  refine fn_def T.d_l_pool sc_l_pool (fun _ _ _ _ _ _ us hl => match us, hl with | [_, _], _ => rfl) (fun vs H Q E h => ?_) (fun cdv A outer s H vs Q E hr h => ?_)
  · obtain ⟨a, ns, b, rfl, _⟩ := h
    rfl
  · obtain ⟨a, ns, b, rfl, hS, hz, k⟩ := h
    refine ⟨_, pss_one (ps_ret (pe_lst (pa_cons (pe_callTy call_list_of (by rfl) T.f_list (by decide +kernel) (pa_cons (pv 0) pa_nil)) (pa_cons (pe_int) (pa_cons (pe_int) (pa_cons (pe_int) (pa_cons (pe_int) (pa_cons (pv 1) pa_nil)))))))), ?_⟩
    refine ⟨_, rfl, a, _, rfl, .inl hS, fun c nc => ?_⟩
    refine ⟨_, rfl, (by show 6 ≤ sizeLine; decide), fun p np => ?_⟩
    have ncp : c ≠ p := ne_of_none upd_same np
    have np0 : H p = none := by rw [upd_ne ncp.symm] at np; exact np
    refine k p _ ⟨ns, c, 0, 0, 1, 0, b⟩ (fun x o e => ?_) np0 nc ⟨upd_same, (upd_ne ncp).trans upd_same, hz⟩ rfl
    rw [upd_ne (ne_of_none e np0), upd_ne (ne_of_none e nc)]
    exact e
theorem w_ix {σ : L2.St} {H : Hp} {Q : VK} {i : Nat} {p : Addr} {xs : List V} {k : Int} {v : V} (hp : H p = some (.lst xs)) (ha : atI xs k = some v) (q : Q v H) (hs : σ[i]? = some (some (.ref p)) := by rfl) : tOp (rIxL K) (tVar i) (tC (.int k)) σ H Q :=
  ⟨_, hs, p, xs, k, v, rfl, rfl, SqL.of hp, ha, q⟩
theorem fn_l_draw (T : Txt K mg) : Fn P w K mg base 1 (ga K "_law_draw") (spDraw) := by
  refine fn_def T.d_l_draw sc_l_draw (fun _ _ _ _ _ _ us hl => match us, hl with | [_, _], _ => rfl) (fun vs H Q E h => ?_) (fun cdv A outer s H vs Q E hr h => ?_)
  · obtain ⟨a, ns, b, rfl, _⟩ := h
    rfl
  · obtain ⟨p, n, ⟨cells, at_, ix, big, st, run, bud⟩, rfl, hP, h0, h1, k⟩ := h
    have nd := sc_l_draw.nd
    refine ⟨_, Evl.pss_cut (ps_if (PW.pt (pw_and (pt_cmpR op_le (pe_ix ix_list (pv 0) (pe_int) (fun _ _ => rfl)) (pe_int) (nomark _)) (pw_and (pt_cmpR op_le (pe_ix ix_list (pv 0) (pe_int) (fun _ _ => rfl)) (pe_int) (nomark _)) (pw_and1 (pt_cmpR op_lt (pe_ix ix_list (pv 0) (pe_int) (fun _ _ => rfl)) (pe_callB call_len_seq (by rfl) T.f_len PySem.boot_len (pa_cons (pe_ix ix_list (pv 0) (pe_int) (fun _ _ => rfl)) pa_nil)) (nomark _)))))) (pss_cons (ps_set (i := 2) nd rfl (by first | exact Or.inl rfl | exact Or.inr rfl) (pe_ix ix_list (pe_ix ix_list (pv 0) (pe_int) (fun _ _ => rfl)) (pe_ix ix_list (pv 0) (pe_int) (fun _ _ => rfl)) (fun _ _ => rfl)))
      (pss_cons (ps_asg (pe_op op_add (pe_ix ix_list (pv 0) (pe_int) (fun _ _ => rfl)) (pe_int)) (pg_sub (pv 0) (pe_int) set_list))
      (pss_cons (ps_asg (pe_op op_mod (pe_callTy call_int1 (by rfl) T.f_int (by decide +kernel) (pa_cons (pe_op op_add (pe_op op_mul (pe_ix ix_list (pv 0) (pe_int) (fun _ _ => rfl)) (pe_int)) (pv 2)) pa_nil)) (pe_int)) (pg_sub (pv 0) (pe_int) set_list))
      (pss_cons (ps_asg (pe_int) (pg_sub (pv 0) (pe_int) set_list))
      (pss_one (ps_if (pt_cmpR op_ge (pv 2) (pe_op op_pow (pe_int) (pe_int)) (nomark _)) (pss_one (ps_asg (pv 2) (pg_sub (pv 0) (pe_int) set_list))) (pss_nil))))))) (pss_nil))
      (pss_cons (ps_if (pt_cmpR op_gt (pe_ix ix_list (pv 0) (pe_int) (fun _ _ => rfl)) (pe_int) (nomark _)) (pss_cons (ps_set (i := 3) nd rfl (by first | exact Or.inl rfl | exact Or.inr rfl) (pe_op op_mod (pe_callTy call_int1 (by rfl) T.f_int (by decide +kernel) (pa_cons (pe_ix ix_list (pv 0) (pe_int) (fun _ _ => rfl)) pa_nil)) (pv 1)))
      (pss_cons (ps_asg (pe_op op_fdiv (pe_ix ix_list (pv 0) (pe_int) (fun _ _ => rfl)) (pv 1)) (pg_sub (pv 0) (pe_int) set_list))
      (pss_cons (ps_asg (pe_int) (pg_sub (pv 0) (pe_int) set_list))
      (pss_one (ps_ret (pv 3)))))) (pss_nil))
      (pss_cons (ps_asg (pe_op op_sub (pe_ix ix_list (pv 0) (pe_int) (fun _ _ => rfl)) (pe_int)) (pg_sub (pv 0) (pe_int) set_list))
      (pss_cons (ps_asg (pe_op op_mod (pe_callTy call_int1 (by rfl) T.f_int (by decide +kernel) (pa_cons (pe_op op_add (pe_op op_mul (pe_ix ix_list (pv 0) (pe_int) (fun _ _ => rfl)) (pe_int)) (pe_int)) pa_nil)) (pe_int)) (pg_sub (pv 0) (pe_int) set_list))
      (pss_one (ps_ret (pe_op op_mod (pe_op op_mod (pe_callTy call_int1 (by rfl) T.f_int (by decide +kernel) (pa_cons (pe_op op_add (pe_op op_mul (pe_ix ix_list (pv 0) (pe_int) (fun _ _ => rfl)) (pe_int)) (pe_int)) pa_nil)) (pe_int)) (pv 1))))))), ?_⟩
    have hl : H p = some (.lst [.ref at_, .int ix, .int big, .int st, .int run, .int bud]) := hP.l
    have hc : H at_ = some (.lst (cells.map V.int)) := hP.c
    have nac : at_ ≠ p := hP.ne
    refine ⟨fun σ H' => ∃ (P' : Pl) (v : Option V), σ = [some (.ref p), some (.int n), v, none] ∧ H' = upd H p (.lst P'.l) ∧ P'.at_ = at_ ∧ P'.cells = cells ∧ P'.bud = bud, ?_, ?_⟩
    · have no : ∃ (P' : Pl) (v : Option V), L2.start n_l_draw [V.ref p, V.int n] = [some (.ref p), some (.int n), v, none] ∧ H = upd H p (.lst (Pl.l P')) ∧ P'.at_ = at_ ∧ P'.cells = cells ∧ P'.bud = bud := by
        refine ⟨⟨cells, at_, ix, big, st, run, bud⟩, none, rfl, ?_, rfl, rfl, rfl⟩
        funext b
        by_cases e : b = p
        · subst e; rw [upd_same]; exact hl
        · rw [upd_ne e]
      refine ⟨_, rfl, p, _, _, _, rfl, rfl, SqL.of hl, rfl, _, _, rfl, rfl, _, rfl, ite2 (fun c1 => ?_) fun c1 => iteF no⟩
      refine ⟨_, rfl, p, _, _, _, rfl, rfl, SqL.of hl, rfl, _, _, rfl, rfl, _, rfl, ite2 (fun c2 => ?_) fun c2 => iteF no⟩
      refine ⟨_, rfl, p, _, _, _, rfl, rfl, SqL.of hl, rfl, _, rfl, p, _, _, _, rfl, rfl, SqL.of hl, rfl, at_, _, rfl, .inl (SqL.of hc), _, _, rfl, rfl, _, rfl, ite2 (fun c3 => ?_) fun c3 => no⟩
      have c3' : ix < cells.length := by
        have := of_decide_eq_true c3
        rw [List.length_map] at this
        omega
      have hx : atI (cells.map V.int) (ix : Int) = some (V.int cells[ix]) := at_of (j := ix) rfl (by rw [List.getElem?_map, List.getElem?_eq_getElem c3']; rfl)
      refine ⟨_, rfl, p, _, _, _, rfl, rfl, SqL.of hl, rfl, _, rfl, p, _, _, _, rfl, rfl, SqL.of hl, rfl, at_, _, _, _, rfl, rfl, SqL.of hc, hx, ?_⟩
      refine ⟨_, rfl, p, _, _, _, rfl, rfl, SqL.of hl, rfl, _, _, rfl, rfl, _, rfl, p, _, _, _, rfl, rfl, hl, rfl, ?_⟩
      refine ⟨_, rfl, p, _, _, _, rfl, rfl, SqL.of upd_same, rfl, _, _, rfl, rfl, .inr ⟨by decide, by decide⟩, _, rfl, _, _, rfl, rfl, .inl ⟨_, rfl, _, _, rfl, rfl, (by show (0 : Int) < 2147483647; decide), _, rfl, p, _, _, _, rfl, rfl, upd_same, rfl, ?_⟩⟩
      refine ⟨_, rfl, p, _, _, _, rfl, rfl, upd_same, rfl, ?_⟩
      refine ⟨_, rfl, _, _, rfl, rfl, ⟨by decide, by decide, by decide⟩, _, _, rfl, rfl, _, rfl, ite2 (fun c4 => ?_) fun c4 => ?_⟩
      · refine ⟨_, rfl, _, rfl, p, _, _, _, rfl, rfl, upd_same, rfl, ?_⟩
        refine ⟨⟨cells, at_, ix + 1, cells[ix], (st * 31 + cells[ix]) % 2147483647, 7, bud⟩, _, rfl, ?_, rfl, rfl, rfl⟩
        rw [upd_upd, upd_upd, upd_upd]
        rfl
      · refine ⟨⟨cells, at_, ix + 1, big, (st * 31 + cells[ix]) % 2147483647, 7, bud⟩, _, rfl, ?_, rfl, rfl, rfl⟩
        rw [upd_upd, upd_upd]
        rfl
    · rintro σ H' ⟨⟨cells', at', ix', big', st', run', bud'⟩, v, rfl, rfl, e1, e2, e3⟩
      dsimp only at e1 e2 e3
      subst e1 e2 e3
      refine ⟨_, rfl, p, _, _, _, rfl, rfl, SqL.of upd_same, rfl, _, _, rfl, rfl, _, rfl, ite2 (fun c5 => ?_) fun c5 => ?_⟩
      · refine ⟨_, rfl, p, _, _, _, rfl, rfl, SqL.of upd_same, rfl, .inl ⟨_, rfl, _, rfl, _, _, rfl, rfl, h0, ?_⟩⟩
        refine ⟨_, rfl, p, _, _, _, rfl, rfl, SqL.of upd_same, rfl, _, rfl, _, _, rfl, rfl, ⟨h0, h1⟩, _, rfl, p, _, _, _, rfl, rfl, upd_same, rfl, ?_⟩
        refine ⟨_, rfl, p, _, _, _, rfl, rfl, upd_same, rfl, _, rfl, ?_⟩
        rw [upd_upd, upd_upd]
        exact k (big' % n) ⟨cells', at', ix', big' / n, st', 0, bud'⟩ (Int.emod_nonneg _ (by omega)) (Int.emod_lt_of_pos _ h0) rfl rfl rfl
      · refine ⟨_, rfl, p, _, _, _, rfl, rfl, SqL.of upd_same, rfl, _, _, rfl, rfl, _, rfl, p, _, _, _, rfl, rfl, upd_same, rfl, ?_⟩
        refine ⟨_, rfl, p, _, _, _, rfl, rfl, SqL.of upd_same, rfl, _, _, rfl, rfl, .inr ⟨by decide, by decide⟩, _, _, rfl, rfl, .inl ⟨_, rfl, _, _, rfl, rfl, (by show (0 : Int) < 2147483647; decide), _, rfl, p, _, _, _, rfl, rfl, upd_same, rfl, ?_⟩⟩
        refine ⟨_, rfl, p, _, _, _, rfl, rfl, SqL.of upd_same, rfl, _, _, rfl, rfl, .inr ⟨by decide, by decide⟩, _, _, rfl, rfl, .inl ⟨_, rfl, _, _, rfl, rfl, (by show (0 : Int) < 2147483647; decide), _, rfl, _, _, rfl, rfl, h0, ?_⟩⟩
        rw [upd_upd, upd_upd]
        exact k _ ⟨cells', at', ix', big', (st' * 48271 + 12345) % 2147483647, run' - 1, bud'⟩ (Int.emod_nonneg _ (by omega)) (Int.emod_lt_of_pos _ h0) rfl rfl rfl
theorem PoolAt.step {H : Hp} {p : Addr} {P P' : Pl} (h : PoolAt H p P) (e1 : P'.at_ = P.at_) (e2 : P'.cells = P.cells) : PoolAt (upd H p (.lst P'.l)) p P' ∧ But p H (upd H p (.lst P'.l)) := ⟨h.put ⟨e1, e2⟩, .upd⟩
theorem at3 {a b c : V} {r : Int} (h0 : 0 ≤ r) (h1 : r < 3) : ∃ v, atI [a, b, c] r = some v ∧ (v = a ∨ v = b ∨ v = c) := by
  rcases (show r = 0 ∨ r = 1 ∨ r = 2 by omega) with rfl | rfl | rfl
  · exact ⟨_, rfl, .inl rfl⟩
  · exact ⟨_, rfl, .inr (.inl rfl)⟩
  · exact ⟨_, rfl, .inr (.inr rfl)⟩
theorem at2 {a b : V} {r : Int} (h0 : 0 ≤ r) (h1 : r < 2) : ∃ v, atI [a, b] r = some v ∧ (v = a ∨ v = b) := by
  rcases (show r = 0 ∨ r = 1 by omega) with rfl | rfl
  · exact ⟨_, rfl, .inl rfl⟩
  · exact ⟨_, rfl, .inr rfl⟩
end
section
variable {P : Program} {w : World} {K : PySem.W.Frag} {mg : Str → Option Value} {base : Heap}
/-! ### data and their kinds -/
def Dep : Nat → PyData → Prop
  | 0, .list _ => False
  | 0, .tuple _ => False
  | n + 1, .list ds => ds.length ≤ 100000 ∧ ∀ d ∈ ds, Dep n d
  | n + 1, .tuple ds => ds.length ≤ 100000 ∧ ∀ d ∈ ds, Dep n d
  | _, .dict _ => False
  | _, _ => True
def tyN : PyData → String
  | .none => "NoneType" | .bool _ => "bool" | .int _ => "int" | .str _ => "str" | .list _ => "list" | .tuple _ => "tuple" | .dict _ => "dict"
def isTup : PyData → Bool | .tuple _ => true | _ => false
def isLst : PyData → Bool | .list _ => true | _ => false
def isBoo : PyData → Bool | .bool _ => true | _ => false
def isInt : PyData → Bool | .bool _ => true | .int _ => true | _ => false
def isStr : PyData → Bool | .str _ => true | _ => false
theorem ty_dp {H : Hp} {v : V} {d : PyData} (h : Dp K H v d) : TyX K H v (.type (tyN d)) := by
  cases h with
  | non => exact .base .non
  | bl b => exact .base (.bl b)
  | int i => exact .base (.int i)
  | str x => exact .base (.str x)
  | lst hs _ =>
    rcases hs with (h | ⟨o, h⟩) | ⟨o, its, n, h, c, _⟩
    · exact .base (.lst h)
    · exact .base (.frz h)
    · exact .kList h c
  | tup hs _ =>
    rcases hs with (h | ⟨o, h⟩) | ⟨o, its, n, h, c, _⟩
    · exact .base (.tup h)
    · exact .fTuple h
    · exact .kTuple h c
theorem kit_tup (d : PyData) : PySem.W.kitOne K (.type (tyN d)) (.type "tuple") = some (isTup d) := by cases d <;> (simp only [tyN, isTup, isLst, isBoo, isInt, isStr]; exact kit_ty (by decide +kernel))
theorem kit_lst (d : PyData) : PySem.W.kitOne K (.type (tyN d)) (.type "list") = some (isLst d) := by cases d <;> (simp only [tyN, isTup, isLst, isBoo, isInt, isStr]; exact kit_ty (by decide +kernel))
theorem kit_boo (d : PyData) : PySem.W.kitOne K (.type (tyN d)) (.type "bool") = some (isBoo d) := by cases d <;> (simp only [tyN, isTup, isLst, isBoo, isInt, isStr]; exact kit_ty (by decide +kernel))
theorem kit_int (d : PyData) : PySem.W.kitOne K (.type (tyN d)) (.type "int") = some (isInt d) := by cases d <;> (simp only [tyN, isTup, isLst, isBoo, isInt, isStr]; exact kit_ty (by decide +kernel))
theorem kit_str (d : PyData) : PySem.W.kitOne K (.type (tyN d)) (.type "str") = some (isStr d) := by cases d <;> (simp only [tyN, isTup, isLst, isBoo, isInt, isStr]; exact kit_ty (by decide +kernel))
theorem dp_all_len {H : Hp} : ∀ {xs : List V} {ds : List PyData}, DpAll K H xs ds → xs.length = ds.length
  | _, _, .nil => rfl
  | _, _, .cons _ t => congrArg (· + 1) (dp_all_len t)
theorem dp_all_get {H : Hp} : ∀ {xs : List V} {ds : List PyData} {i : Nat}, DpAll K H xs ds → i < xs.length → ∃ x d, xs[i]? = some x ∧ ds[i]? = some d ∧ Dp K H x d
  | _, _, 0, .cons h _, _ => ⟨_, _, rfl, rfl, h⟩
  | _, _, i + 1, .cons _ t, l => dp_all_get (i := i) t (by simpa using l)
  | _, _, _, .nil, l => by simp at l
def isNon : PyData → Bool | .none => true | _ => false
theorem dp_non {H : Hp} {v : V} {d : PyData} (h : Dp K H v d) : decide (v = .non) = isNon d := by
  cases h <;> simp [isNon]
mutual
theorem dp_mono {H H' : Hp} (e : Ex H H') : ∀ {v : V} {d : PyData}, Dp K H v d → Dp K H' v d
  | _, _, .non => .non
  | _, _, .bl b => .bl b
  | _, _, .int i => .int i
  | _, _, .str x => .str x
  | _, _, .lst h a => .lst (ex_l e h) (dpa_mono e a)
  | _, _, .tup h a => .tup (ex_t e h) (dpa_mono e a)
theorem dpa_mono {H H' : Hp} (e : Ex H H') : ∀ {vs : List V} {ds : List PyData}, DpAll K H vs ds → DpAll K H' vs ds
  | _, _, .nil => .nil
  | _, _, .cons h a => .cons (dp_mono e h) (dpa_mono e a)
end
theorem ev_isi {σ : L2.St} {H : Hp} {ta : TE} {x : V} {d : PyData} {n : String} {b : Bool} (ha : Ev ta σ H x) (hd : Dp K H x d) (hk : PySem.W.kitOne K (.type (tyN d)) (.type n) = some b) : Ev (tCB (rIsi K) (tCons ta (tCons (tC (.ty n)) tNil))) σ H (.bl b) :=
  fun H1 e Q q => ha H1 e _ fun H2 e2 => ⟨_, _, _, _, b, rfl, ClsV.ty _, ty_dp (dp_mono (e.trans e2) hd), hk, q H2 e2⟩
theorem ev_isN {σ : L2.St} {H : Hp} {ta : TE} {x : V} {d : PyData} (ha : Ev ta σ H x) (hd : Dp K H x d) : Ev (tOp (fun x y H Q => y = .non ∧ Q (.bl (decide (x = .non))) H) ta (tC .non)) σ H (.bl (isNon d)) :=
  fun H1 e Q q => ha H1 e _ fun H2 e2 => ⟨rfl, by rw [dp_non hd]; exact q H2 e2⟩
theorem ev_eqD {σ : L2.St} {H : Hp} {ta tb : TE} {x y : V} {d f : PyData} (ha : Ev ta σ H x) (hb : Ev tb σ H y) (hd : Dp K H x d) (hf : Dp K H y f) (s1 : SeqAt.shaped d = true) (s2 : SeqAt.shaped f = true) : Ev (tOp (rEqD K) ta tb) σ H (.bl (PyData.eqv d f)) :=
  fun H1 e Q q => ha H1 e _ fun H2 e2 => hb H2 (e.trans e2) _ fun H3 e3 => ⟨d, f, dp_mono ((e.trans e2).trans e3) hd, dp_mono ((e.trans e2).trans e3) hf, s1, s2, q H3 (e2.trans e3)⟩
theorem ev_lenS {σ : L2.St} {H : Hp} {ta : TE} {a : Addr} {xs : List V} (ha : Ev ta σ H (.ref a)) (h : SqL K H a xs ∨ SqT K H a xs) : Ev (tCB (rLenS K) (tCons ta tNil)) σ H (.int (xs.length : Int)) :=
  fun H1 e Q q => ha H1 e _ fun H2 e2 => ⟨_, xs, rfl, h.imp (ex_l (e.trans e2)) (ex_t (e.trans e2)), q H2 e2⟩
open Classical in
noncomputable def same (d e : PyData) : Bool := decide (d = e)
theorem same_t {d e : PyData} (h : d = e) : same d e = true := by simp [same, h]
theorem same_f {d e : PyData} (h : d ≠ e) : same d e = false := by simp [same, h]
theorem same_of {d e : PyData} {b : Bool} (h : b = true ↔ d = e) : b = same d e := by
  cases b with
  | true => exact (same_t (h.mp rfl)).symm
  | false => exact (same_f fun z => by simpa using h.mpr z).symm
def spSame (K : PySem.W.Frag) (n : Nat) : Sp := fun vs H Q _ => ∃ (x y : V) (d e : PyData), vs = [x, y] ∧ Dp K H x d ∧ Dp K H y e ∧ Dep n e ∧ ∀ H', Ex H H' → Q (.bl (same d e)) H'
theorem sv_same {n : Nat} {H : Hp} {x y : V} {d e : PyData} (hd : Dp K H x d) (he : Dp K H y e) (hn : Dep n e) : SpV (spSame K n) [x, y] H (.bl (same d e)) :=
  fun H1 e1 Q q E => ⟨x, y, d, e, rfl, dp_mono e1 hd, dp_mono e1 he, hn, fun H' e2 => q H' e2⟩
theorem ev_fn {sp : Sp} {vs : List V} {E : XK} {ta : TA} {σ : L2.St} {H : Hp} {z : V} (h : EvA ta σ H vs) (hs : SpV sp vs H z) : Ev (fun σ H Q => ta σ H fun vs H1 => sp vs H1 Q E) σ H z := fun H1 e Q q =>
  h H1 e _ fun H2 e2 => hs H2 (e.trans e2) Q (fun H3 e3 => q H3 (e2.trans e3)) E
theorem rv_seq {H : Hp} {p : Addr} {xs : List V} {i : Int} {v : V} (h : SqL K H p xs ∨ SqT K H p xs) (ha : atI xs i = some v) : RV (fun x y H Q => rIxL K x y H Q ∨ rIxT K x y H Q ∨ rIxS x y H Q) (.ref p) (.int i) H v :=
  fun H1 e Q q => h.elim (fun h => .inl (rv_ixL h ha H1 e Q q)) (fun h => .inr (.inl (rv_ixT h ha H1 e Q q)))
theorem leaf_eq {H : Hp} {x y : V} {d e : PyData} (hd : Dp K H x d) (he : Dp K H y e) (ht : tyN d = tyN e) (h1 : isTup e = false) (h2 : isLst e = false) : scal x y = true ∧ decide (x = y) = same d e := by
  have hs : scal x y = true := by cases hd <;> cases he <;> first | rfl | (simp [tyN] at ht; done) | (simp [isTup] at h1; done) | (simp [isLst] at h2; done)
  refine ⟨hs, same_of ?_⟩
  cases hd <;> cases he <;> first | (simp [tyN] at ht; done) | (simp [isTup] at h1; done) | (simp [isLst] at h2; done) | simp
def spPrev (K : PySem.W.Frag) : Nat → Sp
  | 0 => fun _ _ _ _ => False
  | n + 1 => spSame K n
theorem dp_seq {H : Hp} {a : Addr} {e : PyData} (h : Dp K H (.ref a) e) : ∃ xs ds, DpAll K H xs ds ∧ ((e = .list ds ∧ SqL K H a xs) ∨ (e = .tuple ds ∧ SqT K H a xs)) := by
  cases h with
  | lst h1 h2 => exact ⟨_, _, h2, .inl ⟨rfl, h1⟩⟩
  | tup h1 h2 => exact ⟨_, _, h2, .inr ⟨rfl, h1⟩⟩
theorem fn_l_same (T : Txt K mg) : ∀ n, Fn P w K mg base (n + 1) (ga K "_law_same") (spSame K n) := by
  have go : ∀ n, Fn P w K mg base n (ga K "_law_same") (spPrev K n) → Fn P w K mg base (n + 1) (ga K "_law_same") (spSame K n) := by
    intro n IH
    refine fn_def T.d_l_same sc_l_same (fun _ _ _ _ _ _ us hl => match us, hl with | [_, _], _ => rfl) (fun vs H Q E h => ?_) (fun cdv A outer s H vs Q E hr h => ?_)
    · obtain ⟨a, ns, _, b, rfl, _⟩ := h
      rfl
    · obtain ⟨x, y, d, e, rfl, hd, he, hde, k⟩ := h
      have nd := sc_l_same.nd
      refine ⟨_, pss_cons (ps_if (PW.pt (pw_or (pt_val (pe_callB call_isi (by rfl) T.f_isinstance (by decide +kernel) (pa_cons (pv 1) (pa_cons (pe_bltn (v := .ty "tuple") rfl T.f_tuple (by decide +kernel) rfl) pa_nil)))) (pw_or1 (pt_val (pe_callB call_isi (by rfl) T.f_isinstance (by decide +kernel) (pa_cons (pv 1) (pa_cons (pe_bltn (v := .ty "list") rfl T.f_list (by decide +kernel) rfl) pa_nil))))))) (pss_cons (ps_if (PW.pt (pw_or (pt_cmpR op_ne (pe_callB call_isi (by rfl) T.f_isinstance (by decide +kernel) (pa_cons (pv 1) (pa_cons (pe_bltn (v := .ty "tuple") rfl T.f_tuple (by decide +kernel) rfl) pa_nil))) (pe_callB call_isi (by rfl) T.f_isinstance (by decide +kernel) (pa_cons (pv 0) (pa_cons (pe_bltn (v := .ty "tuple") rfl T.f_tuple (by decide +kernel) rfl) pa_nil))) (nomark _)) (pw_or1 (pt_cmpR op_ne (pe_callB call_isi (by rfl) T.f_isinstance (by decide +kernel) (pa_cons (pv 1) (pa_cons (pe_bltn (v := .ty "list") rfl T.f_list (by decide +kernel) rfl) pa_nil))) (pe_callB call_isi (by rfl) T.f_isinstance (by decide +kernel) (pa_cons (pv 0) (pa_cons (pe_bltn (v := .ty "list") rfl T.f_list (by decide +kernel) rfl) pa_nil))) (nomark _))))) (pss_one (ps_ret (pe_bl))) (pss_nil))
      (pss_cons (ps_if (pt_cmpR op_ne (pe_callB call_len_seq (by rfl) T.f_len PySem.boot_len (pa_cons (pv 0) pa_nil)) (pe_callB call_len_seq (by rfl) T.f_len PySem.boot_len (pa_cons (pv 1) pa_nil)) (nomark _)) (pss_one (ps_ret (pe_bl))) (pss_nil))
      (pss_cons (ps_for (passes_of rfl) rfl (pi_range1 rfl T.f_range (pa_cons (pe_callB call_len_seq (by rfl) T.f_len PySem.boot_len (pa_cons (pv 1) pa_nil)) pa_nil)) (pg_name (i := 2) nd rfl (by first | exact Or.inl rfl | exact Or.inr rfl)) (pss_one (ps_if (pt_not (pt_val (pe_fn T.d_l_same IH hr T.g_l_same pc (pa_cons (pe_ix ix_seq (pv 0) (pv 2) (fun _ _ => rfl)) (pa_cons (pe_ix ix_seq (pv 1) (pv 2) (fun _ _ => rfl)) pa_nil))))) (pss_one (ps_ret (pe_bl))) (pss_nil))))
      (pss_one (ps_ret (pe_bl)))))) (pss_nil))
      (pss_cons (ps_if (PW.pt (pw_or (pt_cmpR op_isN (pv 1) (pe_non) (nomark _)) (pw_or1 (pt_val (pe_callB call_isi (by rfl) T.f_isinstance (by decide +kernel) (pa_cons (pv 1) (pa_cons (pe_bltn (v := .ty "bool") rfl T.f_bool (by decide +kernel) rfl) pa_nil))))))) (pss_one (ps_ret (pe_and (pe_cmpR op_eq (pe_cmpR op_isN (pv 0) (pe_non) (nomark _)) (pe_cmpR op_isN (pv 1) (pe_non) (nomark _)) (nomark _)) (pe_and (pe_or (pe_cmpR op_isN (pv 1) (pe_non) (nomark _)) (pe_one (pe_callB call_isi (by rfl) T.f_isinstance (by decide +kernel) (pa_cons (pv 0) (pa_cons (pe_bltn (v := .ty "bool") rfl T.f_bool (by decide +kernel) rfl) pa_nil))))) (pe_one (pe_cmpR op_eq (pv 0) (pv 1) (nomark _))))))) (pss_nil))
      (pss_cons (ps_if (pt_val (pe_callB call_isi (by rfl) T.f_isinstance (by decide +kernel) (pa_cons (pv 1) (pa_cons (pe_bltn (v := .ty "int") rfl T.f_int (by decide +kernel) rfl) pa_nil)))) (pss_one (ps_ret (pe_and (pe_callB call_isi (by rfl) T.f_isinstance (by decide +kernel) (pa_cons (pv 0) (pa_cons (pe_bltn (v := .ty "int") rfl T.f_int (by decide +kernel) rfl) pa_nil))) (pe_and (pe_not (pe_callB call_isi (by rfl) T.f_isinstance (by decide +kernel) (pa_cons (pv 0) (pa_cons (pe_bltn (v := .ty "bool") rfl T.f_bool (by decide +kernel) rfl) pa_nil)))) (pe_one (pe_cmpR op_eq (pv 0) (pv 1) (nomark _))))))) (pss_nil))
      (pss_one (ps_ret (pe_and (pe_callB call_isi (by rfl) T.f_isinstance (by decide +kernel) (pa_cons (pv 0) (pa_cons (pe_bltn (v := .ty "str") rfl T.f_str (by decide +kernel) rfl) pa_nil))) (pe_one (pe_cmpR op_eq (pv 0) (pv 1) (nomark _)))))))), ?_⟩
      have vx : ∀ H1, Ev (tVar 0) (L2.start n_l_same [x, y]) H1 x := fun H1 => ev_var rfl
      have vy : ∀ H1, Ev (tVar 1) (L2.start n_l_same [x, y]) H1 y := fun H1 => ev_var rfl
      refine s_if (et_or (et_B (ev_isi (vy _) he (kit_tup e))) fun _ => et_B (ev_isi (vy _) he (kit_lst e))) (fun hb H1 e1 => ?_) (fun hb H1 e1 => ?_)
      · have hb' : isTup e = true ∨ isLst e = true := by
          cases h1 : isTup e with
          | true => exact .inl rfl
          | false => rw [h1] at hb; exact .inr (by simpa using hb)
        have hd1 := dp_mono e1 hd
        have he1 := dp_mono e1 he
        refine s_if (et_or (et_test (ev_op (ev_isi (vy _) he1 (kit_tup e)) (ev_isi (vx _) hd1 (kit_tup d)) (rv_ne rfl))) fun _ => et_test (ev_op (ev_isi (vy _) he1 (kit_lst e)) (ev_isi (vx _) hd1 (kit_lst d)) (rv_ne rfl))) (fun hc H2 e2 => ?_) (fun hc H2 e2 => ?_)
        · have ne : d ≠ e := fun z => by subst z; simp at hc
          exact s_ret ev_c fun H3 e3 => by rw [same_f ne] at k; exact k H3 ((e1.trans e2).trans e3)
        · have h1 : isTup e = isTup d := by
            cases h1 : isTup e <;> cases h2 : isTup d <;> rw [h1, h2] at hc <;> simp at hc ⊢
          have h2 : isLst e = isLst d := by
            cases h1 : isLst e <;> cases h2 : isLst d <;> rw [h1, h2] at hc <;> simp at hc ⊢
          have both : ∃ (a b : Addr) (xs ys : List V) (ds es : List PyData), x = .ref a ∧ y = .ref b ∧ DpAll K H xs ds ∧ DpAll K H ys es ∧ (SqL K H a xs ∨ SqT K H a xs) ∧ (SqL K H b ys ∨ SqT K H b ys) ∧ (d = e ↔ ds = es) ∧ es.length ≤ 100000 ∧ ∃ m, n = m + 1 ∧ ∀ z ∈ es, Dep m z := by
            cases he with
            | lst g1 g2 =>
              cases hd with
              | lst f1 f2 =>
                cases n with
                | zero => exact hde.elim
                | succ m => exact ⟨_, _, _, _, _, _, rfl, rfl, f2, g2, .inl f1, .inl g1, by simp, hde.1, m, rfl, hde.2⟩
              | _ => simp [isLst] at h2
            | tup g1 g2 =>
              cases hd with
              | tup f1 f2 =>
                cases n with
                | zero => exact hde.elim
                | succ m => exact ⟨_, _, _, _, _, _, rfl, rfl, f2, g2, .inr f1, .inr g1, by simp, hde.1, m, rfl, hde.2⟩
              | _ => simp [isTup] at h1
            | _ => simp [isTup, isLst] at hb'
          obtain ⟨a, b, xs, ys, ds, es, rfl, rfl, fx, fy, sx, sy, hiff, hlen, m, rfl, hdm⟩ := both
          have lx := dp_all_len fx
          have ly := dp_all_len fy
          have e12 := e1.trans e2
          have sx2 := sx.imp (ex_l e12) (ex_t e12)
          have sy2 := sy.imp (ex_l e12) (ex_t e12)
          refine s_if (et_test (ev_op (ev_lenS (vx _) sx2) (ev_lenS (vy _) sy2) (rv_ne rfl))) (fun hc H3 e3 => ?_) (fun hc H3 e3 => ?_)
          · have ne : d ≠ e := fun z => by
              have := hiff.mp z
              subst this
              simp [lx, ly] at hc
            exact s_ret ev_c fun H4 e4 => by rw [same_f ne] at k; exact k H4 ((e12.trans e3).trans e4)
          · have el : xs.length = ys.length := by
              have : (xs.length : Int) = ys.length := by simpa using hc
              omega
            have e13 := e12.trans e3
            have sy3 := sy.imp (ex_l e13) (ex_t e13)
            have sx3 := sx.imp (ex_l e13) (ex_t e13)
            refine s_forR1 (n := (ys.length : Int)) (ea_cons (ev_lenS (vy _) sy3) ea_nil) (by omega) (fun i σ' H' => Ex H H' ∧ (∃ v, σ' = [some (.ref a), some (.ref b), v]) ∧ ds.take i = es.take i) (fun H4 e4 => ⟨e13.trans e4, ⟨none, rfl⟩, rfl⟩) ?_ ?_
            · rintro i σ' H' hi ⟨e4, ⟨v, rfl⟩, ht⟩
              have hi' : i < ys.length := by omega
              obtain ⟨x1, d1, gx, gd, gp⟩ := dp_all_get fx (by omega : i < xs.length)
              obtain ⟨y1, d2, gy, ge, gq⟩ := dp_all_get fy hi'
              have sx4 := sx.imp (ex_l e4) (ex_t e4)
              have sy4 := sy.imp (ex_l e4) (ex_t e4)
              have r1 : Ev (tOp (fun x y H Q => rIxL K x y H Q ∨ rIxT K x y H Q ∨ rIxS x y H Q) (tVar 0) (tVar 2)) [some (.ref a), some (.ref b), some (.int (i : Int))] H' x1 := ev_op (ev_var rfl) (ev_var rfl) (rv_seq sx4 (atI_nat gx))
              have r2 : Ev (tOp (fun x y H Q => rIxL K x y H Q ∨ rIxT K x y H Q ∨ rIxS x y H Q) (tVar 1) (tVar 2)) [some (.ref a), some (.ref b), some (.int (i : Int))] H' y1 := ev_op (ev_var rfl) (ev_var rfl) (rv_seq sy4 (atI_nat gy))
              have td : ds.take (i + 1) = ds.take i ++ [d1] := by rw [List.take_add_one, gd]; rfl
              have te : es.take (i + 1) = es.take i ++ [d2] := by rw [List.take_add_one, ge]; rfl
              refine s_if (et_not (et_B (ev_fn (ea_cons r1 (ea_cons r2 ea_nil)) (sv_same (dp_mono e4 gp) (dp_mono e4 gq) (hdm _ (List.mem_of_getElem? ge)))))) (fun hc H5 e5 => ?_) (fun hc H5 e5 => ?_)
              · have n1 : d1 ≠ d2 := fun z => by rw [same_t z] at hc; simp at hc
                have ne : d ≠ e := fun z => by
                  have := hiff.mp z
                  subst this
                  rw [gd] at ge
                  exact n1 (Option.some.inj ge)
                exact s_ret ev_c fun H6 e6 => by rw [same_f ne] at k; exact k H6 ((e4.trans e5).trans e6)
              · have n1 : d1 = d2 := Classical.byContradiction fun z => by rw [same_f z] at hc; simp at hc
                exact ⟨e4.trans e5, ⟨_, rfl⟩, by rw [td, te, ht, n1]⟩
            · rintro σ' H' ⟨e4, ⟨v, rfl⟩, ht⟩
              have eq : ds = es := by
                have h1 : ds.take ds.length = ds := List.take_length
                have h2 : es.take es.length = es := List.take_length
                have z1 : ((ys.length : Int)).toNat = ds.length := by omega
                have z2 : ((ys.length : Int)).toNat = es.length := by omega
                rw [z1] at ht
                rw [h1] at ht
                rw [ht]
                rw [← z1, z2, h2]
              dsimp only
              exact s_ret ev_c fun H5 e5 => by rw [same_t (hiff.mpr eq)] at k; exact k H5 (e4.trans e5)
      · have n1 : isTup e = false := by cases h : isTup e <;> rw [h] at hb <;> simp at hb ⊢
        have n2 : isLst e = false := by cases h : isLst e <;> rw [h] at hb <;> simp at hb ⊢
        have hd1 := dp_mono e1 hd
        have he1 := dp_mono e1 he
        refine s_if (et_or (et_test (ev_isN (vy _) he1)) fun _ => et_B (ev_isi (vy _) he1 (kit_boo e))) (fun hc H2 e2 => ?_) (fun hc H2 e2 => ?_)
        · have hd2 := dp_mono e2 hd1
          have he2 := dp_mono e2 he1
          refine s_ret (ev_is (ev_andV (ev_op (ev_isN (vx _) hd2) (ev_isN (vy _) he2) (rv_eq rfl)) (fun h => ev_andV (ev_orV (ev_isN (vy _) he2) (fun _ => ev_isi (vx _) hd2 (kit_boo d))) (fun h2 => ev_op (vx _) (vy _) (rv_eq (leaf_eq hd2 he2 ?_ n1 n2).1)))) ?_) fun H3 e3 => k H3 ((e1.trans e2).trans e3)
          · cases d <;> cases e <;> simp [isNon, isBoo] at h h2 hc <;> rfl
          · congr 1
            by_cases ht : tyN d = tyN e
            · rw [(leaf_eq hd2 he2 ht n1 n2).2]
              cases d <;> cases e <;> simp [isNon, isBoo, tyN] at hc ht ⊢
            · rw [same_f (fun z => ht (by rw [z]))]
              cases d <;> cases e <;> simp [isNon, isBoo, tyN] at hc ht ⊢
        · refine s_if (et_B (ev_isi (vy _) (dp_mono e2 he1) (kit_int e))) (fun hi H3 e3 => ?_) (fun hi H3 e3 => ?_)
          · have hd2 := dp_mono (e2.trans e3) hd1
            have he2 := dp_mono (e2.trans e3) he1
            refine s_ret (ev_is (ev_andV (ev_isi (vx _) hd2 (kit_int d)) (fun h => ev_andV (ev_notV (ev_isi (vx _) hd2 (kit_boo d))) (fun h2 => ev_op (vx _) (vy _) (rv_eq (leaf_eq hd2 he2 ?_ n1 n2).1)))) ?_) fun H4 e4 => k H4 (((e1.trans e2).trans e3).trans e4)
            · cases d <;> cases e <;> simp [isNon, isBoo, isInt] at h h2 hc hi <;> rfl
            · congr 1
              by_cases ht : tyN d = tyN e
              · rw [(leaf_eq hd2 he2 ht n1 n2).2]
                cases d <;> cases e <;> simp [isNon, isBoo, isInt, tyN] at hc hi ht ⊢
              · rw [same_f (fun z => ht (by rw [z]))]
                cases d <;> cases e <;> simp [isNon, isBoo, isInt, tyN] at hc hi ht ⊢
          · have hd2 := dp_mono (e2.trans e3) hd1
            have he2 := dp_mono (e2.trans e3) he1
            have es : ∃ s, e = .str s := by cases he <;> simp [isNon, isBoo, isInt, isTup, isLst] at hc hi n1 n2 ⊢
            obtain ⟨z, rfl⟩ := es
            refine s_ret (ev_is (ev_andV (ev_isi (vx _) hd2 (kit_str d)) (fun h => ev_op (vx _) (vy _) (rv_eq (leaf_eq hd2 he2 ?_ n1 n2).1))) ?_) fun H4 e4 => k H4 (((e1.trans e2).trans e3).trans e4)
            · cases d <;> simp [isStr] at h <;> rfl
            · congr 1
              by_cases ht : tyN d = tyN (.str z)
              · rw [(leaf_eq hd2 he2 ht n1 n2).2]
                cases d <;> simp [isStr, tyN] at ht ⊢
              · rw [same_f (fun z => ht (by rw [z]))]
                cases d <;> simp [isStr, tyN] at ht ⊢
  intro n
  induction n with
  | zero => exact go 0 (fun _ _ _ _ _ _ _ _ _ _ _ h => h.elim)
  | succ n ih => exact go (n + 1) ih
end
end LL
namespace LL
open PySem PySem.Spec PyProof.Rows L2 He Evl
/-! ### readings that give some value of which a thing is true -/
abbrev VP := V → Hp → Prop
def Mono (P : VP) : Prop := ∀ v H H', Ex H H' → P v H → P v H'
def EvP (te : TE) (σ : L2.St) (H : Hp) (R : VP) : Prop := ∀ H1, Ex H H1 → ∀ Q : VK, (∀ v H2, Ex H1 H2 → R v H2 → Q v H2) → te σ H1 Q
def SpP (sp : Sp) (vs : List V) (H : Hp) (R : VP) : Prop := ∀ (Q : VK) (E : XK), (∀ v H2, Ex H H2 → R v H2 → Q v H2) → sp vs H Q E
section
variable {σ : L2.St} {H H' : Hp} {te ta tb : TE} {R R1 R2 : VP} {D : Ends} {i : Nat} {v : V} {sp : Sp} {E : XK}
theorem EvP.mono (e : Ex H H') (h : EvP te σ H R) : EvP te σ H' R := fun H1 a Q q => h H1 (e.trans a) Q q
theorem ev_p (h : Ev te σ H v) : EvP te σ H (fun w _ => w = v) := fun H1 e Q q => h H1 e Q fun H2 e2 => q v H2 e2 rfl
theorem EvP.ev (h : EvP te σ H (fun w _ => w = v)) : Ev te σ H v := fun H1 e Q q => h H1 e Q fun w H2 e2 z => by subst z; exact q H2 e2
theorem EvP.imp (h : EvP te σ H R) (f : ∀ v H1, Ex H H1 → R v H1 → R1 v H1) : EvP te σ H R1 := fun H1 e Q q => h H1 e Q fun w H2 e2 z => q w H2 e2 (f w H2 (e.trans e2) z)
theorem evp_var (h : σ[i]? = some (some v)) (m : Mono R) (r : R v H) : EvP (tVar i) σ H R := fun H1 e _ q => ⟨v, h, q v H1 (Ex.refl H1) (m _ _ _ e r)⟩
theorem s_asgP (h : EvP te σ H R) (k : ∀ v H1, Ex H H1 → R v H1 → D.nx (σ.set i (some v)) H1) : tAsg te (gName i) D σ H := h H (Ex.refl H) _ fun v H1 e r => k v H1 e r
theorem s_retP (h : EvP te σ H R) (k : ∀ v H1, Ex H H1 → R v H1 → D.rt v H1) : tRet te D σ H := h H (Ex.refl H) _ fun v H1 e r => k v H1 e r
theorem evp_fn1 (h1 : EvP ta σ H R1) (hs : ∀ x H1, Ex H H1 → R1 x H1 → SpP sp [x] H1 R) : EvP (fun σ H Q => tCons ta tNil σ H fun vs H1 => sp vs H1 Q E) σ H R := fun H1 e Q q =>
  h1 H1 e _ fun x H2 e2 r1 => hs x H2 (e.trans e2) r1 Q E fun v H3 e3 r => q v H3 (e2.trans e3) r
theorem evp_fn2 (h1 : EvP ta σ H R1) (m1 : Mono R1) (h2 : EvP tb σ H R2) (hs : ∀ x y H1, Ex H H1 → R1 x H1 → R2 y H1 → SpP sp [x, y] H1 R) : EvP (fun σ H Q => tCons ta (tCons tb tNil) σ H fun vs H1 => sp vs H1 Q E) σ H R := fun H1 e Q q =>
  h1 H1 e _ fun x H2 e2 r1 => h2 H2 (e.trans e2) _ fun y H3 e3 r2 => hs x y H3 ((e.trans e2).trans e3) (m1 _ _ _ e3 r1) r2 Q E fun v H4 e4 r => q v H4 ((e2.trans e3).trans e4) r
theorem evp_op {r : L2.R2} (h1 : EvP ta σ H R1) (m1 : Mono R1) (h2 : EvP tb σ H R2) (hs : ∀ x y H1, Ex H H1 → R1 x H1 → R2 y H1 → ∀ Q : VK, (∀ v H2, Ex H1 H2 → R v H2 → Q v H2) → r x y H1 Q) : EvP (tOp r ta tb) σ H R := fun H1 e Q q =>
  h1 H1 e _ fun x H2 e2 r1 => h2 H2 (e.trans e2) _ fun y H3 e3 r2 => hs x y H3 ((e.trans e2).trans e3) (m1 _ _ _ e3 r1) r2 Q fun v H4 e4 r => q v H4 ((e2.trans e3).trans e4) r
theorem mono_eq : Mono (fun w _ => w = v) := fun _ _ _ _ h => h
end
end LL
namespace LL
open PySem PySem.Spec PyProof.Rows L2 He Evl
/-! ### a base that never changes beside cells that do: B is part of H, B2 of H2; B2 has B's things and new ones; of the rest only the cells ms may have changed -/
structure Stp (ms : List Addr) (B H B2 H2 : Hp) : Prop where
  base : Ex B B2
  in_ : Ex B2 H2
  nw : ∀ b, B b = none → H b ≠ none → B2 b = none
  fr : ∀ b o, b ∉ ms → H b = some o → H2 b = some o
  al : ∀ b, H b ≠ none → H2 b ≠ none
theorem ex_none {B H : Hp} {b : Addr} (e : Ex B H) (h : H b = none) : B b = none := fresh_back e h
namespace Stp
variable {ms ns : List Addr} {B H B2 H2 B3 H3 : Hp} {p : Addr} {o u : HO}
theorem refl (e : Ex B H) : Stp ms B H B H := ⟨Ex.refl B, e, fun _ h _ => h, fun _ _ _ h => h, fun _ h => h⟩
theorem trans (a : Stp ms B H B2 H2) (b : Stp ms B2 H2 B3 H3) : Stp ms B H B3 H3 :=
  ⟨a.base.trans b.base, b.in_, fun c h1 h2 => b.nw c (a.nw c h1 h2) (a.al c h2), fun c o n h => b.fr c o n (a.fr c o n h), fun c h => b.al c (a.al c h)⟩
theorem wk (a : Stp ms B H B2 H2) (h : ∀ x ∈ ms, x ∈ ns) : Stp ns B H B2 H2 := ⟨a.base, a.in_, a.nw, fun b o n => a.fr b o fun z => n (h b z), a.al⟩
theorem nil (a : Stp [] B H B2 H2) : Stp ns B H B2 H2 := a.wk fun _ h => nomatch h
/-- a new thing of the base -/
theorem new (e : Ex B H) (h : H p = none) : Stp ms B H (upd B p o) (upd H p o) :=
  ⟨Ex.new (ex_none e h), fun b u hb => by
      by_cases z : b = p
      · subst z; rw [upd_same] at hb ⊢; exact hb
      · rw [upd_ne z] at hb ⊢; exact e b u hb,
    fun b h1 h2 => by rw [upd_ne (fun z => by subst z; exact h2 h)]; exact h1,
    fun b u _ hb => by rw [upd_ne (ne_of_none hb h)]; exact hb,
    fun b hb => by
      by_cases z : b = p
      · subst z; rw [upd_same]; exact fun q => nomatch q
      · rw [upd_ne z]; exact hb⟩
/-- a new cell beside the base -/
theorem cell (e : Ex B H) (h : H p = none) : Stp ms B H B (upd H p o) :=
  ⟨Ex.refl B, Ex.mut e (ex_none e h), fun _ h1 _ => h1, fun b u _ hb => by rw [upd_ne (ne_of_none hb h)]; exact hb,
    fun b hb => by
      by_cases z : b = p
      · subst z; rw [upd_same]; exact fun q => nomatch q
      · rw [upd_ne z]; exact hb⟩
/-- a store to a cell -/
theorem put (e : Ex B H) (h : B p = none) (m : p ∈ ms) : Stp ms B H B (upd H p o) :=
  ⟨Ex.refl B, Ex.mut e h, fun _ h1 _ => h1, fun b u hn hb => by rw [upd_ne (fun z => hn (by rw [z]; exact m))]; exact hb,
    fun b hb => by
      by_cases z : b = p
      · subst z; rw [upd_same]; exact fun q => nomatch q
      · rw [upd_ne z]; exact hb⟩
/-- a cell becomes a thing of the base -/
theorem keep (e : Ex B H) (h : H p = some o) (hb : B p = none) : Ex B (upd B p o) ∧ Ex (upd B p o) H :=
  ⟨Ex.new hb, fun b u q => by
    by_cases z : b = p
    · subst z; rw [upd_same] at q; rw [h]; exact q
    · rw [upd_ne z] at q; exact e b u q⟩
/-- what is no thing of the base and was there is no thing of the new base -/
theorem off (a : Stp ms B H B2 H2) (h : B p = none) (h2 : H p = some o) : B2 p = none := a.nw p h (by rw [h2]; exact fun q => nomatch q)
theorem ne (a : Stp ms B H B2 H2) (h : H p = some o) (h2 : H2 p = none) : False := a.al p (by rw [h]; exact fun q => nomatch q) h2
/-- from another's step: what stood is as it was -/
theorem ofEx (e : Ex B H) (x : Ex H H2) : Stp ms B H B H2 := ⟨Ex.refl B, e.trans x, fun _ h _ => h, fun b o _ h => x b o h, fun b h q => by
  cases hb : H b with
  | none => exact h hb
  | some o => rw [x b o hb] at q; cases q⟩
end Stp
/-- a step of a def that began with the local cell p (not known to its caller): the caller sees none of it -/
theorem Stp.drop {ms : List Addr} {B H B2 H2 : Hp} {p : Addr} (a : Stp (p :: ms) B H B2 H2) (h : H p = none) : Stp ms B H B2 H2 :=
  ⟨a.base, a.in_, a.nw, fun b o n hb => a.fr b o (fun z => by
    rcases List.mem_cons.mp z with e | e
    · subst e; rw [h] at hb; cases hb
    · exact n e) hb, a.al⟩
/-- behind the making of a local cell: the whole way, seen from ahead of it -/
theorem Stp.with {ms : List Addr} {B H B2 H2 : Hp} {p : Addr} {o : HO} (h : H p = none) (a : Stp (p :: ms) B (upd H p o) B2 H2) : Stp ms B H B2 H2 :=
  ⟨a.base, a.in_, fun b h1 h2 => a.nw b h1 (by rw [upd_ne (fun z => by subst z; exact h2 h)]; exact h2), fun b u n hb => a.fr b u (fun z => by
      rcases List.mem_cons.mp z with e | e
      · subst e; rw [h] at hb; cases hb
      · exact n e) (by rw [upd_ne (ne_of_none hb h)]; exact hb),
    fun b hb => a.al b (by rw [upd_ne (fun z => by subst z; exact hb h)]; exact hb)⟩
/-- the local cell q is done: it goes into the base -/
theorem Stp.close {ms : List Addr} {B H B2 H2 : Hp} {q : Addr} {o0 o : HO} (e : Ex B H) (hq : H q = none) (a : Stp (q :: ms) B (upd H q o0) B2 H2) (hv : H2 q = some o) : Stp ms B H (upd B2 q o) H2 := by
  have b2 : B2 q = none := a.off (ex_none e hq) upd_same
  have w := Stp.with hq a
  obtain ⟨k1, k2⟩ := Stp.keep w.in_ hv b2
  refine ⟨w.base.trans k1, k2, fun b h1 h2 => ?_, w.fr, w.al⟩
  rw [upd_ne (fun z => by subst z; exact h2 hq)]
  exact w.nw b h1 h2
/-- the pool stands at p; its copy of the script is a thing of the base -/
def Pool (p : Addr) (B H : Hp) : Prop := ∃ P : Pl, H p = some (.lst P.l) ∧ B P.at_ = some (.lst (P.cells.map V.int)) ∧ P.cells.length ≤ 63
theorem Pool.at {p : Addr} {B H : Hp} (h : Pool p B H) : ∃ o, H p = some o := let ⟨_, z, _⟩ := h; ⟨_, z⟩
theorem Pool.of {p : Addr} {B B2 H H2 : Hp} (h : Pool p B H) (e : Ex B B2) (hp : H2 p = H p) : Pool p B2 H2 := let ⟨P, h1, h2, h3⟩ := h; ⟨P, hp.trans h1, e _ _ h2, h3⟩
theorem Pool.ne {p q : Addr} {B H : Hp} (h : Pool p B H) (n : H q = none) : q ≠ p := fun z => by
  subst z
  obtain ⟨o, ho⟩ := h.at
  rw [n] at ho
  cases ho
theorem Pool.n1 {p q : Addr} {B H : Hp} {o : HO} (h : Pool p B H) (n : H q = none) : Pool p B (upd H q o) := h.of (Ex.refl B) (upd_ne (h.ne n).symm)
theorem Pool.n2 {p q : Addr} {B H : Hp} {o : HO} (h : Pool p B H) (e : Ex B H) (n : H q = none) : Pool p (upd B q o) (upd H q o) := h.of (Ex.new (ex_none e n)) (upd_ne (h.ne n).symm)
theorem Pool.p1 {p q : Addr} {B H : Hp} {o : HO} (h : Pool p B H) (n : q ≠ p) : Pool p B (upd H q o) := h.of (Ex.refl B) (upd_ne n.symm)
theorem Pool.stp {ms : List Addr} {p : Addr} {B H B2 H2 : Hp} (h : Pool p B H) (a : Stp ms B H B2 H2) (n : p ∉ ms) : Pool p B2 H2 := by
  obtain ⟨o, ho⟩ := h.at
  exact h.of a.base ((a.fr _ _ n ho).trans ho.symm)
/-- a draw: the base stays, some number comes -/
theorem draw_s {p : Addr} {B H : Hp} {n : Int} {Q : VK} {E : XK} (e : Ex B H) (hb : B p = none) (hP : Pool p B H) (h0 : 0 < n) (h1 : n < 1073741824)
    (k : ∀ (r : Int) (H2 : Hp), 0 ≤ r → r < n → Stp [p] B H B H2 → Pool p B H2 → (∀ b, b ≠ p → H2 b = H b) → Q (.int r) H2) : spDraw [.ref p, .int n] H Q E := by
  obtain ⟨P, hl, hc, hz⟩ := hP
  refine ⟨p, n, P, rfl, ⟨hl, e _ _ hc, hz⟩, h0, h1, fun r P' a b e1 e2 _ => k r _ a b (Stp.put e hb (.head _)) ⟨P', upd_same, by rw [e1, e2]; exact hc, by rw [e2]; exact hz⟩ fun b hb => upd_ne hb⟩
end LL
namespace LL
open PySem PySem.Spec PyProof.Rows L2 He Evl ND
theorem yes_if {σ : L2.St} {H : Hp} {A B : Hp → Prop} (h : A H) : tYes σ H (fun b H3 => if b = true then A H3 else B H3) := by
  show (if true = true then A H else B H)
  rw [if_pos rfl]
  exact h
theorem upd_twice {H : Hp} {a : Addr} {o u : HO} : upd (upd H a o) a u = upd H a u := by
  funext b
  by_cases h : b = a
  · rw [h, upd_same, upd_same]
  · rw [upd_ne h, upd_ne h, upd_ne h]
section
variable {K : PySem.W.Frag} {σ : L2.St} {H : Hp} {te tl : TE} {j : Nat} {vs : List Nat} {xs ys : List V}
theorem lc_turn {H0 H' : Hp} {D : Addr} {i : Nat} {x : V} (e0 : Ex H H0) (nD : H0 D = none) (e : Ex H0 H') (hD : H' D = some (.lst (ys.take i))) (hl : ys.length ≤ 40000) (hi : i < ys.length) (hw : ∀ x, wipe ((wipe σ vs).set j (some x)) vs = wipe σ vs)
    (he : ∀ y, ys[i]? = some y → Ev te ((wipe σ vs).set j (some x)) H y) :
    gName j x (wipe σ vs) H' fun σ2 H2 => wipe σ2 vs = wipe σ vs ∧ tYes σ2 H2 fun b H3 => if b = true then te σ2 H3 fun y H4 => ∃ acc, H4 D = some (.lst acc) ∧ acc.length < sizeLine ∧ (Ex H0 (upd H4 D (.lst (acc ++ [y]))) ∧ upd H4 D (.lst (acc ++ [y])) D = some (.lst (ys.take (i + 1)))) else (Ex H0 H3 ∧ H3 D = some (.lst (ys.take (i + 1)))) := by
  refine ⟨hw x, yes_if ?_⟩
  obtain ⟨y, hy⟩ : ∃ y, ys[i]? = some y := ⟨_, List.getElem?_eq_getElem hi⟩
  refine he y hy H' (e0.trans e) _ fun H4 e4 => ⟨ys.take i, e4 _ _ hD, ?_, (e.trans e4).mut nD, ?_⟩
  · rw [List.length_take]
    have : (100000 : Nat) ≤ sizeLine := by decide
    omega
  · rw [upd_same, List.take_add_one, hy]; rfl
/-- [f(x) for x in a tuple] -/
theorem lcT {a : Addr} (h : Ev tl σ H (.ref a)) (hx : SqT K H a xs) (hl : ys.length = xs.length) (hz : xs.length ≤ 40000) (hw : ∀ x, wipe ((wipe σ vs).set j (some x)) vs = wipe σ vs)
    (he : ∀ (i : Nat) (x y : V), xs[i]? = some x → ys[i]? = some y → Ev te ((wipe σ vs).set j (some x)) H y) : EvL (tLc (iTup K tl) (gName j) tYes te vs) σ H ys := fun H0 e Q q => h H0 e _ fun H1 e1 => ⟨a, rfl, ⟨xs, ex_t (e.trans e1) hx⟩, fun D nD =>
  lc_it (walk_tup (xs := xs)) (fun i H' => Ex H1 H' ∧ H' D = some (.lst (ys.take i))) ⟨Ex.new nD, upd_same⟩ (fun i H' _ p => ex_t ((e.trans e1).trans p.1) hx)
    (fun i x H' H'' hi p hy => by
      obtain ⟨rfl, hx⟩ := hy
      exact lc_turn (e.trans e1) nD p.1 p.2 (by omega) (by omega) hw fun y hy => he i x y hx hy) (fun H' p => q D H' (fresh_back e1 nD) (e1.trans p.1) (by rw [p.2, ← hl, List.take_length]))⟩
theorem lcL {a : Addr} (h : Ev tl σ H (.ref a)) (hx : SqL K H a xs) (hl : ys.length = xs.length) (hz : xs.length ≤ 40000) (hw : ∀ x, wipe ((wipe σ vs).set j (some x)) vs = wipe σ vs)
    (he : ∀ (i : Nat) (x y : V), xs[i]? = some x → ys[i]? = some y → Ev te ((wipe σ vs).set j (some x)) H y) : EvL (tLc (iList K tl) (gName j) tYes te vs) σ H ys := fun H0 e Q q => h H0 e _ fun H1 e1 => ⟨a, rfl, ⟨xs, ex_l (e.trans e1) hx⟩, fun D nD =>
  lc_it (walk_list (xs := xs)) (fun i H' => Ex H1 H' ∧ H' D = some (.lst (ys.take i))) ⟨Ex.new nD, upd_same⟩ (fun i H' _ p => ex_l ((e.trans e1).trans p.1) hx)
    (fun i x H' H'' hi p hy => by
      obtain ⟨rfl, hx⟩ := hy
      exact lc_turn (e.trans e1) nD p.1 p.2 (by omega) (by omega) hw fun y hy => he i x y hx hy) (fun H' p => q D H' (fresh_back e1 nD) (e1.trans p.1) (by rw [p.2, ← hl, List.take_length]))⟩
theorem lcN (h : EvL tl σ H xs) (hl : ys.length = xs.length) (hz : xs.length ≤ 40000) (hw : ∀ x, wipe ((wipe σ vs).set j (some x)) vs = wipe σ vs)
    (he : ∀ (i : Nat) (x y : V), xs[i]? = some x → ys[i]? = some y → Ev te ((wipe σ vs).set j (some x)) H y) : EvL (tLc (iList K tl) (gName j) tYes te vs) σ H ys := fun H0 e Q q => h H0 e _ fun a H1 na e1 ha => ⟨a, rfl, ⟨xs, sq_of ha⟩, fun D nD =>
  lc_it (walk_list (xs := xs)) (fun i H' => Ex H1 H' ∧ H' D = some (.lst (ys.take i))) ⟨Ex.new nD, upd_same⟩ (fun i H' _ p => ex_l p.1 (sq_of ha))
    (fun i x H' H'' hi p hy => by
      obtain ⟨rfl, hx⟩ := hy
      exact lc_turn (e.trans e1) nD p.1 p.2 (by omega) (by omega) hw fun y hy => he i x y hx hy) (fun H' p => q D H' (fresh_back e1 nD) (e1.trans p.1) (by rw [p.2, ← hl, List.take_length]))⟩
end
end LL
namespace LL
open PySem PySem.Spec PyProof.Rows L2 He Evl
/-! ### readings beside the pool: the base B grows, the pool at p changes, nothing else; n is the pool's budget -/
def PoolN (n : Int) (p : Addr) (B H : Hp) : Prop := ∃ P : Pl, H p = some (.lst P.l) ∧ B P.at_ = some (.lst (P.cells.map V.int)) ∧ P.cells.length ≤ 63 ∧ P.bud = n
section
variable {n : Int} {p : Addr} {B H : Hp}
theorem PoolN.at (h : PoolN n p B H) : ∃ o, H p = some o := let ⟨_, z, _⟩ := h; ⟨_, z⟩
theorem PoolN.pool (h : PoolN n p B H) : Pool p B H := let ⟨P, h1, h2, h3, _⟩ := h; ⟨P, h1, h2, h3⟩
theorem PoolN.of {B2 H2 : Hp} (h : PoolN n p B H) (e : Ex B B2) (hp : H2 p = H p) : PoolN n p B2 H2 := let ⟨P, h1, h2, h3, h4⟩ := h; ⟨P, hp.trans h1, e _ _ h2, h3, h4⟩
theorem PoolN.ne {q : Addr} (h : PoolN n p B H) (m : H q = none) : q ≠ p := h.pool.ne m
theorem PoolN.n1 {q : Addr} {o : HO} (h : PoolN n p B H) (m : H q = none) : PoolN n p B (upd H q o) := h.of (Ex.refl B) (upd_ne (h.ne m).symm)
theorem PoolN.n2 {q : Addr} {o : HO} (h : PoolN n p B H) (e : Ex B H) (m : H q = none) : PoolN n p (upd B q o) (upd H q o) := h.of (Ex.new (ex_none e m)) (upd_ne (h.ne m).symm)
theorem PoolN.p1 {q : Addr} {o : HO} (h : PoolN n p B H) (m : q ≠ p) : PoolN n p B (upd H q o) := h.of (Ex.refl B) (upd_ne m.symm)
/-- a draw: the base and the budget stay, some number comes -/
theorem draw_n {m : Int} {Q : VK} {E : XK} (e : Ex B H) (hb : B p = none) (hP : PoolN n p B H) (h0 : 0 < m) (h1 : m < 1073741824)
    (k : ∀ (r : Int) (H2 : Hp), 0 ≤ r → r < m → Stp [p] B H B H2 → PoolN n p B H2 → Q (.int r) H2) : spDraw [.ref p, .int m] H Q E := by
  obtain ⟨P, hl, hc, hz, hn⟩ := hP
  exact ⟨p, m, P, rfl, ⟨hl, e _ _ hc, hz⟩, h0, h1, fun r P' a b e1 e2 e3 => k r _ a b (Stp.put e hb (.head _)) ⟨P', upd_same, by rw [e1, e2]; exact hc, by rw [e2]; exact hz, by rw [e3]; exact hn⟩⟩
end
structure Wd (p : Addr) (u : Int) (B H : Hp) : Prop where
  e : Ex B H
  b : B p = none
  P : PoolN u p B H
theorem Wd.stp {p : Addr} {u : Int} {B H B2 H2 : Hp} (w : Wd p u B H) (a : Stp [p] B H B2 H2) (P : PoolN u p B2 H2) : Wd p u B2 H2 := ⟨a.in_, a.off w.b w.P.at.choose_spec, P⟩
theorem Wd.ex {p : Addr} {u : Int} {B H H2 : Hp} (w : Wd p u B H) (x : Ex H H2) : Stp [p] B H B H2 ∧ Wd p u B H2 := by
  obtain ⟨o, ho⟩ := w.P.at
  exact ⟨Stp.ofEx w.e x, ⟨w.e.trans x, w.b, w.P.of (Ex.refl B) ((x _ _ ho).trans ho.symm)⟩⟩
theorem Wd.new {p a : Addr} {u : Int} {o : HO} {B H : Hp} (w : Wd p u B H) (n : H a = none) : Stp [p] B H (upd B a o) (upd H a o) ∧ Wd p u (upd B a o) (upd H a o) := by
  have s := Stp.new (ms := [p]) (o := o) w.e n
  exact ⟨s, w.stp s (w.P.n2 w.e n)⟩
/-- a new cell that is no thing of the base -/
theorem Wd.cell {p a : Addr} {u : Int} {o : HO} {B H : Hp} (w : Wd p u B H) (n : H a = none) : Wd p u B (upd H a o) := ⟨Ex.mut w.e (ex_none w.e n), w.b, w.P.n1 n⟩
theorem Wd.put {p a : Addr} {u : Int} {o : HO} {B H : Hp} (w : Wd p u B H) (n : B a = none) (m : a ≠ p) : Wd p u B (upd H a o) := ⟨Ex.mut w.e n, w.b, w.P.p1 m⟩
/-- what was found new goes into the base -/
theorem Wd.adopt {p a : Addr} {u : Int} {o : HO} {B H H2 : Hp} (w : Wd p u B H) (x : Ex H H2) (n : H a = none) (h : H2 a = some o) : Stp [p] B H (upd B a o) H2 ∧ Wd p u (upd B a o) H2 := by
  obtain ⟨s, w2⟩ := w.ex x
  have nb : B a = none := ex_none w.e n
  obtain ⟨k1, k2⟩ := Stp.keep w2.e h nb
  have s3 : Stp [p] B H (upd B a o) H2 := ⟨k1, k2, fun b h1 h2 => by
    rw [upd_ne (fun z => by subst z; exact h2 n)]; exact h1, s.fr, s.al⟩
  exact ⟨s3, w.stp s3 (w2.P.of k1 rfl)⟩
theorem Wd.refl {p : Addr} {u : Int} {B H : Hp} (w : Wd p u B H) : Stp [p] B H B H := Stp.refl w.e
def GK {α : Type} (p : Addr) (k : Hp → (α → Hp → Prop) → Prop) (B : Hp) (R : α → Hp → Prop) : Prop :=
  ∀ (u : Int) B1 H1, Ex B B1 → Wd p u B1 H1 → ∀ Q : α → Hp → Prop, (∀ v B2 H2, Stp [p] B1 H1 B2 H2 → Wd p u B2 H2 → R v B2 → Q v H2) → k H1 Q
/-- an int from 0 on, below n -/
theorem base_pool {p : Addr} {H : Hp} {P : Pl} (h : PoolAt H p P) : ∃ B, Ex B H ∧ B p = none ∧ Pool p B H := by
  obtain ⟨h1, h2, h3⟩ := h
  have hne : P.at_ ≠ p := fun z => by
    rw [z, h1] at h2
    have := congrArg List.length (HO.lst.inj (Option.some.inj h2))
    have h4 := HO.lst.inj (Option.some.inj h2)
    cases hc : P.cells with
    | nil => rw [hc] at h4; cases h4
    | cons x r => rw [hc] at h4; cases h4
  refine ⟨fun b => if b = p then none else H b, fun b o hb => ?_, if_pos rfl, P, h1, ?_, h3⟩
  · by_cases z : b = p
    · simp [z] at hb
    · simpa [z] using hb
  · show (if P.at_ = p then none else H P.at_) = _
    rw [if_neg hne]
    exact h2
abbrev RI (n : Int) : V → Hp → Prop := fun v _ => ∃ r : Int, v = .int r ∧ 0 ≤ r ∧ r < n
section
variable {α β : Type} {p : Addr} {B B' H : Hp} {R R' : α → Hp → Prop} {k : Hp → (α → Hp → Prop) → Prop}
theorem GK.mono (e : Ex B B') (h : GK p k B R) : GK p k B' R := fun u B1 H1 x w Q q => h _ B1 H1 (e.trans x) w Q q
theorem GK.imp (h : GK p k B R) (f : ∀ v B1, Ex B B1 → R v B1 → R' v B1) : GK p k B R' := fun u B1 H1 x w Q q => h _ B1 H1 x w Q fun v B2 H2 s w2 r => q v B2 H2 s w2 (f v B2 (x.trans s.base) r)
theorem GK.go (h : GK p k B R) (w : Wd p u B H) {Q : α → Hp → Prop} (q : ∀ v B2 H2, Stp [p] B H B2 H2 → Wd p u B2 H2 → R v B2 → Q v H2) : k H Q := h _ B H (Ex.refl B) w Q q
theorem gk_pure {v : α} (h : ∀ B1, Ex B B1 → R v B1) : GK p (fun H Q => Q v H) B R := fun u B1 H1 x w Q q => q v B1 H1 w.refl w (h B1 x)
theorem gk_bind {k2 : α → Hp → (β → Hp → Prop) → Prop} {S : β → Hp → Prop} (h : GK p k B R) (g : ∀ v B1, Ex B B1 → R v B1 → GK p (k2 v) B1 S) : GK p (fun H Q => k H fun v H1 => k2 v H1 Q) B S := fun u B1 H1 x w Q q =>
  h _ B1 H1 x w _ fun v B2 H2 s w2 r => g v B2 (x.trans s.base) r _ B2 H2 (Ex.refl B2) w2 Q fun u B3 H3 s3 w3 z => q u B3 H3 (s.trans s3) w3 z
end
section
variable {p : Addr} {B : Hp} {σ : L2.St} {te ta tb : TE} {R R1 R2 : V → Hp → Prop} {v : V} {xs : List V} {i : Nat}
theorem gk_ev (h : Ev te σ B v) (r : ∀ B1, Ex B B1 → R v B1) : GK p (te σ) B R := fun u B1 H1 x w Q q => h H1 (x.trans w.e) Q fun H2 x2 => by
  obtain ⟨s, w2⟩ := w.ex x2
  exact q v B1 H2 s w2 (r B1 x)
theorem gk_val (h : Ev te σ B v) : GK p (te σ) B (fun w _ => w = v) := gk_ev h fun _ _ => rfl
theorem gk_var (h : σ[i]? = some (some v)) (r : ∀ B1, Ex B B1 → R v B1) : GK p (tVar i σ) B R := gk_ev (ev_var h) r
theorem gk_c (r : ∀ B1, Ex B B1 → R v B1) : GK p (tC v σ) B R := gk_ev ev_c r
/-- a new list, a new tuple that the reading leaves behind new things of its own -/
theorem gk_newL (r : ∀ B1 a, Ex B B1 → B1 a = some (.lst xs) → R (.ref a) B1) : GK p (fun H Q => ∀ l, H l = none → Q (.ref l) (upd H l (.lst xs))) B R := fun u B1 H1 x w Q q l nl => by
  obtain ⟨s, w2⟩ := w.new (o := .lst xs) nl
  exact q _ _ _ s w2 (r _ l (x.trans s.base) upd_same)
theorem gk_newT (r : ∀ B1 a, Ex B B1 → B1 a = some (.tup xs) → R (.ref a) B1) : GK p (fun H Q => ∀ l, H l = none → Q (.ref l) (upd H l (.tup xs))) B R := fun u B1 H1 x w Q q l nl => by
  obtain ⟨s, w2⟩ := w.new (o := .tup xs) nl
  exact q _ _ _ s w2 (r _ l (x.trans s.base) upd_same)
/-- what holds of the heap beside goes into the base: an object that was found new -/
theorem gk_evL (h : EvL te σ B xs) (r : ∀ B1 a, Ex B B1 → B1 a = some (.lst xs) → R (.ref a) B1) : GK p (te σ) B R := fun u B1 H1 x w Q q => h H1 (x.trans w.e) Q fun a H2 na x2 ha => by
  obtain ⟨s, w2⟩ := w.ex x2
  have nb : B1 a = none := ex_none w.e na
  obtain ⟨k1, k2⟩ := Stp.keep w2.e ha nb
  have s3 : Stp [p] B1 H1 (upd B1 a (.lst xs)) H2 := ⟨k1, k2, fun b h1 h2 => by
    rw [upd_ne (fun z => by subst z; exact h2 na)]; exact h1, s.fr, s.al⟩
  exact q _ _ H2 s3 (w.stp s3 (w2.P.of k1 rfl)) (r _ a (x.trans k1) upd_same)
theorem gk_evU (h : EvU te σ B xs) (r : ∀ B1 a, Ex B B1 → B1 a = some (.tup xs) → R (.ref a) B1) : GK p (te σ) B R := fun u B1 H1 x w Q q => h H1 (x.trans w.e) Q fun a H2 na x2 ha => by
  obtain ⟨s, w2⟩ := w.ex x2
  have nb : B1 a = none := ex_none w.e na
  obtain ⟨k1, k2⟩ := Stp.keep w2.e ha nb
  have s3 : Stp [p] B1 H1 (upd B1 a (.tup xs)) H2 := ⟨k1, k2, fun b h1 h2 => by
    rw [upd_ne (fun z => by subst z; exact h2 na)]; exact h1, s.fr, s.al⟩
  exact q _ _ H2 s3 (w.stp s3 (w2.P.of k1 rfl)) (r _ a (x.trans k1) upd_same)
theorem gk_op {r : L2.R2} (h1 : GK p (ta σ) B R1) (h2 : ∀ x B1, Ex B B1 → R1 x B1 → GK p (tb σ) B1 (fun y B2 => GK p (r x y) B2 R)) : GK p (tOp r ta tb σ) B R :=
  gk_bind (k2 := fun x H Q => tb σ H fun y H2 => r x y H2 Q) h1 fun x B1 e1 r1 => gk_bind (k2 := fun y => r x y) (h2 x B1 e1 r1) fun _ _ _ z => z
theorem gk_rv {r : L2.R2} {x y z : V} (h : RV r x y B z) (k : ∀ B1, Ex B B1 → R z B1) : GK p (r x y) B R := fun u B1 H1 e w Q q => h H1 (e.trans w.e) Q fun H2 x2 => by
  obtain ⟨s, w2⟩ := w.ex x2
  exact q z B1 H2 s w2 (k B1 e)
theorem gk_nil {R : List V → Hp → Prop} (h : ∀ B1, Ex B B1 → R [] B1) : GK p (tNil σ) B R := gk_pure h
theorem gk_cons {ta : TE} {tr : TA} {R : List V → Hp → Prop} (h1 : GK p (ta σ) B R1) (h2 : ∀ x B1, Ex B B1 → R1 x B1 → GK p (tr σ) B1 (fun vs B2 => R (x :: vs) B2)) : GK p (tCons ta tr σ) B R :=
  fun u B1 H1 e w Q q => h1 _ B1 H1 e w _ fun x B2 H2 s2 w2 r1 => h2 x B2 (e.trans s2.base) r1 _ B2 H2 (Ex.refl _) w2 _ fun vs B3 H3 s3 w3 r => q _ B3 H3 (s2.trans s3) w3 r
theorem gk_c1 {tr : TA} {R : List V → Hp → Prop} (h1 : Ev ta σ B v) (h2 : GK p (tr σ) B (fun vs B2 => R (v :: vs) B2)) : GK p (tCons ta tr σ) B R :=
  gk_cons (gk_val h1) fun x B1 e1 r1 => by subst r1; exact h2.mono e1
/-- a call of a def -/
theorem gk_fn {t : TA} {sp : Sp} {E : XK} {S : List V → Hp → Prop} (h : GK p (t σ) B S) (g : ∀ vs B1, Ex B B1 → S vs B1 → GK p (fun H Q => sp vs H Q E) B1 R) : GK p ((fun σ H Q => t σ H fun vs H1 => sp vs H1 Q E) σ) B R := gk_bind (k2 := fun vs H Q => sp vs H Q E) h g
theorem gk_cb {t : TA} {r : List V → Hp → VK → Prop} {S : List V → Hp → Prop} (h : GK p (t σ) B S) (g : ∀ vs B1, Ex B B1 → S vs B1 → GK p (r vs) B1 R) : GK p (tCB r t σ) B R := gk_bind (k2 := r) h g
theorem gk_tup {t : TA} {S : List V → Hp → Prop} (h : GK p (t σ) B S) (g : ∀ vs B1, Ex B B1 → S vs B1 → vs.length ≤ 100000 ∧ ∀ B2 a, Ex B1 B2 → B2 a = some (.tup vs) → R (.ref a) B2) : GK p (tTup t σ) B R :=
  gk_bind (β := V) (k2 := fun (xs : List V) H Q => xs.length ≤ sizeLine ∧ ∀ a, H a = none → Q (.ref a) (upd H a (.tup xs))) h fun vs B1 e1 r1 u B2 H2 e2 w2 Q q => ⟨Evl.sz_of (g vs B1 e1 r1).1, gk_newT (fun B3 a e3 ha => (g vs B1 e1 r1).2 B3 a (e2.trans e3) ha) _ B2 H2 (Ex.refl _) w2 Q q⟩
theorem gk_lst {t : TA} {S : List V → Hp → Prop} (h : GK p (t σ) B S) (g : ∀ vs B1, Ex B B1 → S vs B1 → vs.length ≤ 100000 ∧ ∀ B2 a, Ex B1 B2 → B2 a = some (.lst vs) → R (.ref a) B2) : GK p (tLst t σ) B R :=
  gk_bind (β := V) (k2 := fun (xs : List V) H Q => xs.length ≤ sizeLine ∧ ∀ a, H a = none → Q (.ref a) (upd H a (.lst xs))) h fun vs B1 e1 r1 u B2 H2 e2 w2 Q q => ⟨Evl.sz_of (g vs B1 e1 r1).1, gk_newL (fun B3 a e3 ha => (g vs B1 e1 r1).2 B3 a (e2.trans e3) ha) _ B2 H2 (Ex.refl _) w2 Q q⟩
/-- a draw -/
theorem gk_drawn {n : Int} {E : XK} (h0 : 0 < n) (h1 : n < 1073741824) : GK p (fun H Q => spDraw [.ref p, .int n] H Q E) B (RI n) := fun u B1 H1 e w Q q =>
  draw_n (m := n) w.e w.b w.P h0 h1 fun r H2 c0 c1 s P => q (.int r) B1 H2 s (w.stp s P) ⟨r, rfl, c0, c1⟩
theorem gk_draw {tn : TE} {n : Int} {E : XK} (hs : σ[i]? = some (some (.ref p))) (hn : Ev tn σ B (.int n)) (h0 : 0 < n) (h1 : n < 1073741824) : GK p ((fun σ H Q => tCons (tVar i) (tCons tn tNil) σ H fun vs H1 => spDraw vs H1 Q E) σ) B (RI n) :=
  gk_fn (S := fun vs _ => vs = [.ref p, .int n]) (gk_c1 (ev_var hs) (gk_c1 hn (gk_nil fun _ _ => rfl))) fun vs B1 e1 r1 => by subst r1; exact gk_drawn h0 h1
/-- a draw below a number that is itself found on the way -/
theorem gk_draw' {tn : TE} {P : Int → Prop} {E : XK} (hs : σ[i]? = some (some (.ref p))) (hn : GK p (tn σ) B (fun v _ => ∃ n, v = .int n ∧ P n)) (h01 : ∀ n, P n → 0 < n ∧ n < 1073741824) : GK p ((fun σ H Q => tCons (tVar i) (tCons tn tNil) σ H fun vs H1 => spDraw vs H1 Q E) σ) B (fun v _ => ∃ r n : Int, v = .int r ∧ P n ∧ 0 ≤ r ∧ r < n) :=
  gk_fn (S := fun vs _ => ∃ n, vs = [.ref p, .int n] ∧ P n) (gk_c1 (ev_var hs) (gk_cons hn fun x B1 e1 ⟨n, ex, hp⟩ => gk_nil fun _ _ => ⟨n, by rw [ex], hp⟩)) fun vs B1 e1 ⟨n, ev, hp⟩ => by
    subst ev
    exact (gk_drawn (h01 n hp).1 (h01 n hp).2).imp fun v B2 _ ⟨r, h1, h2, h3⟩ => ⟨r, n, h1, hp, h2, h3⟩
/-! tests -/
theorem gk_test {R : Bool → Hp → Prop} (h : GK p (te σ) B (fun v B1 => ∃ b, v = .bl b ∧ R b B1)) : GK p (tTest te σ) B R := fun u B1 H1 e w Q q => h _ B1 H1 e w _ fun v B2 H2 s w2 ⟨b, hv, r⟩ => ⟨b, hv, q b B2 H2 s w2 r⟩
theorem gk_tv {tt : TT} {b : Bool} {R : Bool → Hp → Prop} (h : EvT tt σ B b) (r : ∀ B1, Ex B B1 → R b B1) : GK p (tt σ) B R := fun u B1 H1 x w Q q => h H1 (x.trans w.e) Q fun H2 x2 => by
  obtain ⟨s, w2⟩ := w.ex x2
  exact q b B1 H2 s w2 (r B1 x)
/-! statements -/
variable {D : Ends} {tu tw tz : TS} {H : Hp}
theorem gs_asg (w : Wd p u B H) (h : GK p (te σ) B R) (k : ∀ v B2 H2, Stp [p] B H B2 H2 → Wd p u B2 H2 → R v B2 → D.nx (σ.set i (some v)) H2) : tAsg te (gName i) D σ H := h.go w k
theorem gq_asg (w : Wd p u B H) (h : GK p (te σ) B R) (k : ∀ v B2 H2, Stp [p] B H B2 H2 → Wd p u B2 H2 → R v B2 → tz D (σ.set i (some v)) H2) : tSeq (tAsg te (gName i)) tz D σ H := h.go w k
theorem gs_ret (w : Wd p u B H) (h : GK p (te σ) B R) (k : ∀ v B2 H2, Stp [p] B H B2 H2 → Wd p u B2 H2 → R v B2 → D.rt v H2) : tRet te D σ H := h.go w k
theorem gs_if {tt : TT} {R : Bool → Hp → Prop} (w : Wd p u B H) (h : GK p (tt σ) B R) (h1 : ∀ B2 H2, Stp [p] B H B2 H2 → Wd p u B2 H2 → R true B2 → tu D σ H2) (h2 : ∀ B2 H2, Stp [p] B H B2 H2 → Wd p u B2 H2 → R false B2 → tw D σ H2) : tIfS tt tu tw D σ H :=
  h.go w fun b B2 H2 s w2 r => by
    cases b with
    | true => exact h1 B2 H2 s w2 r
    | false => exact h2 B2 H2 s w2 r
theorem gq_if {tt : TT} {R : Bool → Hp → Prop} (w : Wd p u B H) (h : GK p (tt σ) B R) (h1 : ∀ B2 H2, Stp [p] B H B2 H2 → Wd p u B2 H2 → R true B2 → tu { D with nx := tz D } σ H2) (h2 : ∀ B2 H2, Stp [p] B H B2 H2 → Wd p u B2 H2 → R false B2 → tw { D with nx := tz D } σ H2) : tSeq (tIfS tt tu tw) tz D σ H := gs_if (D := { D with nx := tz D }) w h h1 h2
/-- an if without else -/
theorem gs_when {tt : TT} {R : Bool → Hp → Prop} (w : Wd p u B H) (h : GK p (tt σ) B R) (h1 : ∀ B2 H2, Stp [p] B H B2 H2 → Wd p u B2 H2 → R true B2 → tu D σ H2) (h2 : ∀ B2 H2, Stp [p] B H B2 H2 → Wd p u B2 H2 → R false B2 → D.nx σ H2) : tIfS tt tu tNext D σ H := gs_if w h h1 h2
theorem gq_when {tt : TT} {R : Bool → Hp → Prop} (w : Wd p u B H) (h : GK p (tt σ) B R) (h1 : ∀ B2 H2, Stp [p] B H B2 H2 → Wd p u B2 H2 → R true B2 → tu { D with nx := tz D } σ H2) (h2 : ∀ B2 H2, Stp [p] B H B2 H2 → Wd p u B2 H2 → R false B2 → tz D σ H2) : tSeq (tIfS tt tu tNext) tz D σ H := gs_if (D := { D with nx := tz D }) w h h1 h2
/-- for x in range(n), n found on the way -/
theorem gs_forR {ta : TA} {Rn : Int → Prop} {j : Nat} (w : Wd p u B H) (h : GK p (ta σ) B (fun vs _ => ∃ n : Int, vs = [.int n] ∧ Rn n)) (hn : ∀ n, Rn n → 0 ≤ n ∧ n ≤ 100000) (Pv : Int → Nat → L2.St → Hp → Prop)
    (h0 : ∀ n B2 H2, Stp [p] B H B2 H2 → Wd p u B2 H2 → Rn n → Pv n 0 σ H2)
    (hs : ∀ (n : Int) (i : Nat) σ' H', Rn n → (i : Int) < n → Pv n i σ' H' → tu { D with nx := Pv n (i + 1), ct := Pv n (i + 1), bk := D.nx } (σ'.set j (some (.int (i : Int)))) H') (hd : ∀ n σ' H', Rn n → Pv n n.toNat σ' H' → D.nx σ' H') : tFor (iRng1 ta) (gName j) tu D σ H :=
  h.go w fun vs B2 H2 s w2 ⟨n, ev, rn⟩ => by
    have hb := hn n rn
    refine ⟨n, ev, by omega, by omega, for_range (lo := 0) (n := n.toNat) (Pv n) (h0 n B2 H2 s w2 rn) (fun i σ' H' hi q => ?_) (fun σ' H' q => hd n σ' H' rn q)⟩
    have e0 : (0 : Int) + (i : Int) = (i : Int) := Int.zero_add _
    show tu { D with nx := Pv n (i + 1), ct := Pv n (i + 1), bk := D.nx } (σ'.set j (some (.int ((0 : Int) + (i : Int))))) H'
    rw [e0]
    exact hs n i σ' H' rn (by omega) q
theorem gq_forR {ta : TA} {Rn : Int → Prop} {j : Nat} (w : Wd p u B H) (h : GK p (ta σ) B (fun vs _ => ∃ n : Int, vs = [.int n] ∧ Rn n)) (hn : ∀ n, Rn n → 0 ≤ n ∧ n ≤ 100000) (Pv : Int → Nat → L2.St → Hp → Prop)
    (h0 : ∀ n B2 H2, Stp [p] B H B2 H2 → Wd p u B2 H2 → Rn n → Pv n 0 σ H2)
    (hs : ∀ (n : Int) (i : Nat) σ' H', Rn n → (i : Int) < n → Pv n i σ' H' → tu { D with nx := Pv n (i + 1), ct := Pv n (i + 1), bk := tz D } (σ'.set j (some (.int (i : Int)))) H') (hd : ∀ n σ' H', Rn n → Pv n n.toNat σ' H' → tz D σ' H') : tSeq (tFor (iRng1 ta) (gName j) tu) tz D σ H :=
  gs_forR (D := { D with nx := tz D }) w h hn Pv h0 hs hd
/-- [e for x in range(n)], e reads beside the pool -/
theorem gk_lcR {ta : TA} {Rn : Int → Prop} {Re : Nat → V → Hp → Prop} {j : Nat} {ws : List Nat} (h : GK p (ta σ) B (fun vs _ => ∃ n : Int, vs = [.int n] ∧ Rn n)) (hn : ∀ n, Rn n → 0 ≤ n ∧ n ≤ 40000) (hw : ∀ x, wipe ((wipe σ ws).set j (some x)) ws = wipe σ ws)
    (hm : ∀ i v B1 B2, Ex B1 B2 → Re i v B1 → Re i v B2) (he : ∀ (n : Int) (i : Nat) B1, Rn n → (i : Int) < n → Ex B B1 → GK p (te ((wipe σ ws).set j (some (.int (i : Int))))) B1 (Re i))
    (r : ∀ n B1 a vs, Ex B B1 → Rn n → vs.length = n.toNat → B1 a = some (.lst vs) → (∀ i v, vs[i]? = some v → Re i v B1) → R (.ref a) B1) : GK p (tLc (iRng1 ta) (gName j) tYes te ws σ) B R := fun u B1 H1 e1 w1 Q q =>
  h _ B1 H1 e1 w1 _ fun vs B2 H2 s2 w2 ⟨n, ev, rn⟩ => by
    have hb := hn n rn
    have hbig : (100000 : Nat) ≤ sizeLine := by decide
    refine ⟨n, ev, by omega, by omega, fun L nL => ?_⟩
    have nLp : L ≠ p := w2.P.ne nL
    refine lc_range (lo := 0) (n := n.toNat) (fun i H' => ∃ B' vs, Stp [L, p] B2 (upd H2 L (.lst [])) B' H' ∧ Wd p u B' H' ∧ H' L = some (.lst vs) ∧ B' L = none ∧ vs.length = i ∧ ∀ j v, vs[j]? = some v → Re j v B') ⟨B2, [], Stp.refl (w2.cell nL).e, w2.cell nL, upd_same, ex_none w2.e nL, rfl, fun _ _ h => by cases h⟩ (fun i H' hi z => ?_) (fun H' z => ?_)
    · obtain ⟨B', vs, st, w', hL, hBL, hlen, hre⟩ := z
      have e0 : (0 : Int) + (i : Int) = (i : Int) := Int.zero_add _
      show wipe ((wipe σ ws).set j (some (.int ((0 : Int) + (i : Int))))) ws = wipe σ ws ∧ tYes ((wipe σ ws).set j (some (.int ((0 : Int) + (i : Int))))) H' fun b H3 => if b = true then te ((wipe σ ws).set j (some (.int ((0 : Int) + (i : Int))))) H3 fun y H4 => ∃ acc, H4 L = some (.lst acc) ∧ acc.length < sizeLine ∧ _ else _
      rw [e0]
      refine ⟨hw _, yes_if ?_⟩
      refine he n i B' rn (by omega) ((e1.trans s2.base).trans st.base) _ B' H' (Ex.refl _) w' _ fun v B3 H3 s3 w3 rv => ?_
      have hL3 := s3.fr L _ (by simpa using nLp) hL
      have hB3 := s3.off hBL hL
      have st3 : Stp [L, p] B2 (upd H2 L (.lst [])) B3 H3 := st.trans (s3.wk fun x hx => .tail _ hx)
      refine ⟨vs, hL3, by omega, B3, vs ++ [v], st3.trans (Stp.put w3.e hB3 (.head _)), w3.put hB3 nLp, upd_same, hB3, by rw [List.length_append, List.length_singleton, hlen], fun k u hk => ?_⟩
      by_cases c : k < vs.length
      · rw [List.getElem?_append_left c] at hk
        exact hm k u B' B3 s3.base (hre k u hk)
      · rw [List.getElem?_append_right (by omega)] at hk
        have : k - vs.length = 0 := by
          cases hz : k - vs.length with
          | zero => rfl
          | succ m => rw [hz] at hk; cases hk
        rw [this] at hk
        cases hk
        rw [show k = i by omega]
        exact rv
    · obtain ⟨B', vs, st, w', hL, hBL, hlen, hre⟩ := z
      have cl := Stp.close w2.e nL st hL
      have w3 : Wd p u (upd B' L (.lst vs)) H' := w2.stp cl (w'.P.of (Ex.new hBL) rfl)
      exact q _ _ H' (s2.trans cl) w3 (r n _ L vs (e1.trans (s2.base.trans cl.base)) rn hlen upd_same fun i v hv => hm i v _ _ (Ex.new hBL) (hre i v hv))
end
end LL
/-! dicts whose keys are nested tuples: two that hold equal data under the same keys are equal -/
namespace ND
open PySem PySem.Spec PySem.W PyProof.Rows L2
section
variable {prog : Program} {w : World} {K : Type} [DecidableEq K] {knd : HeapKind prog w K} {A : Around} {E : Value → Shared → Prop} {s : Shared} {a b : Addr} {ka kb : List (K × Addr × Value)}
/-- each entry of the one dict has its like in the other -/
def Likes (A : Around) (s : Shared) (prog : Program) (w : World) (ka kb : List (K × Addr × Value)) : Prop :=
  ka.length = kb.length ∧ ∀ (i : Nat) (k : K) (ad : Addr) (v : Value), ka[i]? = some (k, ad, v) → ∃ (j : Nat) (ad' : Addr) (u : Value), kb[j]? = some (k, ad', u) ∧ SeqAt.EqP prog w A s v u true
theorem same_dicts {nm : String} {Q : Bool → Shared → Prop} (hr : knd.room A) (ha : (a == sysModules) = false) (hb : (b == sysModules) = false) (da : s.heap.DictOfH knd a ka) (db : s.heap.DictOfH knd b kb) (hl : Likes A s prog w ka kb) (h : Q true s) :
    wpAny (model prog w) A (Builtin.Dict.samePairs nm a b) Q E s := by
  obtain ⟨oa, es, ea, ga, _, xa, la, ia, _⟩ := da
  obtain ⟨ob, fs, eb, gb, _, xb, lb, ib, nb⟩ := db
  obtain ⟨hlen, hlike⟩ := hl
  have sa := size_of_entries la
  have sb := size_of_entries lb
  have readA : ∀ {β : Type} {f : Array DictEntry → Sem β} {R : β → Shared → Prop}, wpAny (model prog w) A (f es) R E s → wpAny (model prog w) A (dictEntries a >>= f) R E s := fun q => wpAny_bind (wpAny_dictEntries ga xa q)
  have readB : ∀ {β : Type} {f : Array DictEntry → Sem β} {R : β → Shared → Prop}, wpAny (model prog w) A (f fs) R E s → wpAny (model prog w) A (dictEntries b >>= f) R E s := fun q => wpAny_bind (wpAny_dictEntries gb xb q)
  have ageA : ∀ {β : Type} {f : Nat → Sem β} {R : β → Shared → Prop}, wpAny (model prog w) A (f ea) R E s → wpAny (model prog w) A (dictEpoch a >>= f) R E s := fun q => wpAny_bind (wpAny_dictEpoch ga xa q)
  have seenA : Builtin.Dict.showsAll a = pure () := by unfold Builtin.Dict.showsAll; simp [ha]
  have seenB : Builtin.Dict.showsAll b = pure () := by unfold Builtin.Dict.showsAll; simp [hb]
  unfold Builtin.Dict.samePairs
  rw [seenA, seenB]
  refine wpAny_bind (wpAny_pure (wpAny_bind (wpAny_pure (readA (readB ?_)))))
  have differ : (es.size != fs.size) = false := by rw [sa, sb, hlen]; simp
  rw [differ, if_neg Bool.false_ne_true]
  refine ageA (wpAny_bind ?_)
  rw [Std.Legacy.Range.forIn_eq_forIn_range']
  refine wpAny_forIn_list _ (fun rest q s' => s' = s ∧ q = (none, ()) ∧ ∀ i ∈ rest, i < es.size) _ ?_ ?_ _ _ ⟨rfl, rfl, fun i hi => ?_⟩
  · rintro i rest q s' ⟨hs, rfl, hi⟩
    subst hs
    have hi0 := hi i List.mem_cons_self
    have hik : i < ka.length := by omega
    obtain ⟨k, ad, v, hkv⟩ : ∃ k ad v, ka[i]? = some (k, ad, v) := ⟨_, _, _, List.getElem?_eq_getElem hik⟩
    have key := ia _ (List.mem_of_getElem? hkv)
    obtain ⟨j, ad', u, hj, he⟩ := hlike i k ad v hkv
    refine readA ?_
    rw [entry_at la, hkv]
    refine wpAny_bind (wpAny_holding (wpAny_bind (wpAny_dictFind_heap hr key gb xb lb ib nb (fun z => absurd hj (z j _)) fun j' p hp => ?_)))
    have ej : j' = j := idxH_unique nb hp hj
    subst ej
    rw [hj] at hp
    cases hp
    refine readB ?_
    rw [entry_at lb, hj]
    refine wpAny_holding (he _ _ (ageA ?_))
    have same : (ea != ea) = false := by simp
    rw [same]
    exact wpAny_pure ⟨rfl, rfl, fun m hm => hi m (List.mem_cons_of_mem _ hm)⟩
  · rintro q s' ⟨rfl, rfl, _⟩
    exact wpAny_pure h
  · have := (List.mem_range'_1.mp hi).2
    simpa [Std.Legacy.Range.size] using this
theorem eq_dicts {Q : Value → Shared → Prop} (hu : A.units < cLine) (hr : knd.room A.in1) (ha : (a == sysModules) = false) (hb : (b == sysModules) = false) (da : s.heap.DictOfH knd a ka) (db : s.heap.DictOfH knd b kb) (hl : Likes A.in1 s prog w ka kb) :
    (Q (.bool true) s → wpAny (model prog w) A (compareOp .Eq (.ref a) (.ref b)) Q E s) ∧ (Q (.bool false) s → wpAny (model prog w) A (compareOp .NotEq (.ref a) (.ref b)) Q E s) := by
  have ta := da.typeIs
  have tb := db.typeIs
  have two : ∀ (nm : String) (R : Value × Value → Shared → Prop), R (.ref a, .ref b) s → wpAny (model prog w) A.in1 (Builtin.Dict.dictSlotArgs nm ⟨[.ref a, .ref b], []⟩) R E s := fun nm R q => wpAny_bind (wpAny_notOrdered_dict ta (wpAny_pure q))
  constructor
  · intro h
    refine wpAny_richCompare_same_room (op := .Eq) ta tb PySem.F.slot_dict_eq (wpAny_call_entry PySem.F.slot_dict_eq ta PySem.F.entry_dict_eq (wpAny_bind (two _ _ (wpAny_bind (wpAny_isInstance tb PySem.F.sub_dict_dict ?_)))) (PySem.F.args_dict_eq_2 _ _)) hu
    rw [if_neg (by decide)]
    exact wpAny_bind (wpAny_pure (wpAny_bind (wpAny_pure (wpAny_bind (same_dicts hr ha hb da db hl (wpAny_pure ⟨_, rfl, nofun, h⟩))))))
  · intro h
    refine wpAny_richCompare_same_room (op := .NotEq) ta tb PySem.F.slot_dict_ne (wpAny_call_entry PySem.F.slot_dict_ne ta PySem.F.entry_dict_ne (wpAny_bind (two _ _ (wpAny_bind (wpAny_isInstance tb PySem.F.sub_dict_dict ?_)))) (PySem.F.args_dict_ne_2 _ _)) hu
    rw [if_neg (by decide)]
    exact wpAny_bind (wpAny_pure (wpAny_bind (wpAny_pure (wpAny_bind (same_dicts hr ha hb da db hl (wpAny_pure ⟨_, rfl, nofun, h⟩))))))
end
section
variable {X : Cx} {pins : List (Addr × Obj)} {σ : L2.St} {H : Hp} {s : Shared}
/-- the two dicts hold equal data under the same keys, in any order -/
def Hits (K : PySem.W.Frag) (H : Hp) (kvs ls : List NE) : Prop := kvs.length = ls.length ∧ ∀ e ∈ kvs, ∃ u d d', nGet ls e.1 = some u ∧ Dp K H e.2.2 d ∧ Dp K H u d' ∧ SeqAt.shaped d = true ∧ SeqAt.shaped d' = true ∧ PyData.eqv d d' = true
theorem nv_get {kvs : List NE} {xs : List (NestedKey × Addr × Value)} (r : NV kvs xs) {i : Nat} {x : NestedKey × Addr × Value} (h : xs[i]? = some x) : ∃ e ∈ kvs, e.1 = x.1 ∧ e.2.1 = x.2.1 ∧ RelV e.2.2 x.2.2 := by
  induction r generalizing i with
  | nil => cases h
  | @cons p q ps qs g t ih =>
    cases i with
    | zero => cases h; exact ⟨p, .head _, g⟩
    | succ i =>
      obtain ⟨e, h1, h2⟩ := ih (by simpa using h)
      exact ⟨e, .tail _ h1, h2⟩
theorem likes_of (I : Inv X pins σ H s) {A : Around} (hu : A.units + 64 < cLine) {kvs ls : List NE} {xa xb : List (NestedKey × Addr × Value)} (ra : NV kvs xa) (rb : NV ls xb) (h : Hits X.K H kvs ls) : Likes A s X.prog X.w xa xb := by
  refine ⟨by rw [← Paired.length ra, ← Paired.length rb]; exact h.1, fun i k ad v hx => ?_⟩
  obtain ⟨e, he, e1, e2, e3⟩ := nv_get ra hx
  obtain ⟨u, d, d', g1, g2, g3, g4, g5, g6⟩ := h.2 e he
  have rr : RelO (some u) ((atKey xb e.1).map (·.2)) := by rw [← g1]; exact NV.val rb e.1
  obtain ⟨y, hy, ry⟩ := rr.some_of
  obtain ⟨p, hp, rfl⟩ := Option.map_eq_some_iff.mp hy
  obtain ⟨z, hz, rfl⟩ := Option.map_eq_some_iff.mp hp
  have hk := List.find?_some hz
  obtain ⟨j, hj⟩ := List.mem_iff_getElem?.mp (List.mem_of_find?_eq_some hz)
  have ek : z.1 = k := (of_decide_eq_true hk).trans e1
  obtain ⟨as, r1⟩ := Dp.reads I d _ v g2 e3
  obtain ⟨bs, r2⟩ := Dp.reads I d' u z.2.2 g3 ry
  have ee := SeqAt.eqAt_reads d d' A s v z.2.2 as bs r1 r2 (SeqAt.canLay_of_shaped g4) (SeqAt.canLay_of_shaped g5) (SeqAt.room_of_shaped g4 hu)
  rw [g6] at ee
  exact ⟨j, z.2.1, z.2.2, by rw [hj, ← ek], ee.eqP⟩
def rEqN (P : Program) (w : World) (K : PySem.W.Frag) (b : Bool) : R2 := fun x y H Q => ∃ a c kvs ls, x = .ref a ∧ y = .ref c ∧ Rd H a (NDo P w a kvs) ∧ Rd H c (NDo P w c ls) ∧ KsAt K H kvs ∧ KsAt K H ls ∧ Hits K H kvs ls ∧ Q (.bl b) H
end
section
variable {X : Cx}
theorem op_eqN (hu : X.A.units + 65 < cLine) : OpR X (compareOp .Eq) (rEqN X.prog X.w X.K true) := by
  intro pins s σ H x y v u Q I rx ry ⟨a, c, kvs, ls, ex, ey, ga, gc, ka, kc, hh, q⟩
  subst ex ey
  cases (show v = Value.ref a from rx)
  cases (show u = Value.ref c from ry)
  obtain ⟨_, ha, xa, ra, da⟩ := nd_rd I ga ka
  obtain ⟨_, hc, xb, rb, db⟩ := nd_rd I gc kc
  exact (eq_dicts (by omega) (room9 (by omega)) ha hc da db (likes_of I (by show X.A.units + 1 + 64 < cLine; omega) ra rb hh)).1 ⟨.bl true, H, I, rfl, q⟩
theorem op_neN (hu : X.A.units + 65 < cLine) : OpR X (compareOp .NotEq) (rEqN X.prog X.w X.K false) := by
  intro pins s σ H x y v u Q I rx ry ⟨a, c, kvs, ls, ex, ey, ga, gc, ka, kc, hh, q⟩
  subst ex ey
  cases (show v = Value.ref a from rx)
  cases (show u = Value.ref c from ry)
  obtain ⟨_, ha, xa, ra, da⟩ := nd_rd I ga ka
  obtain ⟨_, hc, xb, rb, db⟩ := nd_rd I gc kc
  exact (eq_dicts (by omega) (room9 (by omega)) ha hc da db (likes_of I (by show X.A.units + 1 + 64 < cLine; omega) ra rb hh)).2 ⟨.bl false, H, I, rfl, q⟩
end
end ND
namespace LL
open PySem PySem.Spec PyProof.Rows L2 He
/-! ### Ratios over the heap -/
abbrev cR (K : PySem.W.Frag) : Addr := ga K "Ratio"
def rf (n d : Int) : List (Str × V) := [("num", .int n), ("den", .int d)]
theorem nd_ne : ¬ (("num" : Str) = "den") := by decide +kernel
theorem rf_put (n d : Int) : putF "den" (.int d) (putF "num" (.int n) []) = rf n d := by
  show (if ("num" : Str) = "den" then _ else (("num" : Str), V.int n) :: putF "den" (V.int d) []) = _
  rw [if_neg nd_ne] <;> rfl
theorem rf_num (n d : Int) : (rf n d).lookup ("num" : Str) = some (.int n) := by simp [rf, List.lookup]
theorem rf_den (n d : Int) : (rf n d).lookup ("den" : Str) = some (.int d) := by
  have h : (("den" : Str) == "num") = false := by decide +kernel
  simp [rf, List.lookup, h]
theorem rf_no (n d : Int) {m : Str} (h1 : (m == ("num" : Str)) = false) (h2 : (m == ("den" : Str)) = false) : (rf n d).lookup m = none := by
  simp [rf, List.lookup, h1, h2]
/-- v is the Ratio q -/
def RatAt (K : PySem.W.Frag) (H : Hp) (v : V) (q : Rat) : Prop := ∃ a dx, v = .ref a ∧ H a = some (.ins (cR K) dx (rf q.num q.den))
theorem RatAt.mono {K : PySem.W.Frag} {H H' : Hp} {v : V} {q : Rat} (e : Same H H') (h : RatAt K H v q) : RatAt K H' v q := by
  obtain ⟨a, dx, h1, h2⟩ := h
  exact ⟨a, dx, h1, e _ _ h2⟩
/-! ### Ratio(num, den) -/
def spRI (K : PySem.W.Frag) : Sp := fun vs H Q E => ∃ (p dx : Addr) (n d : Int), vs = [.ref p, .int n, .int d] ∧ H p = some (.ins (cR K) dx []) ∧
  (d < 1 → E (.ref (ga K "BadRatio")) none H) ∧ (0 < d → d.natAbs < 2 ^ 9000 ∧ Q .non (upd H p (.ins (cR K) dx (rf (mkRat n d.toNat).num (mkRat n d.toNat).den))))
section
variable {P : Program} {w : World} {K : PySem.W.Frag} {mg : Str → Option Value} {base : Heap}
theorem gcd_turn (l r : Nat) : Nat.gcd r (l % r) = Nat.gcd l r := by rw [Nat.gcd_comm l r, Nat.gcd_rec r l, Nat.gcd_comm]
theorem ok_RI (T : Txt K mg) : ∃ fd, FunD K "__init__" "Ratio.__init__" (defArgs s_Ratio_init) (defBody s_Ratio_init) (defScope s_Ratio_init) (List.map (He.Dv.v K) [.int 1]) [] (ma K (cR K) "__init__") fd ∧
    FnOk P w K mg base (L2.CX P w) 1 (ma K (cR K) "__init__") fd ["self", "num", "den"] (spRI K) := by
  obtain ⟨fd, F⟩ := T.d_Ratio_init
  refine ⟨fd, F, F.ok sc_Ratio_init (fun vs H Q E h => ?_) (fun cdv A outer s H vs Q E hr h => ?_)⟩
  · obtain ⟨p, dx, n, d, rfl, _⟩ := h
    rfl
  · obtain ⟨p, dx, n, d, rfl, hp, kb, kg⟩ := h
    have nd := sc_Ratio_init.nd
    refine ⟨_, pss_cons (ps_if (pt_cmpR op_lt (pv 2) pe_int (nomark _)) (pss_one (ps_raise rfl (takes_of rfl rfl rfl rfl) (pmk_own PySem.F.excBase_ValueError T.x_BadRatio.1 T.g_BadRatio T.x_BadRatio.2.1 (raises_own T.x_BadRatio.2.2.1 T.x_BadRatio.2.2.2) rfl))) pss_nil)
      (pss_cons (ps_set (i := 3) nd rfl (Or.inl rfl) (pe_callB call_abs (by rfl) T.f_abs (by decide +kernel) (pa_cons (pv 1) pa_nil)))
      (pss_cons (ps_set (i := 4) nd rfl (Or.inl rfl) (pv 2))
      (pss_cons (ps_while (passes_of rfl) (pt_truth (pv 4) (by intro _; rfl)) (pss_one (ps_par (i := 3) (j := 4) (by rfl) nd rfl rfl (by decide) rfl rfl (pa_cons (pv 4) (pa_cons (pe_op op_mod (pv 3) (pv 4)) pa_nil)) (by rfl))))
      (pss_cons (ps_fld (pv 0) (pe_op op_fdivW (pv 1) (pv 3)) rfl)
      (pss_one (ps_fld (pv 0) (pe_op op_fdivW (pv 2) (pv 3)) rfl)))))), ?_⟩
    refine ⟨_, rfl, _, _, rfl, rfl, _, rfl, ite2 (fun c => kb (of_decide_eq_true c)) fun c => ?_⟩
    have hd : 0 < d := by
                       have c' : ¬ d < 1 := fun z => c (decide_eq_true z)
                       omega
    obtain ⟨hz, k⟩ := kg hd
    refine ⟨_, rfl, _, rfl, _, rfl, ?_⟩
    dsimp only [gName, tSeq]
    refine while_by (fun σ H' => H' = H ∧ ∃ l r : Nat, σ = [some (.ref p), some (.int n), some (.int d), some (.int (l : Int)), some (.int (r : Int))] ∧ Nat.gcd l r = Nat.gcd n.natAbs d.toNat)
      (fun σ _ => match σ with | [_, _, _, _, some (.int r)] => r.toNat | _ => 0) ⟨rfl, n.natAbs, d.toNat, ?_, rfl⟩ ?_ ?_
    · show [_, _, _, some (V.int (if n < 0 then -n else n)), some (V.int d)] = _
      have e1 : (if n < 0 then -n else n) = (n.natAbs : Int) := by split <;> omega
      have e2 : d = ((d.toNat : Nat) : Int) := by omega
      rw [e1, ← e2]
    · rintro σ H' ⟨rfl, l, r, rfl, hg⟩
      refine ⟨_, rfl, _, rfl, ite2 (fun c => ?_) fun c => ?_⟩
      · have hr0 : r ≠ 0 := by intro z; subst z; simp at c
        have hr1 : 0 < r := Nat.pos_of_ne_zero hr0
        refine ⟨_, rfl, _, rfl, _, rfl, _, _, rfl, rfl, (by show (0 : Int) < (r : Int); omega), _, _, rfl, ?_⟩
        refine ⟨⟨rfl, r, l % r, ?_, (gcd_turn l r).trans hg⟩, ?_⟩
        · show [_, _, _, some (V.int (r : Int)), some (V.int ((l : Int) % (r : Int)))] = _
          rw [← Int.natCast_emod]
        · show ((l : Int) % (r : Int)).toNat < ((r : Int)).toNat
          rw [← Int.natCast_emod]
          exact Nat.mod_lt l hr1
      · have hr0 : r = 0 := by
          cases r with
          | zero => rfl
          | succ r => exact absurd (by simp; omega) c
        subst hr0
        rw [Nat.gcd_zero_right] at hg
        have hdn : 0 < d.toNat := by omega
        have hl0 : 0 < l := by rw [hg]; exact Nat.gcd_pos_of_pos_right _ hdn
        have hl1 : l ≤ d.toNat := by rw [hg]; exact Nat.gcd_le_right _ hdn
        have hw : CDivW n (l : Int) := wide_div (b := 9000) (by omega) (by omega) (by omega) (by omega)
        have hw2 : CDivW d (l : Int) := hw
        refine ⟨_, rfl, _, rfl, _, _, rfl, rfl, hw, _, rfl, p, cR K, dx, [], rfl, hp, T.c_Ratio, T.a_Ratio_num, (by show 0 < 1000; decide), _, rfl, _, rfl, _, _, rfl, rfl, hw2, _, rfl, p, cR K, dx, _, rfl, upd_same, T.c_Ratio, T.a_Ratio_den, (by show 1 < 1000; decide), ?_⟩
        have en : (mkRat n d.toNat).num = n / (l : Int) := by
          rw [Rat.num_mkRat, if_neg (by omega), Nat.gcd_comm, ← hg]
        have ed : ((mkRat n d.toNat).den : Int) = d / (l : Int) := by
          rw [Rat.den_mkRat, if_neg (by omega), Nat.gcd_comm, ← hg, Int.natCast_ediv]
          congr 1; omega
        rw [upd_upd]
        have e1 : putF "den" (V.int (d / (l : Int))) (putF "num" (V.int (n / (l : Int))) []) = rf (mkRat n d.toNat).num (mkRat n d.toNat).den := by rw [en, ed, rf_put]
        rw [show putF (Str.ofString "den") (V.int (d / (l : Int))) (putF (Str.ofString "num") (V.int (n / (l : Int))) []) = _ from e1]
        exact k
    · intro σ H' Q Q' hq h
      obtain ⟨v, h1, b, h2, h3⟩ := h
      exact ⟨v, h1, b, h2, hq _ _ h3⟩
end
end LL
namespace LL
open PySem PySem.Spec PyProof.Rows L2 He
section
variable {P : Program} {w : World} {K : PySem.W.Frag} {mg : Str → Option Value} {base : Heap}
theorem fn_RI2 (T : Txt K mg) : Fn P w K mg base 1 (ma K (cR K) "__init__") (spRI K) := by
  obtain ⟨fd, F, G⟩ := ok_RI (P := P) (w := w) (base := base) T
  obtain ⟨ds, hd, hb⟩ := F.binds1 3 1 (by simp) rfl (ps := ["self", "num", "den"]) (fun _ _ _ _ _ _ _ us its hl hi => match us, hl, its, hi with | [_, _, _], _, [_], _ => ⟨_, rfl, rfl⟩)
  have e := G.raw hb hd
  exact e.imp fun vs H Q E h => by simpa using h
theorem fn_RI1 (T : Txt K mg) : Fn P w K mg base 1 (ma K (cR K) "__init__") (fun vs H Q E => spRI K (vs ++ [.int 1]) H Q E) := by
  obtain ⟨fd, F, G⟩ := ok_RI (P := P) (w := w) (base := base) T
  obtain ⟨ds, hd, hb⟩ := F.binds1 2 0 (by simp) rfl (ps := ["self", "num", "den"]) (fun _ _ _ _ _ _ _ us its hl hi => match us, hl, its, hi with | [_, _], _, [_], _ => ⟨_, rfl, rfl⟩)
  exact G.raw hb hd
/-- a rational whose parts are below 2 ^ k -/
def Sz (k : Nat) (q : Rat) : Prop := q.num.natAbs < 2 ^ k ∧ q.den < 2 ^ k
theorem Sz.mono {j k : Nat} {q : Rat} (h : Sz j q) (l : j ≤ k) : Sz k q :=
  ⟨Nat.lt_of_lt_of_le h.1 (Nat.pow_le_pow_right (by decide) l), Nat.lt_of_lt_of_le h.2 (Nat.pow_le_pow_right (by decide) l)⟩
/-- a new Ratio -/
theorem mk_ratio {H : Hp} {n d : Int} {Q : VK} {E : XK} (hd : 0 < d) (hz : d.natAbs < 2 ^ 9000) (k : ∀ v H', Same H H' → RatAt K H' v (mkRat n d.toNat) → Q v H') :
    ∀ x dx, H x = none → H dx = none → dx ≠ x → spRI K [.ref x, .int n, .int d] (upd (upd H dx (.own x)) x (.ins (cR K) dx [])) (fun v H2 => v = .non ∧ Q (.ref x) H2) E := by
  intro x dx nx ndx ne
  refine ⟨x, dx, n, d, rfl, upd_same, fun h => by omega, fun _ => ⟨hz, rfl, ?_⟩⟩
  refine k _ _ (fun b o e => ?_) ⟨x, dx, rfl, ?_⟩
  · rw [upd_ne (ne_of_none e nx), upd_ne (ne_of_none e nx), upd_ne (ne_of_none e ndx)]
    exact e
  · exact upd_same
theorem mul_lt_pow {a b m n : Nat} (h1 : a < 2 ^ m) (h2 : b < 2 ^ n) : a * b < 2 ^ (m + n) := by
  rw [Nat.pow_add]
  exact Nat.mul_lt_mul'' h1 h2
def spB (K : PySem.W.Frag) (f : Rat → Rat → Rat) : Sp := fun vs H Q _ => ∃ (x y : V) (p q : Rat) (j k : Nat), vs = [x, y] ∧ RatAt K H x p ∧ RatAt K H y q ∧ (1 ≤ j ∧ 1 ≤ k ∧ j + k ≤ 9000) ∧ Sz j p ∧ Sz k q ∧ ∀ v H', Same H H' → RatAt K H' v (f p q) → Q v H'
theorem add_mk (p q : Rat) : p + q = mkRat (p.num * q.den + q.num * p.den) ((p.den : Int) * (q.den : Int)).toNat := by
  rw [Rat.add_def, Rat.normalize_eq_mkRat, ← Int.natCast_mul, Int.toNat_natCast]
theorem sub_mk (p q : Rat) : p - q = mkRat (p.num * q.den - q.num * p.den) ((p.den : Int) * (q.den : Int)).toNat := by
  rw [Rat.sub_def, Rat.normalize_eq_mkRat, ← Int.natCast_mul, Int.toNat_natCast]
theorem mul_mk (p q : Rat) : p * q = mkRat (p.num * q.num) ((p.den : Int) * (q.den : Int)).toNat := by
  rw [Rat.mul_def, Rat.normalize_eq_mkRat, ← Int.natCast_mul, Int.toNat_natCast]
theorem den_nz (p q : Rat) : (0 : Int) < (p.den : Int) * (q.den : Int) := by
  have h1 := p.den_pos
  have h2 := q.den_pos
  exact Int.mul_pos (by omega) (by omega)
theorem den_sz {p q : Rat} {j k : Nat} (hp : Sz j p) (hq : Sz k q) (hk : j + k ≤ 9000) : ((p.den : Int) * (q.den : Int)).natAbs < 2 ^ 9000 := by
  rw [← Int.natCast_mul, Int.natAbs_natCast]
  exact Nat.lt_of_lt_of_le (mul_lt_pow hp.2 hq.2) (Nat.pow_le_pow_right (by decide) hk)
theorem cm {i j : Int} {a b : Nat} (h : 1 ≤ a ∧ 1 ≤ b ∧ a + b ≤ 9000) (ha : i.natAbs < 2 ^ a) (hb : j.natAbs < 2 ^ b) : CMulW i j := wide_mul ha hb (by omega) (by omega) (by omega)
theorem cm' {i j : Int} {a b : Nat} (h : 1 ≤ a ∧ 1 ≤ b ∧ a + b ≤ 9000) (ha : i.natAbs < 2 ^ b) (hb : j.natAbs < 2 ^ a) : CMulW i j := wide_mul ha hb (by omega) (by omega) (by omega)
theorem fn_Ratio_add (T : Txt K mg) : Fn P w K mg base 3 (ma K (cR K) "__add__") (spB K (· + ·)) := by
  obtain ⟨fd, F⟩ := T.d_Ratio_add
  have b := F.bindsN (ps := ["self", "other"]) fun _ _ _ _ _ _ us hl => match us, hl with | [_, _], _ => rfl
  refine (FnOk.raw (k := 3) (sp := spB K (· + ·)) (F.ok sc_Ratio_add (fun vs H Q E h => ?_) (fun cdv A outer s H vs Q E hr h => ?_)) b (dvs := []) .nil).imp (fun vs H Q E h => by simpa using h)
  · obtain ⟨x, y, p, q, _, _, rfl, _⟩ := h
    rfl
  · obtain ⟨x, y, p, q, j0, k0, rfl, ⟨a, dx, rfl, ha⟩, ⟨b, dy, rfl, hb⟩, hjk, zp, zq, k⟩ := h
    refine ⟨_, pss_one (ps_ret (StX.pe_makeR T.m_Ratio (fn_RI2 T) hr rfl T.g_Ratio pc (pa_cons (pe_op op_add (pe_op op_mulW (pe_fld (pv 0) rfl) (pe_fld (pv 1) rfl)) (pe_op op_mulW (pe_fld (pv 1) rfl) (pe_fld (pv 0) rfl))) (pa_cons (pe_op op_mulW (pe_fld (pv 0) rfl) (pe_fld (pv 1) rfl)) pa_nil)))), ?_⟩
    refine ⟨_, rfl, a, _, dx, _, _, rfl, ha, T.c_Ratio, T.a_Ratio_num, rf_num _ _, _, rfl, b, _, dy, _, _, rfl, hb, T.c_Ratio, T.a_Ratio_den, rf_den _ _, _, _, rfl, rfl, cm hjk zp.1 zq.2, ?_⟩
    refine ⟨_, rfl, b, _, dy, _, _, rfl, hb, T.c_Ratio, T.a_Ratio_num, rf_num _ _, _, rfl, a, _, dx, _, _, rfl, ha, T.c_Ratio, T.a_Ratio_den, rf_den _ _, _, _, rfl, rfl, cm' hjk zq.1 zp.2, _, _, rfl, rfl, ?_⟩
    refine ⟨_, rfl, a, _, dx, _, _, rfl, ha, T.c_Ratio, T.a_Ratio_den, rf_den _ _, _, rfl, b, _, dy, _, _, rfl, hb, T.c_Ratio, T.a_Ratio_den, rf_den _ _, _, _, rfl, rfl, cm hjk zp.2 zq.2, ?_⟩
    refine mk_ratio (den_nz p q) (den_sz zp zq (by omega)) fun v H' e r => k v H' e ?_
    rw [← add_mk] at r
    exact r
end
end LL
namespace LL
open PySem PySem.Spec PyProof.Rows L2 He
section
variable {P : Program} {w : World} {K : PySem.W.Frag} {mg : Str → Option Value} {base : Heap}
theorem fn_Ratio_sub (T : Txt K mg) : Fn P w K mg base 3 (ma K (cR K) "__sub__") (spB K (· - ·)) := by
  refine fn_def T.d_Ratio_sub sc_Ratio_sub (fun _ _ _ _ _ _ us hl => match us, hl with | [_, _], _ => rfl) (fun vs H Q E h => ?_) (fun cdv A outer s H vs Q E hr h => ?_)
  · obtain ⟨x, y, p, q, _, _, rfl, _⟩ := h
    rfl
  · obtain ⟨x, y, p, q, j0, k0, rfl, ⟨a, dx, rfl, ha⟩, ⟨b, dy, rfl, hb⟩, hjk, zp, zq, k⟩ := h
    refine ⟨_, pss_one (ps_ret (StX.pe_makeR T.m_Ratio (fn_RI2 T) hr rfl T.g_Ratio pc (pa_cons (pe_op op_sub (pe_op op_mulW (pe_fld (pv 0) rfl) (pe_fld (pv 1) rfl)) (pe_op op_mulW (pe_fld (pv 1) rfl) (pe_fld (pv 0) rfl))) (pa_cons (pe_op op_mulW (pe_fld (pv 0) rfl) (pe_fld (pv 1) rfl)) pa_nil)))), ?_⟩
    refine ⟨_, rfl, a, _, dx, _, _, rfl, ha, T.c_Ratio, T.a_Ratio_num, rf_num _ _, _, rfl, b, _, dy, _, _, rfl, hb, T.c_Ratio, T.a_Ratio_den, rf_den _ _, _, _, rfl, rfl, cm hjk zp.1 zq.2, ?_⟩
    refine ⟨_, rfl, b, _, dy, _, _, rfl, hb, T.c_Ratio, T.a_Ratio_num, rf_num _ _, _, rfl, a, _, dx, _, _, rfl, ha, T.c_Ratio, T.a_Ratio_den, rf_den _ _, _, _, rfl, rfl, cm' hjk zq.1 zp.2, _, _, rfl, rfl, ?_⟩
    refine ⟨_, rfl, a, _, dx, _, _, rfl, ha, T.c_Ratio, T.a_Ratio_den, rf_den _ _, _, rfl, b, _, dy, _, _, rfl, hb, T.c_Ratio, T.a_Ratio_den, rf_den _ _, _, _, rfl, rfl, cm hjk zp.2 zq.2, ?_⟩
    refine mk_ratio (den_nz p q) (den_sz zp zq (by omega)) fun v H' e r => k v H' e ?_
    rw [← sub_mk] at r
    exact r
theorem fn_Ratio_mul (T : Txt K mg) : Fn P w K mg base 3 (ma K (cR K) "__mul__") (spB K (· * ·)) := by
  refine fn_def T.d_Ratio_mul sc_Ratio_mul (fun _ _ _ _ _ _ us hl => match us, hl with | [_, _], _ => rfl) (fun vs H Q E h => ?_) (fun cdv A outer s H vs Q E hr h => ?_)
  · obtain ⟨x, y, p, q, _, _, rfl, _⟩ := h
    rfl
  · obtain ⟨x, y, p, q, j0, k0, rfl, ⟨a, dx, rfl, ha⟩, ⟨b, dy, rfl, hb⟩, hjk, zp, zq, k⟩ := h
    refine ⟨_, pss_one (ps_ret (StX.pe_makeR T.m_Ratio (fn_RI2 T) hr rfl T.g_Ratio pc (pa_cons (pe_op op_mulW (pe_fld (pv 0) rfl) (pe_fld (pv 1) rfl)) (pa_cons (pe_op op_mulW (pe_fld (pv 0) rfl) (pe_fld (pv 1) rfl)) pa_nil)))), ?_⟩
    refine ⟨_, rfl, a, _, dx, _, _, rfl, ha, T.c_Ratio, T.a_Ratio_num, rf_num _ _, _, rfl, b, _, dy, _, _, rfl, hb, T.c_Ratio, T.a_Ratio_num, rf_num _ _, _, _, rfl, rfl, cm hjk zp.1 zq.1, ?_⟩
    refine ⟨_, rfl, a, _, dx, _, _, rfl, ha, T.c_Ratio, T.a_Ratio_den, rf_den _ _, _, rfl, b, _, dy, _, _, rfl, hb, T.c_Ratio, T.a_Ratio_den, rf_den _ _, _, _, rfl, rfl, cm hjk zp.2 zq.2, ?_⟩
    refine mk_ratio (den_nz p q) (den_sz zp zq (by omega)) fun v H' e r => k v H' e ?_
    rw [← mul_mk] at r
    exact r
def spEqR (K : PySem.W.Frag) : Sp := fun vs H Q _ => ∃ (x y : V) (p q : Rat), vs = [x, y] ∧ RatAt K H x p ∧ RatAt K H y q ∧ ∀ H', Same H H' → Q (.bl (decide (p = q))) H'
theorem eqv_pair (a b c d : Int) : PyData.eqv (.tuple [.int a, .int b]) (.tuple [.int c, .int d]) = decide (a = c ∧ b = d) := by
  simp only [PyData.eqv, PyData.eqvAll, Bool.and_true, Bool.decide_and]
  congr 1
theorem fn_Ratio_eq (T : Txt K mg) : Fn P w K mg base 1 (ma K (cR K) "__eq__") (spEqR K) := by
  refine fn_def T.d_Ratio_eq sc_Ratio_eq (fun _ _ _ _ _ _ us hl => match us, hl with | [_, _], _ => rfl) (fun vs H Q E h => ?_) (fun cdv A outer s H vs Q E hr h => ?_)
  · obtain ⟨x, y, p, q, rfl, _⟩ := h
    rfl
  · obtain ⟨x, y, p, q, rfl, ⟨a, dx, rfl, ha⟩, ⟨b, dy, rfl, hb⟩, k⟩ := h
    refine ⟨_, pss_one (ps_ret (pe_and (pe_callB call_isi (by rfl) T.f_isinstance (by decide +kernel) (pa_cons (pv 1) (pa_cons (pe_gr T.g_Ratio) pa_nil)))
      (pe_one (pe_cmpR (op_eqD hr.units) (pe_tup (pa_cons (pe_fld (pv 0) rfl) (pa_cons (pe_fld (pv 0) rfl) pa_nil))) (pe_tup (pa_cons (pe_fld (pv 1) rfl) (pa_cons (pe_fld (pv 1) rfl) pa_nil))) (nomark _))))), ?_⟩
    refine ⟨_, rfl, _, _, _, _, _, rfl, ClsV.own _, TyX.base (TyOf.ins hb T.c_Ratio T.oc_Ratio T.og T.ot T.om_Ratio), T.ki_Ratio_Ratio, true, rfl, iteT ?_⟩
    refine ⟨_, rfl, a, _, dx, _, _, rfl, ha, T.c_Ratio, T.a_Ratio_num, rf_num _ _, _, rfl, a, _, dx, _, _, rfl, ha, T.c_Ratio, T.a_Ratio_den, rf_den _ _, (by show 2 ≤ sizeLine; decide), fun t1 n1 => ?_⟩
    have hb1 : (upd H t1 (.tup [.int p.num, .int p.den])) b = _ := (upd_ne (ne_of_none hb n1)).trans hb
    refine ⟨_, rfl, b, _, dy, _, _, rfl, hb1, T.c_Ratio, T.a_Ratio_num, rf_num _ _, _, rfl, b, _, dy, _, _, rfl, hb1, T.c_Ratio, T.a_Ratio_den, rf_den _ _, (by show 2 ≤ sizeLine; decide), fun t2 n2 => ?_⟩
    have ht1 : upd (upd H t1 (.tup [.int p.num, .int p.den])) t2 (.tup [.int q.num, .int q.den]) t1 = some (.tup [.int p.num, .int p.den]) := (upd_ne (ne_of_none upd_same n2)).trans upd_same
    refine ⟨_, _, Dp.tup (SqT.of ht1) (.cons (.int _) (.cons (.int _) .nil)), Dp.tup (SqT.of upd_same) (.cons (.int _) (.cons (.int _) .nil)), rfl, rfl, ?_⟩
    rw [eqv_pair]
    have e : decide (p = q) = decide (p.num = q.num ∧ (p.den : Int) = q.den) := by
      have z : p = q ↔ (p.num = q.num ∧ (p.den : Int) = q.den) := ⟨fun h => by subst h; exact ⟨rfl, rfl⟩, fun h => Rat.ext h.1 (Int.ofNat.inj h.2)⟩
      simp only [z]
    rw [← e]
    exact k _ fun c o h => by rw [upd_ne (ne_of_none ((upd_ne (ne_of_none h n1)).trans h) n2), upd_ne (ne_of_none h n1)]; exact h
/-- what str writes -/
def ratStr (q : Rat) : Str := if q.den = 1 then Str.ofString (toString q.num) else Str.ofString (toString q.num) ++ Str.ofString "/" ++ Str.ofString (toString (q.den : Int))
theorem empty_cat (x : Str) : Str.empty ++ x = x := by
  obtain ⟨c⟩ := x
  show Str.mk (#[] ++ c) = ⟨c⟩
  simp
def spStrR (K : PySem.W.Frag) : Sp := fun vs H Q _ => ∃ (x : V) (p : Rat), vs = [x] ∧ RatAt K H x p ∧ Sz 1900 p ∧ Q (.str (ratStr p)) H
theorem log_lt {n k : Nat} (h : n < 2 ^ k) (hk : 0 < k) : n.log2 < k := PySem.Flt.log2_lt_of hk h
theorem fn_Ratio_str (T : Txt K mg) : Fn P w K mg base 1 (ma K (cR K) "__str__") (spStrR K) := by
  refine fn_def T.d_Ratio_str sc_Ratio_str (fun _ _ _ _ _ _ us hl => match us, hl with | [_], _ => rfl) (fun vs H Q E h => ?_) (fun cdv A outer s H vs Q E hr h => ?_)
  · obtain ⟨x, p, rfl, _⟩ := h
    rfl
  · obtain ⟨x, p, rfl, ⟨a, dx, rfl, ha⟩, zp, k⟩ := h
    refine ⟨_, pss_cons (ps_if (pt_cmpR op_eq (pe_fld (pv 0) rfl) pe_int (nomark _)) (pss_one (ps_ret (pe_callTy call_str_int (by rfl) T.f_str (by decide +kernel) (pa_cons (pe_fld (pv 0) rfl) pa_nil)))) pss_nil)
      (pss_one (ps_ret (pe_joined (PJ.cons (pe_fmt (pe_fld (pv 0) rfl)) (PJ.cons pe_str (PJ.cons (pe_fmt (pe_fld (pv 0) rfl)) .nil)))))), ?_⟩
    refine ⟨_, rfl, a, _, dx, _, _, rfl, ha, T.c_Ratio, T.a_Ratio_den, rf_den _ _, rfl, _, rfl, ite2 (fun c => ?_) fun c => ?_⟩
    · have c' : p.den = 1 := by
        have := of_decide_eq_true c
        simp only [V.int.injEq] at this
        omega
      have ek : ratStr p = Str.ofString (toString p.num) := by unfold ratStr; rw [if_pos c']
      rw [ek] at k
      exact ⟨_, rfl, a, _, dx, _, _, rfl, ha, T.c_Ratio, T.a_Ratio_num, rf_num _ _, _, rfl, log_lt (Nat.lt_of_lt_of_le zp.1 (Nat.pow_le_pow_right (by decide) (by decide))) (by decide), k⟩
    · have c' : ¬ p.den = 1 := fun z => c (decide_eq_true (by rw [z]; rfl))
      have ek : ratStr p = Str.ofString (toString p.num) ++ Str.ofString "/" ++ Str.ofString (toString (p.den : Int)) := by unfold ratStr; rw [if_neg c']
      have l1 : p.num.natAbs.log2 < 1920 := log_lt (Nat.lt_of_lt_of_le zp.1 (Nat.pow_le_pow_right (by decide) (by decide))) (by decide)
      have l2 : ((p.den : Int)).natAbs.log2 < 1920 := log_lt (by rw [Int.natAbs_natCast]; exact Nat.lt_of_lt_of_le zp.2 (Nat.pow_le_pow_right (by decide) (by decide))) (by decide)
      have z1 := int_text_len_1921 l1
      have z2 := int_text_len_1921 l2
      have sl : 100000 ≤ sizeLine := by decide
      have s1 : (Str.ofString "/").length = 1 := by decide +kernel
      rw [ek] at k
      refine ⟨_, rfl, a, _, dx, _, _, rfl, ha, T.c_Ratio, T.a_Ratio_num, rf_num _ _, .inr ⟨_, rfl, l1, _, rfl, ?_, _, rfl, ?_, _, rfl, a, _, dx, _, _, rfl, ha, T.c_Ratio, T.a_Ratio_den, rf_den _ _, .inr ⟨_, rfl, l2, _, rfl, ?_, ?_⟩⟩⟩
      · rw [empty_cat]; omega
      · rw [empty_cat, PySem.strLen_append]; omega
      · rw [empty_cat, PySem.strLen_append, PySem.strLen_append]; omega
      · rw [empty_cat]; exact k
end
end LL
namespace LL
open PySem PySem.Spec PyProof.Rows L2 He Evl
/-! ### readings in a world: the base B grows, of the rest only the cells ms change; W is what stays true -/
class Wld (ms : outParam (List Addr)) (W : Hp → Hp → Prop) : Prop where
  e : ∀ {B H : Hp}, W B H → Ex B H
  st : ∀ {B H B2 H2 : Hp}, W B H → Stp [] B H B2 H2 → W B2 H2
  ne : ∀ {B H : Hp} {a : Addr}, W B H → a ∈ ms → H a ≠ none
  put : ∀ {B H : Hp} {a : Addr} {o : HO}, W B H → B a = none → a ∉ ms → W B (upd H a o)
  keep : ∀ {B H : Hp} {a : Addr} {o : HO}, W B H → B a = none → H a = some o → a ∉ ms → W (upd B a o) H
/-- the plain world: nothing but the base -/
def W0 (B H : Hp) : Prop := Ex B H
instance : Wld [] W0 := ⟨fun h => h, fun _ s => s.in_, fun _ h => absurd h (List.not_mem_nil), fun h b _ => Ex.mut h b, fun h b z _ => (Stp.keep h z b).2⟩
section
variable {ms : List Addr} {W : Hp → Hp → Prop} [I : Wld ms W] {B H B2 H2 : Hp} {a : Addr} {o : HO}
include I
theorem Wld.cell (w : W B H) (n : H a = none) : W B (upd H a o) := I.put w (ex_none (I.e w) n) fun h => I.ne w h n
theorem Wld.off (w : W B H) (n : H a = none) : a ∉ ms := fun h => I.ne w h n
theorem Wld.ex (w : W B H) (x : Ex H H2) : Stp ms B H B H2 ∧ W B H2 := ⟨Stp.ofEx (I.e w) x, I.st w (Stp.ofEx (I.e w) x)⟩
theorem Wld.new (w : W B H) (n : H a = none) : Stp ms B H (upd B a o) (upd H a o) ∧ W (upd B a o) (upd H a o) := ⟨Stp.new (I.e w) n, I.st w (Stp.new (I.e w) n)⟩
omit I in
theorem adopt_stp (e : Ex B H) (x : Ex H H2) (n : H a = none) (h : H2 a = some o) : Stp ms B H (upd B a o) H2 := by
  have nb : B a = none := ex_none e n
  obtain ⟨k1, k2⟩ := Stp.keep (e.trans x) h nb
  exact ⟨k1, k2, fun b h1 h2 => by rw [upd_ne (fun z => by subst z; exact h2 n)]; exact h1, fun b u _ hb => x _ _ hb, fun b hb hz => by
    cases hh : H b with
    | none => exact hb hh
    | some u => rw [x _ _ hh] at hz; cases hz⟩
theorem Wld.adopt (w : W B H) (x : Ex H H2) (n : H a = none) (h : H2 a = some o) : Stp ms B H (upd B a o) H2 ∧ W (upd B a o) H2 := ⟨adopt_stp (I.e w) x n h, I.st w (adopt_stp (I.e w) x n h)⟩
theorem Wld.refl (w : W B H) : Stp ms B H B H := Stp.refl (I.e w)
end
def GW {α : Type} (ms : List Addr) (W : Hp → Hp → Prop) (k : Hp → (α → Hp → Prop) → Prop) (B : Hp) (R : α → Hp → Prop) : Prop :=
  ∀ B1 H1, Ex B B1 → W B1 H1 → ∀ Q : α → Hp → Prop, (∀ v B2 H2, Stp ms B1 H1 B2 H2 → W B2 H2 → R v B2 → Q v H2) → k H1 Q
section
variable {α β : Type} {ms : List Addr} {W : Hp → Hp → Prop} [I : Wld ms W] {B B' H : Hp} {R R' : α → Hp → Prop} {k : Hp → (α → Hp → Prop) → Prop}
theorem GW.mono (e : Ex B B') (h : GW ms W k B R) : GW ms W k B' R := fun B1 H1 x w Q q => h B1 H1 (e.trans x) w Q q
theorem GW.imp (h : GW ms W k B R) (f : ∀ v B1, Ex B B1 → R v B1 → R' v B1) : GW ms W k B R' := fun B1 H1 x w Q q => h B1 H1 x w Q fun v B2 H2 s w2 r => q v B2 H2 s w2 (f v B2 (x.trans s.base) r)
theorem GW.go (h : GW ms W k B R) (w : W B H) {Q : α → Hp → Prop} (q : ∀ v B2 H2, Stp ms B H B2 H2 → W B2 H2 → R v B2 → Q v H2) : k H Q := h B H (Ex.refl B) w Q q
theorem gw_pure {v : α} (h : ∀ B1, Ex B B1 → R v B1) : GW ms W (fun H Q => Q v H) B R := fun B1 H1 x w Q q => q v B1 H1 (Wld.refl (I := I) w) w (h B1 x)
theorem gw_bind {k2 : α → Hp → (β → Hp → Prop) → Prop} {S : β → Hp → Prop} (h : GW ms W k B R) (g : ∀ v B1, Ex B B1 → R v B1 → GW ms W (k2 v) B1 S) : GW ms W (fun H Q => k H fun v H1 => k2 v H1 Q) B S := fun B1 H1 x w Q q =>
  h B1 H1 x w _ fun v B2 H2 s w2 r => g v B2 (x.trans s.base) r B2 H2 (Ex.refl B2) w2 Q fun u B3 H3 s3 w3 z => q u B3 H3 (s.trans s3) w3 z
/-- a promise from a base, in any world -/
theorem gw_base (h : ∀ B1 H1, Ex B B1 → Ex B1 H1 → ∀ Q : α → Hp → Prop, (∀ v B2 H2, Stp [] B1 H1 B2 H2 → R v B2 → Q v H2) → k H1 Q) : GW ms W k B R := fun B1 H1 x w Q q =>
  h B1 H1 x (I.e w) Q fun v B2 H2 s r => q v B2 H2 s.nil (I.st w s) r
/-- a promise that leaves nothing new to be told -/
theorem gw_ex {v : α} (h : ∀ B1 H1, Ex B B1 → Ex B1 H1 → ∀ Q : α → Hp → Prop, (∀ H2, Ex H1 H2 → Q v H2) → k H1 Q) (r : ∀ B1, Ex B B1 → R v B1) : GW ms W k B R := fun B1 H1 x w Q q =>
  h B1 H1 x (I.e w) Q fun H2 x2 => q v B1 H2 (Wld.ex (I := I) w x2).1 (Wld.ex (I := I) w x2).2 (r B1 x)
end
section
variable {ms : List Addr} {W : Hp → Hp → Prop} [I : Wld ms W] {B : Hp} {σ : L2.St} {te ta tb : TE} {R R1 R2 : V → Hp → Prop} {v : V} {xs : List V} {i : Nat}
theorem gw_ev (h : Ev te σ B v) (r : ∀ B1, Ex B B1 → R v B1) : GW ms W (te σ) B R := gw_ex (fun B1 H1 x e Q q => h H1 (x.trans e) Q q) r
theorem gw_val (h : Ev te σ B v) : GW ms W (te σ) B (fun w _ => w = v) := gw_ev h fun _ _ => rfl
theorem gw_var (h : σ[i]? = some (some v)) (r : ∀ B1, Ex B B1 → R v B1) : GW ms W (tVar i σ) B R := gw_ev (ev_var h) r
theorem gw_c (r : ∀ B1, Ex B B1 → R v B1) : GW ms W (tC v σ) B R := gw_ev ev_c r
theorem gw_newL (r : ∀ B1 a, Ex B B1 → B1 a = some (.lst xs) → R (.ref a) B1) : GW ms W (fun H Q => ∀ l, H l = none → Q (.ref l) (upd H l (.lst xs))) B R := fun B1 H1 x w Q q l nl => by
  obtain ⟨s, w2⟩ := Wld.new (I := I) (o := .lst xs) w nl
  exact q _ _ _ s w2 (r _ l (x.trans s.base) upd_same)
theorem gw_newT (r : ∀ B1 a, Ex B B1 → B1 a = some (.tup xs) → R (.ref a) B1) : GW ms W (fun H Q => ∀ l, H l = none → Q (.ref l) (upd H l (.tup xs))) B R := fun B1 H1 x w Q q l nl => by
  obtain ⟨s, w2⟩ := Wld.new (I := I) (o := .tup xs) w nl
  exact q _ _ _ s w2 (r _ l (x.trans s.base) upd_same)
theorem gw_evL (h : EvL te σ B xs) (r : ∀ B1 a, Ex B B1 → B1 a = some (.lst xs) → R (.ref a) B1) : GW ms W (te σ) B R := fun B1 H1 x w Q q => h H1 (x.trans (I.e w)) Q fun a H2 na x2 ha => by
  obtain ⟨s, w2⟩ := Wld.adopt (I := I) w x2 na ha
  exact q _ _ H2 s w2 (r _ a (x.trans s.base) upd_same)
theorem gw_evU (h : EvU te σ B xs) (r : ∀ B1 a, Ex B B1 → B1 a = some (.tup xs) → R (.ref a) B1) : GW ms W (te σ) B R := fun B1 H1 x w Q q => h H1 (x.trans (I.e w)) Q fun a H2 na x2 ha => by
  obtain ⟨s, w2⟩ := Wld.adopt (I := I) w x2 na ha
  exact q _ _ H2 s w2 (r _ a (x.trans s.base) upd_same)
theorem gw_op {r : L2.R2} (h1 : GW ms W (ta σ) B R1) (h2 : ∀ x B1, Ex B B1 → R1 x B1 → GW ms W (tb σ) B1 (fun y B2 => GW ms W (r x y) B2 R)) : GW ms W (tOp r ta tb σ) B R :=
  gw_bind (k2 := fun x H Q => tb σ H fun y H2 => r x y H2 Q) h1 fun x B1 e1 r1 => gw_bind (k2 := fun y => r x y) (h2 x B1 e1 r1) fun _ _ _ z => z
theorem gw_rv {r : L2.R2} {x y z : V} (h : RV r x y B z) (k : ∀ B1, Ex B B1 → R z B1) : GW ms W (r x y) B R := gw_ex (fun B1 H1 e w Q q => h H1 (e.trans w) Q q) k
theorem gw_nil {R : List V → Hp → Prop} (h : ∀ B1, Ex B B1 → R [] B1) : GW ms W (tNil σ) B R := gw_pure h
theorem gw_cons {ta : TE} {tr : TA} {R : List V → Hp → Prop} (h1 : GW ms W (ta σ) B R1) (h2 : ∀ x B1, Ex B B1 → R1 x B1 → GW ms W (tr σ) B1 (fun vs B2 => R (x :: vs) B2)) : GW ms W (tCons ta tr σ) B R :=
  fun B1 H1 e w Q q => h1 B1 H1 e w _ fun x B2 H2 s2 w2 r1 => h2 x B2 (e.trans s2.base) r1 B2 H2 (Ex.refl _) w2 _ fun vs B3 H3 s3 w3 r => q _ B3 H3 (s2.trans s3) w3 r
theorem gw_c1 {tr : TA} {R : List V → Hp → Prop} (h1 : Ev ta σ B v) (h2 : GW ms W (tr σ) B (fun vs B2 => R (v :: vs) B2)) : GW ms W (tCons ta tr σ) B R :=
  gw_cons (gw_val h1) fun x B1 e1 r1 => by subst r1; exact h2.mono e1
theorem gw_fn {t : TA} {sp : Sp} {E : XK} {S : List V → Hp → Prop} (h : GW ms W (t σ) B S) (g : ∀ vs B1, Ex B B1 → S vs B1 → GW ms W (fun H Q => sp vs H Q E) B1 R) : GW ms W ((fun σ H Q => t σ H fun vs H1 => sp vs H1 Q E) σ) B R := gw_bind (k2 := fun vs H Q => sp vs H Q E) h g
theorem gw_cb {t : TA} {r : List V → Hp → VK → Prop} {S : List V → Hp → Prop} (h : GW ms W (t σ) B S) (g : ∀ vs B1, Ex B B1 → S vs B1 → GW ms W (r vs) B1 R) : GW ms W (tCB r t σ) B R := gw_bind (k2 := r) h g
theorem gw_tup {t : TA} {S : List V → Hp → Prop} (h : GW ms W (t σ) B S) (g : ∀ vs B1, Ex B B1 → S vs B1 → vs.length ≤ 100000 ∧ ∀ B2 a, Ex B1 B2 → B2 a = some (.tup vs) → R (.ref a) B2) : GW ms W (tTup t σ) B R :=
  gw_bind (β := V) (k2 := fun (xs : List V) H Q => xs.length ≤ sizeLine ∧ ∀ a, H a = none → Q (.ref a) (upd H a (.tup xs))) h fun vs B1 e1 r1 B2 H2 e2 w2 Q q => ⟨Evl.sz_of (g vs B1 e1 r1).1, gw_newT (fun B3 a e3 ha => (g vs B1 e1 r1).2 B3 a (e2.trans e3) ha) B2 H2 (Ex.refl _) w2 Q q⟩
theorem gw_lst {t : TA} {S : List V → Hp → Prop} (h : GW ms W (t σ) B S) (g : ∀ vs B1, Ex B B1 → S vs B1 → vs.length ≤ 100000 ∧ ∀ B2 a, Ex B1 B2 → B2 a = some (.lst vs) → R (.ref a) B2) : GW ms W (tLst t σ) B R :=
  gw_bind (β := V) (k2 := fun (xs : List V) H Q => xs.length ≤ sizeLine ∧ ∀ a, H a = none → Q (.ref a) (upd H a (.lst xs))) h fun vs B1 e1 r1 B2 H2 e2 w2 Q q => ⟨Evl.sz_of (g vs B1 e1 r1).1, gw_newL (fun B3 a e3 ha => (g vs B1 e1 r1).2 B3 a (e2.trans e3) ha) B2 H2 (Ex.refl _) w2 Q q⟩
/-! tests -/
theorem gw_test {R : Bool → Hp → Prop} (h : GW ms W (te σ) B (fun v B1 => ∃ b, v = .bl b ∧ R b B1)) : GW ms W (tTest te σ) B R := fun B1 H1 e w Q q => h B1 H1 e w _ fun v B2 H2 s w2 ⟨b, hv, r⟩ => ⟨b, hv, q b B2 H2 s w2 r⟩
theorem gw_tv {tt : TT} {b : Bool} {R : Bool → Hp → Prop} (h : EvT tt σ B b) (r : ∀ B1, Ex B B1 → R b B1) : GW ms W (tt σ) B R := gw_ex (fun B1 H1 x w Q q => h H1 (x.trans w) Q q) r
/-! statements -/
variable {D : Ends} {tu tw tz : TS} {H : Hp}
theorem gws_asg (w : W B H) (h : GW ms W (te σ) B R) (k : ∀ v B2 H2, Stp ms B H B2 H2 → W B2 H2 → R v B2 → D.nx (σ.set i (some v)) H2) : tAsg te (gName i) D σ H := h.go w k
theorem gwq_asg (w : W B H) (h : GW ms W (te σ) B R) (k : ∀ v B2 H2, Stp ms B H B2 H2 → W B2 H2 → R v B2 → tz D (σ.set i (some v)) H2) : tSeq (tAsg te (gName i)) tz D σ H := h.go w k
theorem gws_ret (w : W B H) (h : GW ms W (te σ) B R) (k : ∀ v B2 H2, Stp ms B H B2 H2 → W B2 H2 → R v B2 → D.rt v H2) : tRet te D σ H := h.go w k
theorem gws_if {tt : TT} {R : Bool → Hp → Prop} (w : W B H) (h : GW ms W (tt σ) B R) (h1 : ∀ B2 H2, Stp ms B H B2 H2 → W B2 H2 → R true B2 → tu D σ H2) (h2 : ∀ B2 H2, Stp ms B H B2 H2 → W B2 H2 → R false B2 → tw D σ H2) : tIfS tt tu tw D σ H :=
  h.go w fun b B2 H2 s w2 r => by
    cases b with
    | true => exact h1 B2 H2 s w2 r
    | false => exact h2 B2 H2 s w2 r
theorem gwq_if {tt : TT} {R : Bool → Hp → Prop} (w : W B H) (h : GW ms W (tt σ) B R) (h1 : ∀ B2 H2, Stp ms B H B2 H2 → W B2 H2 → R true B2 → tu { D with nx := tz D } σ H2) (h2 : ∀ B2 H2, Stp ms B H B2 H2 → W B2 H2 → R false B2 → tw { D with nx := tz D } σ H2) : tSeq (tIfS tt tu tw) tz D σ H := gws_if (D := { D with nx := tz D }) w h h1 h2
end
/-! ### comprehensions -/
section
variable {ms : List Addr} {W : Hp → Hp → Prop} [I : Wld ms W] {B : Hp} {σ : L2.St} {te tl : TE} {R R1 : V → Hp → Prop} {g : TG} {ws : List Nat}
/-- what the turns of a comprehension read: the value x at turn i gives a value of which Re i is true -/
structure LcE (ms : List Addr) (W : Hp → Hp → Prop) (g : TG) (te : TE) (ws : List Nat) (σ : L2.St) (B : Hp) (x : V) (Re : V → Hp → Prop) : Prop where
  go : ∃ σi : L2.St, wipe σi ws = wipe σ ws ∧ (∀ B2 H2, Ex B B2 → Ex B2 H2 → ∀ k : L2.St → Hp → Prop, k σi H2 → g x (wipe σ ws) H2 k) ∧ GW ms W (te σi) B Re
theorem LcE.name {j : Nat} {x : V} {Re : V → Hp → Prop} (hw : wipe ((wipe σ ws).set j (some x)) ws = wipe σ ws) (h : GW ms W (te ((wipe σ ws).set j (some x))) B Re) : LcE ms W (gName j) te ws σ B x Re :=
  ⟨_, hw, fun _ _ _ _ _ hk => hk, h⟩
theorem LcE.pair {K : PySem.W.Frag} {i j : Nat} {t : Addr} {u1 u2 : V} {Re : V → Hp → Prop} (ht : SqT K B t [u1, u2]) (hw : wipe (((wipe σ ws).set i (some u1)).set j (some u2)) ws = wipe σ ws) (h : GW ms W (te (((wipe σ ws).set i (some u1)).set j (some u2))) B Re) :
    LcE ms W (gTup K 2 (gCons (gName i) (gCons (gName j) gNil))) te ws σ B (.ref t) Re :=
  ⟨_, hw, fun _ _ e e' _ hk => ⟨t, _, rfl, ex_t e' (ex_t e ht), rfl, _, _, rfl, _, _, rfl, rfl, hk⟩, h⟩
/-- the comprehension's state -/
structure LcS (ms : List Addr) (W : Hp → Hp → Prop) (L : Addr) (B0 H0 : Hp) (Re : Nat → V → Hp → Prop) (i : Nat) (B' H' : Hp) (vs : List V) : Prop where
  st : Stp (L :: ms) B0 (upd H0 L (.lst [])) B' H'
  w : W B' H'
  hL : H' L = some (.lst vs)
  bL : B' L = none
  len : vs.length = i
  re : ∀ j v, vs[j]? = some v → Re j v B'
theorem LcS.zero {L : Addr} {B0 H0 : Hp} {Re : Nat → V → Hp → Prop} (w : W B0 H0) (nL : H0 L = none) : LcS ms W L B0 H0 Re 0 B0 (upd H0 L (.lst [])) [] :=
  ⟨Stp.refl (I.e (Wld.cell (I := I) w nL)), Wld.cell (I := I) w nL, upd_same, ex_none (I.e w) nL, rfl, fun _ _ h => by cases h⟩
theorem LcS.more {L : Addr} {B0 H0 B' H' B3 H3 : Hp} {Re : Nat → V → Hp → Prop} {i : Nat} {vs : List V} {v : V} (z : LcS ms W L B0 H0 Re i B' H' vs) (nL : L ∉ ms) (hm : ∀ i v B1 B2, Ex B1 B2 → Re i v B1 → Re i v B2) (s3 : Stp ms B' H' B3 H3) (w3 : W B3 H3) (rv : Re i v B3) :
    H3 L = some (.lst vs) ∧ LcS ms W L B0 H0 Re (i + 1) B3 (upd H3 L (.lst (vs ++ [v]))) (vs ++ [v]) := by
  have hL3 := s3.fr L _ nL z.hL
  have hB3 := s3.off z.bL z.hL
  have st3 : Stp (L :: ms) B0 (upd H0 L (.lst [])) B3 H3 := z.st.trans (s3.wk fun x hx => .tail _ hx)
  refine ⟨hL3, st3.trans (Stp.put (I.e w3) hB3 (.head _)), I.put w3 hB3 nL, upd_same, hB3, by rw [List.length_append, List.length_singleton, z.len], fun k u hk => ?_⟩
  by_cases c : k < vs.length
  · rw [List.getElem?_append_left c] at hk
    exact hm k u B' B3 s3.base (z.re k u hk)
  · rw [List.getElem?_append_right (by omega)] at hk
    have : k - vs.length = 0 := by
      cases hz : k - vs.length with
      | zero => rfl
      | succ m => rw [hz] at hk; cases hk
    rw [this] at hk
    cases hk
    have := z.len
    rw [show k = i by omega]
    exact rv
theorem LcS.done {L : Addr} {B0 H0 B' H' : Hp} {Re : Nat → V → Hp → Prop} {i : Nat} {vs : List V} (z : LcS ms W L B0 H0 Re i B' H' vs) (w : W B0 H0) (nL : H0 L = none) (hm : ∀ i v B1 B2, Ex B1 B2 → Re i v B1 → Re i v B2) :
    Stp ms B0 H0 (upd B' L (.lst vs)) H' ∧ W (upd B' L (.lst vs)) H' ∧ ∀ j v, vs[j]? = some v → Re j v (upd B' L (.lst vs)) := by
  have cl := Stp.close (I.e w) nL z.st z.hL
  exact ⟨cl, I.keep z.w z.bL z.hL (Wld.off (I := I) w nL), fun j v hv => hm j v _ _ (Ex.new z.bL) (z.re j v hv)⟩
/-- a comprehension over a walk that yields known values -/
theorem lc_world {J : L2.It} {n : Nat} {G : Hp → Prop} {xs : List V} (wk : Walk J n G (YAt xs)) (hn : n = xs.length) {B0 H0 : Hp} (w : W B0 H0) (hz : xs.length ≤ 100000) (hG : ∀ B' H', Ex B0 B' → Ex B' H' → G H')
    {Re : Nat → V → Hp → Prop} (hm : ∀ i v B1 B2, Ex B1 B2 → Re i v B1 → Re i v B2) (he : ∀ i x, xs[i]? = some x → ∀ B1, Ex B0 B1 → LcE ms W g te ws σ B1 x (Re i)) {D : Addr} (nD : H0 D = none) {Q : VK}
    (q : ∀ ys B2 H2, Stp ms B0 H0 B2 H2 → W B2 H2 → B2 D = some (.lst ys) → ys.length = xs.length → (∀ i y, ys[i]? = some y → Re i y B2) → Q (.ref D) H2) :
    ∃ Wt : Nat → Nat → Hp → Prop, (∃ m, Wt 0 m (upd H0 D (.lst []))) ∧ ∀ i m H, Wt i m H →
    (J.stop i H ∧ Q (.ref D) H) ∨ (J.go i H ∧ ∃ Nx : Hp → Prop, (∀ H', Nx H' → ∃ m', m' < m ∧ Wt (i + 1) m' H') ∧ ∀ x H', J.yld i H x H' → g x (wipe σ ws) H' fun σ2 H2 => wipe σ2 ws = wipe σ ws ∧ tYes σ2 H2 fun b H3 =>
        if b = true then te σ2 H3 fun y H4 => ∃ acc, H4 D = some (.lst acc) ∧ acc.length < sizeLine ∧ Nx (upd H4 D (.lst (acc ++ [y]))) else Nx H3) := by
  have hbig : (100000 : Nat) ≤ sizeLine := by decide
  have nL := Wld.off (I := I) w nD
  refine lc_it wk (fun i H' => ∃ B' vs, LcS ms W D B0 H0 Re i B' H' vs) ⟨B0, [], LcS.zero w nD⟩ (fun i H' _ z => ?_) (fun i x H' H'' hi z hy => ?_) (fun H' z => ?_)
  · obtain ⟨B', vs, z⟩ := z
    exact hG B' H' z.st.base (I.e z.w)
  · obtain ⟨B', vs, z⟩ := z
    obtain ⟨rfl, hx⟩ := hy
    obtain ⟨σi, h1, h2, h3⟩ := (he i x hx B' z.st.base).go
    refine h2 B' H'' (Ex.refl _) (I.e z.w) _ ⟨h1, yes_if ?_⟩
    refine h3 B' H'' (Ex.refl _) z.w _ fun v B3 H3 s3 w3 rv => ?_
    obtain ⟨a1, a2⟩ := z.more nL hm s3 w3 rv
    have hl := z.len
    exact ⟨vs, a1, by omega, B3, vs ++ [v], a2⟩
  · obtain ⟨B', vs, z⟩ := z
    obtain ⟨a1, a2, a3⟩ := z.done w nD hm
    exact q vs _ H' a1 a2 upd_same (by rw [z.len, hn]) a3
theorem gw_lcL {K : PySem.W.Frag} {Rl : V → Hp → Prop} (h : GW ms W (tl σ) B Rl)
    (f : ∀ v B1, Ex B B1 → Rl v B1 → ∃ a xs, ∃ Re : Nat → V → Hp → Prop, v = .ref a ∧ SqL K B1 a xs ∧ xs.length ≤ 100000 ∧ (∀ i v B1 B2, Ex B1 B2 → Re i v B1 → Re i v B2) ∧ (∀ i x, xs[i]? = some x → ∀ B2, Ex B1 B2 → LcE ms W g te ws σ B2 x (Re i)) ∧
      ∀ D ys B2, Ex B1 B2 → B2 D = some (.lst ys) → ys.length = xs.length → (∀ i y, ys[i]? = some y → Re i y B2) → R (.ref D) B2) : GW ms W (tLc (iList K tl) g tYes te ws σ) B R := fun B1 H1 e1 w1 Q q =>
  h B1 H1 e1 w1 _ fun v B2 H2 s2 w2 r => by
    obtain ⟨a, xs, Re, rfl, h1, h2, h3, h4, h5⟩ := f v B2 (e1.trans s2.base) r
    refine ⟨a, rfl, ⟨xs, ex_l (I.e w2) h1⟩, fun D nD => lc_world walk_list rfl w2 h2 (fun B' H' e e' => ex_l e' (ex_l e h1)) h3 h4 nD fun ys B3 H3 s3 w3 hD hl hre => ?_⟩
    exact q _ B3 H3 (s2.trans s3) w3 (h5 D ys B3 s3.base hD hl hre)
theorem gw_lcT {K : PySem.W.Frag} {Rl : V → Hp → Prop} (h : GW ms W (tl σ) B Rl)
    (f : ∀ v B1, Ex B B1 → Rl v B1 → ∃ a xs, ∃ Re : Nat → V → Hp → Prop, v = .ref a ∧ SqT K B1 a xs ∧ xs.length ≤ 100000 ∧ (∀ i v B1 B2, Ex B1 B2 → Re i v B1 → Re i v B2) ∧ (∀ i x, xs[i]? = some x → ∀ B2, Ex B1 B2 → LcE ms W g te ws σ B2 x (Re i)) ∧
      ∀ D ys B2, Ex B1 B2 → B2 D = some (.lst ys) → ys.length = xs.length → (∀ i y, ys[i]? = some y → Re i y B2) → R (.ref D) B2) : GW ms W (tLc (iTup K tl) g tYes te ws σ) B R := fun B1 H1 e1 w1 Q q =>
  h B1 H1 e1 w1 _ fun v B2 H2 s2 w2 r => by
    obtain ⟨a, xs, Re, rfl, h1, h2, h3, h4, h5⟩ := f v B2 (e1.trans s2.base) r
    refine ⟨a, rfl, ⟨xs, ex_t (I.e w2) h1⟩, fun D nD => lc_world walk_tup rfl w2 h2 (fun B' H' e e' => ex_t e' (ex_t e h1)) h3 h4 nD fun ys B3 H3 s3 w3 hD hl hre => ?_⟩
    exact q _ B3 H3 (s2.trans s3) w3 (h5 D ys B3 s3.base hD hl hre)
theorem gw_lcR {ta : TA} {Rn : Nat → Prop} {Re : Nat → V → Hp → Prop} (h : GW ms W (ta σ) B (fun vs _ => ∃ n : Nat, vs = [.int (n : Nat)] ∧ Rn n)) (hn : ∀ n, Rn n → n ≤ 100000) (hm : ∀ i v B1 B2, Ex B1 B2 → Re i v B1 → Re i v B2)
    (he : ∀ (n i : Nat) B1, Rn n → i < n → Ex B B1 → LcE ms W g te ws σ B1 (.int (i : Nat)) (Re i))
    (r : ∀ n D ys B1, Ex B B1 → Rn n → ys.length = n → B1 D = some (.lst ys) → (∀ i y, ys[i]? = some y → Re i y B1) → R (.ref D) B1) : GW ms W (tLc (iRng1 ta) g tYes te ws σ) B R := fun B1 H1 e1 w1 Q q =>
  h B1 H1 e1 w1 _ fun vs B2 H2 s2 w2 ⟨n, ev, rn⟩ => by
    have hb := hn n rn
    refine ⟨n, ev, by omega, by omega, fun D nD => ?_⟩
    have en : ((n : Nat) : Int).toNat = n := by omega
    rw [en]
    have wk : Walk (Itr 0 n) n (fun _ => True) (YAt ((List.range n).map fun i => V.int (i : Nat))) :=
      ⟨fun i H hi t => walk_range.goes i H hi t, fun H t => walk_range.stops H t, fun i H x H' hi t y => by
        obtain ⟨y1, y2⟩ := walk_range.yields i H x H' hi t y
        refine ⟨y1, ?_⟩
        rw [List.getElem?_map, List.getElem?_range hi, y2]
        show some (V.int (i : Nat)) = some (V.int (0 + (i : Nat)))
        rw [Int.zero_add]⟩
    refine lc_world (Re := Re) wk (by rw [List.length_map, List.length_range]) w2 (by rw [List.length_map, List.length_range]; exact hb) (fun _ _ _ _ => trivial) hm (fun i x hx B1' e' => ?_) nD fun ys B3 H3 s3 w3 hD hl hre => ?_
    · rw [List.getElem?_map] at hx
      obtain ⟨i', h1, rfl⟩ := Option.map_eq_some_iff.mp hx
      obtain ⟨hi, rfl⟩ := List.getElem?_eq_some_iff.mp h1
      rw [List.length_range] at hi
      rw [List.getElem_range]
      exact he n i B1' rn hi ((e1.trans s2.base).trans e')
    · rw [List.length_map, List.length_range] at hl
      exact q _ B3 H3 (s2.trans s3) w3 (r n D ys B3 (e1.trans (s2.base.trans s3.base)) rn hl hD hre)
end
end LL
namespace LL
open PySem PySem.Spec PyProof.Rows L2 He Evl
/-! ### Ratios that are made anew -/
section
variable {P : Program} {w : World} {K : PySem.W.Frag} {mg : Str → Option Value} {base : Heap}
theorem mk_ratioF {H : Hp} {n d : Int} {Q : VK} {E : XK} (hd : 0 < d) (hz : d.natAbs < 2 ^ 9000) (k : ∀ a H', H a = none → Ex H H' → RatAt K H' (.ref a) (mkRat n d.toNat) → Q (.ref a) H') :
    ∀ x dx, H x = none → H dx = none → dx ≠ x → spRI K [.ref x, .int n, .int d] (upd (upd H dx (.own x)) x (.ins (cR K) dx [])) (fun v H2 => v = .non ∧ Q (.ref x) H2) E := by
  intro x dx nx ndx ne
  refine ⟨x, dx, n, d, rfl, upd_same, fun h => by omega, fun _ => ⟨hz, rfl, ?_⟩⟩
  refine k _ _ nx (fun b o e => ?_) ⟨x, dx, rfl, ?_⟩
  · rw [upd_ne (ne_of_none e nx), upd_ne (ne_of_none e nx), upd_ne (ne_of_none e ndx)]
    exact e
  · exact upd_same
def spBF (K : PySem.W.Frag) (f : Rat → Rat → Rat) : Sp := fun vs H Q _ => ∃ (x y : V) (p q : Rat) (j k : Nat), vs = [x, y] ∧ RatAt K H x p ∧ RatAt K H y q ∧ (1 ≤ j ∧ 1 ≤ k ∧ j + k ≤ 9000) ∧ Sz j p ∧ Sz k q ∧ ∀ a H', H a = none → Ex H H' → RatAt K H' (.ref a) (f p q) → Q (.ref a) H'
theorem fn_Ratio_addF (T : Txt K mg) : Fn P w K mg base 3 (ma K (cR K) "__add__") (spBF K (· + ·)) := by
  obtain ⟨fd, F⟩ := T.d_Ratio_add
  have b := F.bindsN (ps := ["self", "other"]) fun _ _ _ _ _ _ us hl => match us, hl with | [_, _], _ => rfl
  refine (FnOk.raw (k := 3) (sp := spBF K (· + ·)) (F.ok sc_Ratio_add (fun vs H Q E h => ?_) (fun cdv A outer s H vs Q E hr h => ?_)) b (dvs := []) .nil).imp (fun vs H Q E h => by simpa using h)
  · obtain ⟨x, y, p, q, _, _, rfl, _⟩ := h
    rfl
  · obtain ⟨x, y, p, q, j0, k0, rfl, ⟨a, dx, rfl, ha⟩, ⟨b, dy, rfl, hb⟩, hjk, zp, zq, k⟩ := h
    refine ⟨_, pss_one (ps_ret (StX.pe_makeR T.m_Ratio (fn_RI2 T) hr rfl T.g_Ratio pc (pa_cons (pe_op op_add (pe_op op_mulW (pe_fld (pv 0) rfl) (pe_fld (pv 1) rfl)) (pe_op op_mulW (pe_fld (pv 1) rfl) (pe_fld (pv 0) rfl))) (pa_cons (pe_op op_mulW (pe_fld (pv 0) rfl) (pe_fld (pv 1) rfl)) pa_nil)))), ?_⟩
    refine ⟨_, rfl, a, _, dx, _, _, rfl, ha, T.c_Ratio, T.a_Ratio_num, rf_num _ _, _, rfl, b, _, dy, _, _, rfl, hb, T.c_Ratio, T.a_Ratio_den, rf_den _ _, _, _, rfl, rfl, cm hjk zp.1 zq.2, ?_⟩
    refine ⟨_, rfl, b, _, dy, _, _, rfl, hb, T.c_Ratio, T.a_Ratio_num, rf_num _ _, _, rfl, a, _, dx, _, _, rfl, ha, T.c_Ratio, T.a_Ratio_den, rf_den _ _, _, _, rfl, rfl, cm' hjk zq.1 zp.2, _, _, rfl, rfl, ?_⟩
    refine ⟨_, rfl, a, _, dx, _, _, rfl, ha, T.c_Ratio, T.a_Ratio_den, rf_den _ _, _, rfl, b, _, dy, _, _, rfl, hb, T.c_Ratio, T.a_Ratio_den, rf_den _ _, _, _, rfl, rfl, cm hjk zp.2 zq.2, ?_⟩
    refine mk_ratioF (den_nz p q) (den_sz zp zq (by omega)) fun a H' n e r => k a H' n e ?_
    rw [← add_mk] at r
    exact r
theorem fn_Ratio_subF (T : Txt K mg) : Fn P w K mg base 3 (ma K (cR K) "__sub__") (spBF K (· - ·)) := by
  refine fn_def T.d_Ratio_sub sc_Ratio_sub (fun _ _ _ _ _ _ us hl => match us, hl with | [_, _], _ => rfl) (fun vs H Q E h => ?_) (fun cdv A outer s H vs Q E hr h => ?_)
  · obtain ⟨x, y, p, q, _, _, rfl, _⟩ := h
    rfl
  · obtain ⟨x, y, p, q, j0, k0, rfl, ⟨a, dx, rfl, ha⟩, ⟨b, dy, rfl, hb⟩, hjk, zp, zq, k⟩ := h
    refine ⟨_, pss_one (ps_ret (StX.pe_makeR T.m_Ratio (fn_RI2 T) hr rfl T.g_Ratio pc (pa_cons (pe_op op_sub (pe_op op_mulW (pe_fld (pv 0) rfl) (pe_fld (pv 1) rfl)) (pe_op op_mulW (pe_fld (pv 1) rfl) (pe_fld (pv 0) rfl))) (pa_cons (pe_op op_mulW (pe_fld (pv 0) rfl) (pe_fld (pv 1) rfl)) pa_nil)))), ?_⟩
    refine ⟨_, rfl, a, _, dx, _, _, rfl, ha, T.c_Ratio, T.a_Ratio_num, rf_num _ _, _, rfl, b, _, dy, _, _, rfl, hb, T.c_Ratio, T.a_Ratio_den, rf_den _ _, _, _, rfl, rfl, cm hjk zp.1 zq.2, ?_⟩
    refine ⟨_, rfl, b, _, dy, _, _, rfl, hb, T.c_Ratio, T.a_Ratio_num, rf_num _ _, _, rfl, a, _, dx, _, _, rfl, ha, T.c_Ratio, T.a_Ratio_den, rf_den _ _, _, _, rfl, rfl, cm' hjk zq.1 zp.2, _, _, rfl, rfl, ?_⟩
    refine ⟨_, rfl, a, _, dx, _, _, rfl, ha, T.c_Ratio, T.a_Ratio_den, rf_den _ _, _, rfl, b, _, dy, _, _, rfl, hb, T.c_Ratio, T.a_Ratio_den, rf_den _ _, _, _, rfl, rfl, cm hjk zp.2 zq.2, ?_⟩
    refine mk_ratioF (den_nz p q) (den_sz zp zq (by omega)) fun a H' n e r => k a H' n e ?_
    rw [← sub_mk] at r
    exact r
theorem fn_Ratio_mulF (T : Txt K mg) : Fn P w K mg base 3 (ma K (cR K) "__mul__") (spBF K (· * ·)) := by
  refine fn_def T.d_Ratio_mul sc_Ratio_mul (fun _ _ _ _ _ _ us hl => match us, hl with | [_, _], _ => rfl) (fun vs H Q E h => ?_) (fun cdv A outer s H vs Q E hr h => ?_)
  · obtain ⟨x, y, p, q, _, _, rfl, _⟩ := h
    rfl
  · obtain ⟨x, y, p, q, j0, k0, rfl, ⟨a, dx, rfl, ha⟩, ⟨b, dy, rfl, hb⟩, hjk, zp, zq, k⟩ := h
    refine ⟨_, pss_one (ps_ret (StX.pe_makeR T.m_Ratio (fn_RI2 T) hr rfl T.g_Ratio pc (pa_cons (pe_op op_mulW (pe_fld (pv 0) rfl) (pe_fld (pv 1) rfl)) (pa_cons (pe_op op_mulW (pe_fld (pv 0) rfl) (pe_fld (pv 1) rfl)) pa_nil)))), ?_⟩
    refine ⟨_, rfl, a, _, dx, _, _, rfl, ha, T.c_Ratio, T.a_Ratio_num, rf_num _ _, _, rfl, b, _, dy, _, _, rfl, hb, T.c_Ratio, T.a_Ratio_num, rf_num _ _, _, _, rfl, rfl, cm hjk zp.1 zq.1, ?_⟩
    refine ⟨_, rfl, a, _, dx, _, _, rfl, ha, T.c_Ratio, T.a_Ratio_den, rf_den _ _, _, rfl, b, _, dy, _, _, rfl, hb, T.c_Ratio, T.a_Ratio_den, rf_den _ _, _, _, rfl, rfl, cm hjk zp.2 zq.2, ?_⟩
    refine mk_ratioF (den_nz p q) (den_sz zp zq (by omega)) fun a H' n e r => k a H' n e ?_
    rw [← mul_mk] at r
    exact r
/-- Ratio q, in the base -/
abbrev RQ (K : PySem.W.Frag) (q : Rat) : V → Hp → Prop := fun v B => RatAt K B v q
theorem ratAt_mono {K : PySem.W.Frag} {H H' : Hp} {v : V} {q : Rat} (e : Ex H H') (h : RatAt K H v q) : RatAt K H' v q := h.mono e
variable {ms : List Addr} {W : Hp → Hp → Prop} [I : Wld ms W] {B : Hp} {σ : L2.St} {te ta tb : TE} {E : XK}
/-- a Ratio that was found new goes into the base -/
theorem gw_newR {α : Type} {k : Hp → VK → Prop} {q : Rat} (h : ∀ B1 H1, Ex B B1 → Ex B1 H1 → ∀ Q : VK, (∀ a H', H1 a = none → Ex H1 H' → RatAt K H' (.ref a) q → Q (.ref a) H') → k H1 Q) : GW ms W k B (RQ K q) := fun B1 H1 x w Q qq =>
  h B1 H1 x (I.e w) Q fun a H' na x2 r => by
    obtain ⟨b, dx, e, hb⟩ := r
    cases e
    obtain ⟨s, w2⟩ := Wld.adopt (I := I) w x2 na hb
    exact qq _ _ H' s w2 ⟨a, dx, rfl, upd_same⟩
theorem gw_ratio1 {n : Int} (h : GW ms W (te σ) B (fun v _ => v = .int n)) : GW ms W (StX.tMakeR (cR K) (fun vs H Q E => spRI K (vs ++ [.int 1]) H Q E) E (tCons te tNil) σ) B (RQ K (n : Rat)) :=
  gw_bind (k2 := fun (v : V) H Q => ∀ x dx, H x = none → H dx = none → dx ≠ x → spRI K [.ref x, v, .int 1] (upd (upd H dx (.own x)) x (.ins (cR K) dx [])) (fun u H2 => u = .non ∧ Q (V.ref x) H2) E) h fun v B1 e1 r => by
    subst r
    refine gw_newR (α := Unit) fun B2 H2 e2 e3 Q q => mk_ratioF (n := n) (d := 1) (by decide) (by decide) fun a H' na x r => q a H' na x ?_
    rw [show mkRat n (1 : Int).toNat = (n : Rat) from Rat.mkRat_one n] at r
    exact r
theorem gw_ratio2 {n d : Int} (h : GW ms W (ta σ) B (fun v _ => v = .int n)) (h2 : ∀ B1, Ex B B1 → GW ms W (tb σ) B1 (fun v _ => v = .int d)) (hd : 0 < d) (hz : d.natAbs < 2 ^ 9000) : GW ms W (StX.tMakeR (cR K) (spRI K) E (tCons ta (tCons tb tNil)) σ) B (RQ K (mkRat n d.toNat)) :=
  gw_bind (k2 := fun (v : V) H Q => tb σ H fun u H3 => ∀ x dx, H3 x = none → H3 dx = none → dx ≠ x → spRI K [.ref x, v, u] (upd (upd H3 dx (.own x)) x (.ins (cR K) dx [])) (fun y H2 => y = .non ∧ Q (V.ref x) H2) E) h fun v B1 e1 r => by
    subst r
    refine gw_bind (k2 := fun (u : V) H Q => ∀ x dx, H x = none → H dx = none → dx ≠ x → spRI K [.ref x, .int n, u] (upd (upd H dx (.own x)) x (.ins (cR K) dx [])) (fun y H2 => y = .non ∧ Q (V.ref x) H2) E) (h2 B1 e1) fun u B2 e2 r2 => ?_
    subst r2
    exact gw_newR (α := Unit) fun B2 H2 e2 e3 Q q => mk_ratioF (n := n) (d := d) hd hz q
theorem gw_rop {f : Rat → Rat → Rat} {p q : Rat} {j k : Nat} (h1 : GW ms W (ta σ) B (RQ K p)) (h2 : ∀ B1, Ex B B1 → GW ms W (tb σ) B1 (RQ K q)) (hjk : 1 ≤ j ∧ 1 ≤ k ∧ j + k ≤ 9000) (hp : Sz j p) (hq : Sz k q) : GW ms W (tOp (rOwnB (cR K) (spBF K f) E) ta tb σ) B (RQ K (f p q)) :=
  gw_op h1 fun x B1 e1 r1 => (h2 B1 e1).imp fun y B2 e2 r2 => gw_newR (α := Unit) fun B3 H3 e3 e4 Q qq => by
    have a1 := (r1.mono e2).mono (e3.trans e4)
    have a2 := r2.mono (e3.trans e4)
    obtain ⟨a, dx, rfl, ha⟩ := id a1
    obtain ⟨b, dy, rfl, hb⟩ := id a2
    exact ⟨a, dx, _, b, dy, _, rfl, rfl, ha, hb, _, _, p, q, j, k, rfl, a1, a2, hjk, hp, hq, qq⟩
theorem gw_req {op : CmpOp} {p q : Rat} (h1 : GW ms W (ta σ) B (RQ K p)) (h2 : ∀ B1, Ex B B1 → GW ms W (tb σ) B1 (RQ K q)) : GW ms W (tOp (rOwnB (cR K) (spEqR K) E) ta tb σ) B (fun v _ => v = .bl (decide (p = q))) :=
  gw_op h1 fun x B1 e1 r1 => (h2 B1 e1).imp fun y B2 e2 r2 => gw_ex (fun B3 H3 e3 e4 Q qq => by
    have a1 := (r1.mono e2).mono (e3.trans e4)
    have a2 := r2.mono (e3.trans e4)
    obtain ⟨a, dx, rfl, ha⟩ := id a1
    obtain ⟨b, dy, rfl, hb⟩ := id a2
    exact ⟨a, dx, _, b, dy, _, rfl, rfl, ha, hb, _, _, p, q, rfl, a1, a2, fun H' e => qq H' e⟩) fun _ _ => rfl
end
end LL
/-! t * n of a tuple, n = 0 and 1 -/
namespace TM1
open PySem PySem.Spec PyProof.Rows L2
theorem tuple_mul1 (l : Addr) (items : Array Value) (n : Nat) (dd : Option Addr) (sl : Array (Option Value)) (u : Tok) :
    Meets (Builtin.«tuple.__mul__» ⟨[.ref l, .int 1 u], []⟩) (fun _ R s => s.heap.get? l = some { cls := .type "tuple", dict := dd, data := .seq items n, slots := sl } ∧ R (.ok (.ret (Value.ref l))) s) :=
  .of_wp fun prog w A R s h => by
    obtain ⟨hp, g, d, tk, os⟩ := s
    obtain ⟨hl, h⟩ := h
    have f1 := AutoSeq1.idx_int
    wp_walk using wpAny_loadPart' hl
    repeat (first
      | (refine wpAny_ite_false (decide_eq_false (by decide)) ?_; wp_walk using wpAny_loadPart' hl)
      | (refine wpAny_ite_true (decide_eq_true (by rw [show ((1 : Int) == 1) = true from rfl, Bool.or_true])) ?_; wp_walk using wpAny_loadPart' hl))
    exact ⟨_, rfl, h⟩
theorem tuple_mul0 (l : Addr) (items : Array Value) (n : Nat) (dd : Option Addr) (sl : Array (Option Value)) (u : Tok) (c1 : (items.isEmpty || (0 : Int) == 1) = false) :
    Meets (Builtin.«tuple.__mul__» ⟨[.ref l, .int 0 u], []⟩) (fun _ R s => s.heap.get? l = some { cls := .type "tuple", dict := dd, data := .seq items n, slots := sl } ∧ R (.ok (.ret (Value.ref s.heap.objs.size))) { s with heap := s.heap.push { cls := Value.type "tuple", data := Data.seq #[] }, toks := s.toks }) :=
  .of_wp fun prog w A R s h => by
    obtain ⟨hp, g, d, tk, os⟩ := s
    obtain ⟨hl, h⟩ := h
    have f1 := AutoSeq1.idx_int
    wp_walk using wpAny_loadPart' hl
    repeat (first
      | (refine wpAny_ite_false (decide_eq_false (by decide)) ?_; wp_walk using wpAny_loadPart' hl)
      | (refine wpAny_ite_false (decide_eq_false (by rw [c1]; exact Bool.false_ne_true)) ?_; wp_walk using wpAny_loadPart' hl)
      | (refine wpAny_ite_true (decide_eq_true (by rw [show decide ((0 : Int) ≤ 0) = true from rfl, Bool.true_or])) ?_; wp_walk using wpAny_loadPart' hl))
    exact ⟨_, rfl, h⟩
section
variable {X : Cx}
/-- t * n, n from 0 on, t not empty -/
def rRepA (K : PySem.W.Frag) : R2 := fun x y H Q => ∃ (l : Addr) (k : Nat) (xs : List V), x = .ref l ∧ y = .int (k : Nat) ∧ SqT K H l xs ∧ xs ≠ [] ∧ k ≤ 1000 ∧ xs.length ≤ 1000 ∧ (k = 1 → Q (.ref l) H) ∧ (k ≠ 1 → ∀ p, H p = none → Q (.ref p) (upd H p (.tup (List.replicate k xs).flatten)))
theorem op_repA : OpR X (binaryOp .Mult) (rRepA X.K) := by
  intro pins s σ H x y v u Q I rx ry h
  obtain ⟨l, k, xs, rfl, rfl, hT, hne, h2, hz, q1, q2⟩ := h
  by_cases hk : 2 ≤ k
  · refine op_repT pins s σ H _ _ v u Q I rx ry ⟨l, k, xs, rfl, rfl, hT, hne, by omega, by omega, hz, fun p np => ?_⟩
    exact q2 (by omega) p np
  cases rx
  obtain ⟨t, rfl⟩ := ry
  obtain ⟨its, r, ⟨⟨cls, dd, data, sl⟩, ho, hc, n, hd⟩, hs⟩ := I.tuple hT
  simp only at hc hd
  subst hc hd
  have hle : its.length = xs.length := r.length.symm
  have hn : its ≠ [] := fun e => hne (by
    rw [e] at hle
    exact List.eq_nil_of_length_eq_zero hle.symm)
  have hi : its.toArray.isEmpty = false := by
    cases its with
    | nil => exact absurd rfl hn
    | cons a b => rfl
  have hk2 : k = 0 ∨ k = 1 := by omega
  rcases hk2 with rfl | rfl
  · refine wpAny_binaryOp_repeat_ref (T := "tuple") (U := "int") (by decide) ⟨_, ho, rfl⟩ (fun s' => typeIs_int s' _ t) noFill_tuple_mul F.fills_int_mul F.slot_int_rmul repeat_tuple F.slot_int_index.lookup
      (call_meets F.slot_int_rmul (typeIs_int s _ t) F.entry_int_rmul (F.args_int_rmul_2 _ _) (int_rmul_tuple _ t l its.toArray n dd sl)
        ⟨ho, rfl, ⟨_, ho, rfl⟩, call_meets F.slot_tuple_mul ⟨_, ho, rfl⟩ F.entry_tuple_mul (F.args_tuple_mul_2 _ _) (tuple_mul0 l its.toArray n dd sl t (by rw [hi]; rfl)) ⟨ho, ?_⟩⟩)
    exact ⟨.ref s.heap.objs.size, _, I.laid (t' := s.toks) (o := .tup []) (fun b ob q => Heap.get?_push_of_some _ q) (Nat.le_refl _) ⟨Nat.zero_le _, [], .nil, IsTup.new _ _⟩, rfl, q2 (by omega) _ (I.hok.fresh (Nat.le_refl _))⟩
  · refine wpAny_binaryOp_repeat_ref (T := "tuple") (U := "int") (by decide) ⟨_, ho, rfl⟩ (fun s' => typeIs_int s' _ t) noFill_tuple_mul F.fills_int_mul F.slot_int_rmul repeat_tuple F.slot_int_index.lookup
      (call_meets F.slot_int_rmul (typeIs_int s _ t) F.entry_int_rmul (F.args_int_rmul_2 _ _) (int_rmul_tuple _ t l its.toArray n dd sl)
        ⟨ho, rfl, ⟨_, ho, rfl⟩, call_meets F.slot_tuple_mul ⟨_, ho, rfl⟩ F.entry_tuple_mul (F.args_tuple_mul_2 _ _) (tuple_mul1 l its.toArray n dd sl t) ⟨ho, ?_⟩⟩)
    exact ⟨.ref l, H, I, rfl, q1 rfl⟩
end
end TM1
namespace LL
open PySem PySem.Spec PyProof.Rows L2 He Evl
theorem paired_of {α β : Type} {R : α → β → Prop} : ∀ {xs : List α} {ys : List β}, xs.length = ys.length → (∀ (i : Nat) (x : α) (y : β), xs[i]? = some x → ys[i]? = some y → R x y) → Paired R xs ys
  | [], [], _, _ => .nil
  | [], _ :: _, h, _ => by cases h
  | _ :: _, [], h, _ => by cases h
  | x :: xs, y :: ys, h, f => .cons (f 0 x y rfl rfl) (paired_of (Nat.succ.inj h) fun i a b h1 h2 => f (i + 1) a b h1 h2)
theorem paired_app {α β : Type} {R : α → β → Prop} : ∀ {xs us : List α} {ys vs : List β}, Paired R xs ys → Paired R us vs → Paired R (xs ++ us) (ys ++ vs)
  | _, _, _, _, .nil, h => h
  | _, _, _, _, .cons h1 h2, h => .cons h1 (paired_app h2 h)
theorem op_catAK {X : Cx} (K : PySem.W.Frag) (h : X.K = K := by rfl) : OpR X (binaryOp .Add) (rCatA K) := by subst h; exact op_catA
theorem call_lenK {X : Cx} (K : PySem.W.Frag) (h : X.K = K := by rfl) : CallR X (.builtin "len") (fun xs H Q => ∃ p ys, xs = [V.ref p] ∧ (SqL K H p ys ∨ SqT K H p ys) ∧ Q (V.int ys.length) H) := by subst h; exact call_len_seq
section
variable {K : PySem.W.Frag} {ms : List Addr} {W : Hp → Hp → Prop} [I : Wld ms W] {B : Hp} {σ : L2.St} {te ta tb : TE} {E : XK} {R : V → Hp → Prop}
theorem ev_fldI {x C dx : Addr} {fs : List (Str × V)} {u : V} {f : Str} (h : Ev ta σ B (.ref x)) (hx : B x = some (.ins C dx fs)) (c : Cls K C) (n : NoAttr K C f) (l : fs.lookup f = some u) : Ev (tFld K ta f) σ B u := fun H1 e Q q =>
  h H1 e _ fun H2 e2 => ⟨x, C, dx, fs, u, rfl, e2 _ _ (e _ _ hx), c, n, l, q H2 e2⟩
theorem ev_ixT {a : Addr} {xs : List V} {i : Int} {u : V} (h : Ev ta σ B (.ref a)) (hi : Ev tb σ B (.int i)) (ha : SqT K B a xs) (l : atI xs i = some u) : Ev (tOp (rIxT K) ta tb) σ B u := fun H1 e Q q =>
  h H1 e _ fun H2 e2 => hi H2 (e.trans e2) _ fun H3 e3 => ⟨a, xs, i, u, rfl, rfl, ex_t (e.trans (e2.trans e3)) ha, l, q H3 (e2.trans e3)⟩
theorem ev_ixL {a : Addr} {xs : List V} {i : Int} {u : V} (h : Ev ta σ B (.ref a)) (hi : Ev tb σ B (.int i)) (ha : SqL K B a xs) (l : atI xs i = some u) : Ev (tOp (rIxL K) ta tb) σ B u := fun H1 e Q q =>
  h H1 e _ fun H2 e2 => hi H2 (e.trans e2) _ fun H3 e3 => ⟨a, xs, i, u, rfl, rfl, ex_l (e.trans (e2.trans e3)) ha, l, q H3 (e2.trans e3)⟩
theorem ev_intB {b : Bool} (h : Ev ta σ B (.bl b)) : Ev (tCB (fun xs H Q => (∃ i : Int, xs = [.int i] ∧ Q (.int i) H) ∨ ∃ k, xs = [.bl k] ∧ Q (.int (if k = true then 1 else 0)) H) (tCons ta tNil)) σ B (.int (if b = true then 1 else 0)) := fun H1 e Q q =>
  h H1 e _ fun H2 e2 => .inr ⟨b, rfl, q H2 e2⟩
theorem gw_ixT {xs : List V} {i : Int} {u : V} (h1 : GW ms W (ta σ) B (fun v B' => ∃ a, v = .ref a ∧ SqT K B' a xs)) (h2 : ∀ B1, Ex B B1 → GW ms W (tb σ) B1 (fun v _ => v = .int i)) (l : atI xs i = some u) : GW ms W (tOp (rIxT K) ta tb σ) B (fun v _ => v = u) :=
  gw_op h1 fun x B1 e1 ⟨a, hx, ha⟩ => (h2 B1 e1).imp fun y B2 e2 hy => by
    subst hx hy
    exact gw_ex (fun B3 H3 e3 w Q q => ⟨a, xs, i, u, rfl, rfl, ex_t ((e2.trans e3).trans w) ha, l, q H3 (Ex.refl _)⟩) fun _ _ => rfl
theorem gws_when {tt : TT} {D : Ends} {tu : TS} {H : Hp} {R : Bool → Hp → Prop} (w : W B H) (h : GW ms W (tt σ) B R) (h1 : ∀ B2 H2, Stp ms B H B2 H2 → W B2 H2 → R true B2 → tu D σ H2) (h2 : ∀ B2 H2, Stp ms B H B2 H2 → W B2 H2 → R false B2 → D.nx σ H2) : tIfS tt tu tNext D σ H := gws_if w h h1 h2
theorem gwq_when {tt : TT} {D : Ends} {tu tz : TS} {H : Hp} {R : Bool → Hp → Prop} (w : W B H) (h : GW ms W (tt σ) B R) (h1 : ∀ B2 H2, Stp ms B H B2 H2 → W B2 H2 → R true B2 → tu { D with nx := tz D } σ H2) (h2 : ∀ B2 H2, Stp ms B H B2 H2 → W B2 H2 → R false B2 → tz D σ H2) : tSeq (tIfS tt tu tNext) tz D σ H := gws_if (D := { D with nx := tz D }) w h h1 h2
theorem gw_meth {C : Addr} {m : Str} {sp : Sp} {t : TA} {R1 : V → Hp → Prop} (h : GW ms W (ta σ) B R1) (f : ∀ v B1, Ex B B1 → R1 v B1 → (∃ a dx fs, v = .ref a ∧ B1 a = some (.ins C dx fs) ∧ fs.lookup m = Option.none) ∧ GW ms W (t σ) B1 (fun vs B2 => GW ms W (fun H Q => sp (v :: vs) H Q E) B2 R)) :
    GW ms W (tMethR C m sp E ta t σ) B R := fun B1 H1 e1 w1 Q q =>
  h B1 H1 e1 w1 _ fun v B2 H2 s2 w2 r => by
    obtain ⟨⟨a, dx, fs, rfl, h1, h2⟩, g⟩ := f v B2 (e1.trans s2.base) r
    refine ⟨a, dx, fs, rfl, I.e w2 _ _ h1, h2, ?_⟩
    exact g B2 H2 (Ex.refl _) w2 _ fun vs B3 H3 s3 w3 g2 => g2 B3 H3 (Ex.refl _) w3 Q fun v B4 H4 s4 w4 r4 => q v B4 H4 (s2.trans (s3.trans s4)) w4 r4
/-- the same Ratio n times -/
theorem rats_repM {H : Hp} {v : V} {q : Rat} (h : RatAt K H v q) : ∀ n : Nat, Paired (fun v q => RatAt K H v q) (List.replicate n v) (List.replicate n q)
  | 0 => .nil
  | n + 1 => .cons h (rats_repM h n)
theorem rep_oneM {α : Type} (v : α) : ∀ n : Nat, (List.replicate n [v]).flatten = List.replicate n v
  | 0 => rfl
  | n + 1 => by rw [List.replicate_succ, List.flatten_cons, rep_oneM v n, List.replicate_succ]; rfl
theorem gw_rep1 {n : Nat} {q : Rat} (h : GW ms W (te σ) B (RQ K q)) (hn : ∀ B1, Ex B B1 → GW ms W (tb σ) B1 (fun v _ => v = .int (n : Nat))) (hz : n ≤ 1000) :
    GW ms W (tOp (TM1.rRepA K) (tTup (tCons te tNil)) tb σ) B (fun v B' => ∃ a vs, v = .ref a ∧ SqT K B' a vs ∧ Paired (fun v q => RatAt K B' v q) vs (List.replicate n q)) := by
  refine gw_op (R1 := fun v B' => ∃ a y, v = .ref a ∧ SqT K B' a [y] ∧ RatAt K B' y q) ?_ fun x2 B3 e3 ⟨a4, y4, hx2, h41, h42⟩ => ?_
  · refine gw_tup (S := fun vs B' => ∃ y, vs = [y] ∧ RatAt K B' y q) (gw_cons h fun x B2 e2 r => gw_nil fun B3 e3 => ⟨x, rfl, ratAt_mono e3 r⟩) fun vs B2 e2 ⟨y, hy, hr⟩ => ?_
    subst hy
    exact ⟨(show 1 ≤ 100000 by decide), fun B3 a e3 ha => ⟨a, y, rfl, st_of ha, ratAt_mono e3 hr⟩⟩
  · subst hx2
    refine (hn B3 e3).imp fun y B4 e4 hy => ?_
    subst hy
    intro B5 H5 e5 w5 Q5 q5
    have x5 := e4.trans e5
    refine ⟨a4, n, [y4], rfl, rfl, ex_t (x5.trans (I.e w5)) h41, List.cons_ne_nil _ _, hz, (show 1 ≤ 1000 by decide), fun h1 => ?_, fun h1 p np => ?_⟩
    · exact q5 _ _ _ (Wld.refl (I := I) w5) w5 ⟨a4, [y4], rfl, ex_t x5 h41, by rw [h1]; exact .cons (ratAt_mono x5 h42) .nil⟩
    · rw [rep_oneM]
      obtain ⟨s6, w6⟩ := Wld.new (I := I) (o := .tup (List.replicate n y4)) w5 np
      exact q5 _ _ _ s6 w6 ⟨p, _, rfl, st_of upd_same, rats_repM (ratAt_mono (x5.trans s6.base) h42) _⟩
end
end LL
namespace LL
open PySem PySem.Spec PyProof.Rows L2 He Evl ND
abbrev Evt := Str × List Nat
def evK (e : Evt) : NestedKey := .tup (.text e.1 :: e.2.map fun n => .num (n : Nat))
def viewK (v : List Evt) : NestedKey := .tup (v.map evK)
section
variable {K : PySem.W.Frag}
/-! ### keys of views in the heap -/
theorem dp_tupK {H : Hp} {v : V} {ds : List PyData} (h : Dp K H v (.tuple ds)) : ∃ a vs, v = .ref a ∧ SqT K H a vs ∧ DpAll K H vs ds := by
  cases h with
  | tup h1 h2 => exact ⟨_, _, rfl, h1, h2⟩
def evV (e : Evt) : List V := .str e.1 :: e.2.map fun n => .int (n : Nat)
def EvAt (K : PySem.W.Frag) (H : Hp) (x : V) (e : Evt) : Prop := ∃ a, x = .ref a ∧ SqT K H a (evV e)
theorem dpa_nums {H : Hp} : ∀ (ns : List Nat) (vs : List V), DpAll K H vs (NestedKey.datas (ns.map fun n => .num (n : Nat))) ↔ vs = ns.map fun n => .int (n : Nat)
  | [], vs => by
    rw [List.map_nil, NestedKey.datas]
    exact ⟨fun h => by cases h; rfl, fun h => by rw [h]; exact .nil⟩
  | n :: ns, vs => by
    rw [List.map_cons, NestedKey.datas, NestedKey.data]
    constructor
    · intro h
      cases h with
      | cons h1 h2 =>
        cases h1
        rw [(dpa_nums ns _).mp h2]
        rfl
    · intro h
      rw [h]
      exact .cons (.int _) ((dpa_nums ns _).mpr rfl)
theorem ev_dp {H : Hp} {x : V} {e : Evt} : Dp K H x (evK e).data ↔ EvAt K H x e := by
  unfold evK EvAt evV
  rw [NestedKey.data, NestedKey.datas, NestedKey.data]
  constructor
  · intro h
    obtain ⟨a, vs, rfl, h1, h2⟩ := dp_tupK h
    cases h2 with
    | cons h3 h4 =>
      cases h3
      rw [(dpa_nums _ _).mp h4] at h1
      exact ⟨a, rfl, h1⟩
  · rintro ⟨a, rfl, h⟩
    exact Dp.tup h (.cons (.str _) ((dpa_nums _ _).mpr rfl))
theorem evs_dp {H : Hp} : ∀ {xs : List V} {v : List Evt}, DpAll K H xs (NestedKey.datas (v.map evK)) ↔ Paired (EvAt K H) xs v
  | xs, [] => by
    rw [List.map_nil, NestedKey.datas]
    exact ⟨fun h => by cases h; exact .nil, fun h => by cases h; exact .nil⟩
  | xs, e :: v => by
    rw [List.map_cons, NestedKey.datas]
    constructor
    · intro h
      cases h with
      | cons h1 h2 => exact .cons (ev_dp.mp h1) (evs_dp.mp h2)
    · intro h
      cases h with
      | cons h1 h2 => exact .cons (ev_dp.mpr h1) (evs_dp.mpr h2)
theorem key_view {H : Hp} {b : Addr} {v : List Evt} (h : KeyAt K H b (viewK v)) : ∃ xs, SqT K H b xs ∧ Paired (EvAt K H) xs v := by
  have h := h.2.2
  unfold viewK at h
  rw [NestedKey.data] at h
  obtain ⟨a, xs, e, h1, h2⟩ := dp_tupK h
  cases e
  exact ⟨xs, h1, evs_dp.mp h2⟩
theorem depths_num : ∀ ns : List Nat, NestedKey.depthAll (ns.map fun n => .num (n : Nat)) ≤ 1
  | [] => by rw [List.map_nil, NestedKey.depthAll]; omega
  | n :: ns => by
    have := depths_num ns
    rw [List.map_cons, NestedKey.depthAll, NestedKey.depth]
    omega
theorem depth_ev (e : Evt) : (evK e).depth ≤ 4 := by
  have := depths_num e.2
  unfold evK
  rw [NestedKey.depth, NestedKey.depthAll, NestedKey.depth]
  omega
theorem depths_ev : ∀ v : List Evt, NestedKey.depthAll (v.map evK) ≤ 5
  | [] => by rw [List.map_nil, NestedKey.depthAll]; omega
  | e :: v => by
    have h1 := depth_ev e
    have h2 := depths_ev v
    rw [List.map_cons, NestedKey.depthAll]
    omega
theorem view_key {H : Hp} {b : Addr} {v : List Evt} {xs : List V} (h : SqT K H b xs) (hp : Paired (EvAt K H) xs v) : KeyAt K H b (viewK v) := by
  refine ⟨⟨_, rfl⟩, ?_, ?_⟩
  · have := depths_ev v
    unfold viewK
    rw [NestedKey.depth]
    omega
  · unfold viewK
    rw [NestedKey.data]
    exact Dp.tup h (evs_dp.mpr hp)
theorem EvAt.mono {H H' : Hp} {x : V} {e : Evt} (h : EvAt K H x e) (x' : Ex H H') : EvAt K H' x e := by
  obtain ⟨a, h1, h2⟩ := h
  exact ⟨a, h1, ex_t x' h2⟩
end
theorem datas_nums : ∀ ns : List Nat, NestedKey.datas (ns.map fun n => .num (n : Nat)) = ns.map fun n => PyData.int (n : Nat)
  | [] => rfl
  | n :: ns => by rw [List.map_cons, NestedKey.datas, NestedKey.data, datas_nums ns]; rfl
def evD (e : Evt) : PyData := .tuple (.str e.1 :: e.2.map fun n => .int (n : Nat))
theorem ev_data (e : Evt) : (evK e).data = evD e := by
  unfold evK evD
  rw [NestedKey.data, NestedKey.datas, NestedKey.data, datas_nums]
def viewD (v : List Evt) : PyData := .tuple (v.map evD)
theorem datas_evs : ∀ v : List Evt, NestedKey.datas (v.map evK) = v.map evD
  | [] => rfl
  | e :: v => by rw [List.map_cons, NestedKey.datas, ev_data, datas_evs v]; rfl
theorem view_data (v : List Evt) : (viewK v).data = viewD v := by
  unfold viewK viewD
  rw [NestedKey.data, datas_evs]
theorem eqv_nums : ∀ ns ms : List Nat, PyData.eqvAll (ns.map fun n => .int (n : Nat)) (ms.map fun n => .int (n : Nat)) = decide (ns = ms)
  | [], [] => by simp [PyData.eqvAll]
  | [], _ :: _ => by simp [PyData.eqvAll]
  | _ :: _, [] => by simp [PyData.eqvAll]
  | n :: ns, m :: ms => by
    rw [List.map_cons, List.map_cons, PyData.eqvAll, eqv_nums ns ms, PyData.eqv]
    by_cases h : n = m
    · subst h; simp
    · have : ((n : Int) == (m : Int)) = false := by simpa using (fun z : (n : Int) = m => h (by omega))
      rw [this, Bool.false_and, decide_eq_false fun z => h (List.cons.inj z).1]
theorem eqv_ev (e f : Evt) : PyData.eqv (evD e) (evD f) = decide (e = f) := by
  obtain ⟨x, ns⟩ := e
  obtain ⟨y, ms⟩ := f
  unfold evD
  rw [PyData.eqv, PyData.eqvAll, PyData.eqv, eqv_nums]
  by_cases h : x = y
  · subst h; simp
  · have : (x == y) = false := by simpa using h
    rw [this, Bool.false_and, decide_eq_false fun z => h (Prod.ext_iff.mp z).1]
theorem eqv_evs : ∀ v u : List Evt, PyData.eqvAll (v.map evD) (u.map evD) = decide (v = u)
  | [], [] => by simp [PyData.eqvAll]
  | [], _ :: _ => by simp [PyData.eqvAll]
  | _ :: _, [] => by simp [PyData.eqvAll]
  | e :: v, f :: u => by
    rw [List.map_cons, List.map_cons, PyData.eqvAll, eqv_ev, eqv_evs v u]
    by_cases h : e = f
    · subst h; simp
    · rw [decide_eq_false h, Bool.false_and, decide_eq_false fun z => h (List.cons.inj z).1]
theorem eqv_view (v u : List Evt) : PyData.eqv (viewD v) (viewD u) = decide (v = u) := by
  unfold viewD
  rw [PyData.eqv, eqv_evs]
theorem viewK_inj {v u : List Evt} (h : viewK v = viewK u) : v = u := by
  have e := congrArg NestedKey.data h
  rw [view_data, view_data] at e
  have := eqv_evs v u
  rw [(PyData.tuple.inj e)] at this
  have r := eqv_evs u u
  rw [r, decide_eq_true rfl] at this
  exact of_decide_eq_true this.symm
end LL
namespace LL
open PySem PySem.Spec PyProof.Rows L2 He Evl ND
/-! ### a node -/
theorem at0 {x : V} {r : List V} : atI (x :: r) 0 = some x := by
  have h := ixN_nat (n := (x :: r).length) (j := 0) (Nat.succ_pos _)
  unfold atI
  rw [show ((0 : Int)) = ((0 : Nat) : Int) from rfl, h]
  rfl
section



end
end LL
namespace LL
open PySem PySem.Spec PyProof.Rows L2 He Evl ND
/-! ### views_of -/
abbrev VN := List Evt × Nat
section
variable {w : World} {K : PySem.W.Frag} {mg : Str → Option Value} {base : Heap}
def VkAt (K : PySem.W.Frag) (H : Hp) (kvs : List NE) (acc : List VN) : Prop := Paired (fun (e : NE) (p : VN) => e.1 = viewK p.1 ∧ e.2.2 = .int (p.2 : Nat) ∧ KeyAt K H e.2.1 e.1) kvs acc
theorem VkAt.ks {H : Hp} : ∀ {kvs : List NE} {acc : List VN}, VkAt K H kvs acc → KsAt K H kvs
  | _, _, .nil => fun _ h => nomatch h
  | _, _, .cons h t => fun e he => by
    rcases List.mem_cons.mp he with rfl | he
    · exact h.2.2
    · exact VkAt.ks t e he
theorem key_mono {H H' : Hp} {b : Addr} {k : NestedKey} (h : KeyAt K H b k) (e : Ex H H') : KeyAt K H' b k := ⟨h.1, h.2.1, dp_mono e h.2.2⟩
theorem VkAt.mono {H H' : Hp} {kvs : List NE} {acc : List VN} (h : VkAt K H kvs acc) (e : Ex H H') : VkAt K H' kvs acc := L2.Paired.mapP h fun _ _ z => ⟨z.1, z.2.1, key_mono z.2.2 e⟩
/-- the pairs of a list of views -/
def PvAt (K : PySem.W.Frag) (H : Hp) (Ts : List V) (acc : List VN) : Prop := Paired (fun (x : V) (p : VN) => ∃ T b, x = .ref T ∧ H T = some (.tup [.ref b, .int (p.2 : Nat)]) ∧ KeyAt K H b (viewK p.1)) Ts acc
end
end LL
/-! != of two lists whose items are the same, or equal -/
namespace NQ
open PySem PySem.SeqAt PySem.W PyProof.Rows
open AutoSeq1 (wpAny_loadPart')
open MeetsSeq MeetsSeq2 MeetsSeq3 SeqRoads2
section
variable {prog : Program} {w : World}
theorem ne_go (p q : Addr) (xs ys : Array Value) (m m2 : Nat) (dx dy : Option Addr) (sx sy : Array (Option Value)) (hs : xs.size = ys.size) : ∀ k i : Nat, xs.size - i = k →
    MeetsIn prog w (Builtin.«list.__eq__.loop» ⟨[.ref p, .ref q, rawInt i, rawInt 3], []⟩) fun A R s =>
      s.heap.get? p = some { cls := .type "list", dict := dx, data := .seq xs m, slots := sx } ∧ s.heap.get? q = some { cls := .type "list", dict := dy, data := .seq ys m2, slots := sy } ∧
      (∀ j (h1 : j < xs.size) (h2 : j < ys.size), EqIn prog w A.in1 s xs[j] ys[j] true) ∧ R (.ok (.ret (.bool false))) s
  | 0, i, hk => fun A R ⟨hp, g, d, tk, os⟩ ⟨h1, h2, he, h⟩ => by
    have n1 : xs[((i : Nat) : Int).toNat]? = none := Array.getElem?_eq_none (by show xs.size ≤ i; omega)
    have n2 : ys[((i : Nat) : Int).toNat]? = none := Array.getElem?_eq_none (by show ys.size ≤ i; omega)
    wp_walk using wpAny_loadPart' h1, wpAny_loadPart' h2
    rw [n1, n2]
    wp_walk using wpAny_loadPart' h1, wpAny_loadPart' h2
    show R (.ok (.ret (.bool (xs.size != ys.size)))) _
    rw [hs, bne_self_eq_false]
    exact h
  | k + 1, i, hk => fun A R ⟨hp, g, d, tk, os⟩ ⟨h1, h2, he, h⟩ => by
    have l1 : i < xs.size := by omega
    have l2 : i < ys.size := by omega
    have n1 : xs[((i : Nat) : Int).toNat]? = some xs[i] := Array.getElem?_eq_getElem l1
    have n2 : ys[((i : Nat) : Int).toNat]? = some ys[i] := Array.getElem?_eq_getElem l2
    wp_walk using wpAny_loadPart' h1, wpAny_loadPart' h2
    rw [n1, n2]
    refine wpAny_bind (he i l1 l2 _ _ ?_)
    wp_walk
    rw [show ((i : Int) + 1) = ((i + 1 : Nat) : Int) from rfl]
    refine ⟨plainId_quiet plain_eq_loop _, codeAny_builtin entry_eq_loop ?_⟩
    rw [Around.under_plainId plain_eq_loop _]
    exact ne_go p q xs ys m m2 dx dy sx sy hs k (i + 1) (by omega) A R _ ⟨h1, h2, he, h⟩
theorem ne_lists {A : Around} {E : Value → Shared → Prop} {s : Shared} {p q : Addr} {xs ys : Array Value} {Q : Value → Shared → Prop} (hp : s.heap.IsList p xs) (hq : s.heap.IsList q ys) (hs : xs.size = ys.size) (hu : A.units < cLine)
    (he : ∀ j (h1 : j < xs.size) (h2 : j < ys.size), EqIn prog w A.in1 s xs[j] ys[j] true) (h : Q (.bool false) s) : wpAny (model prog w) A (richCompare .NotEq (.ref p) (.ref q)) Q E s := by
  obtain ⟨⟨c1, d1, t1, s1⟩, o1, e1, m1, f1⟩ := id hp
  obtain ⟨⟨c2, d2, t2, s2⟩, o2, e2, m2, f2⟩ := id hq
  cases e1; cases e2; cases f1; cases f2
  have body : MeetsIn prog w (Builtin.«list.__ne__» ⟨[.ref p, .ref q], []⟩) fun A R s => s.heap.get? p = some { cls := .type "list", dict := d1, data := .seq xs m1, slots := s1 } ∧ s.heap.get? q = some { cls := .type "list", dict := d2, data := .seq ys m2, slots := s2 } ∧
      (∀ j (h1 : j < xs.size) (h2 : j < ys.size), EqIn prog w A.in1 s xs[j] ys[j] true) ∧ R (.ok (.ret (.bool false))) s := fun A R ⟨hp, g, d, tk, os⟩ ⟨h1, h2, he, h⟩ => by
    have f3 := AutoSeq1.sub_list_list
    have hne : ¬ (xs.size != ys.size) = true := by rw [hs, bne_self_eq_false]; decide
    wp_walk using wpAny_loadPart' h1, wpAny_loadPart' h2
    refine ⟨plainId_quiet plain_eq_loop _, codeAny_builtin entry_eq_loop ?_⟩
    rw [Around.under_plainId plain_eq_loop _]
    exact ne_go p q xs ys m1 m2 d1 d2 s1 s2 hs _ 0 rfl A R _ ⟨h1, h2, he, h⟩
  refine wpAny_richCompare_same_room (T := "list") (op := .NotEq) ⟨_, o1, rfl⟩ ⟨_, o2, rfl⟩ F.slot_list_ne (call_meetsIn F.slot_list_ne ⟨_, o1, rfl⟩ F.entry_list_ne (F.args_list_ne_2 _ _) body ⟨o1, o2, he, ?_⟩) hu
  exact ⟨nofun, h⟩
/-- a thing is equal to itself -/
theorem eq_self {A : Around} {s : Shared} {a : Addr} : EqIn prog w A s (.ref a) (.ref a) true := fun E Q hq => by
  unfold eqBool
  refine wpAny_holding ?_
  rw [if_pos (beq_self_eq_true _)]
  wp_walk
  exact hq
end
end NQ
namespace LL
open PySem PySem.Spec PyProof.Rows L2 He Evl ND
/-! ### a dict beside the base, read and locked -/
theorem walk_keysN {P : Program} {w : World} {d : Addr} {o : Obj} {kvs : List NE} : Walk (ItkN P w d o kvs) kvs.length (fun H => H d = some (.frz o (NDo P w d kvs))) (fun i H x H' => H' = H ∧ ∃ e, kvs[i]? = some e ∧ x = .ref e.2.1) :=
  ⟨fun _ _ hi q => ⟨q, hi⟩, fun _ q => ⟨q, Nat.le_refl _⟩, fun _ _ _ _ _ _ y => y⟩
theorem pek_nget {X : Cx} (P : Program) (w : World) (K : PySem.W.Frag) {o i : Expr} {pos : Pos} {td ty : TE} (hP : X.prog = P) (hw : X.w = w) (hK : X.K = K) (hu : X.A.units + 64 < cLine) (ho : L2.PE X o td) (hi : L2.PE X i ty) (hs : NoSl i) : L2.PE X (.Subscript o i pos) (ND.tGet P w K td ty) := by
  subst hP hw hK
  exact ND.pe_get hu ho hi hs
theorem call_list_ofK {X : Cx} (K : PySem.W.Frag) (h : X.K = K := by rfl) : CallR X (.type "list") (fun xs H Q => ∃ p ys, xs = [V.ref p] ∧ (SqL K H p ys ∨ SqT K H p ys) ∧ ∀ l, H l = none → Q (.ref l) (upd H l (.lst ys))) := by subst h; exact call_list_of
/-- the cell F beside the base holds X -/
def WF (F : Addr) (X : HO) (B H : Hp) : Prop := Ex B H ∧ B F = none ∧ H F = some X
instance {F : Addr} {X : HO} : Wld [F] (WF F X) where
  e h := h.1
  st {B H B2 H2} h s := ⟨s.in_, s.nw F h.2.1 (by rw [h.2.2]; nofun), s.fr F X (fun z => nomatch z) h.2.2⟩
  ne h z := by rw [List.mem_singleton.mp z, h.2.2]; nofun
  put {B H a o} h b n := ⟨Ex.mut h.1 b, h.2.1, by rw [upd_ne (fun z => n (List.mem_singleton.mpr z.symm))]; exact h.2.2⟩
  keep {B H a o} h b z n := ⟨(Stp.keep h.1 z b).2, by rw [upd_ne (fun z => n (List.mem_singleton.mpr z.symm))]; exact h.2.1, h.2.2⟩
section
variable {ms : List Addr} {B H B2 H2 : Hp} {F : Addr} {o u X : HO} {od : Obj}
/-- a new cell that stays beside the base -/
theorem Stp.aside (n : H F = none) (s : Stp (F :: ms) B (upd H F o) B2 H2) : Stp ms B H B2 H2 where
  base := s.base
  in_ := s.in_
  nw b h1 h2 := s.nw b h1 (by rw [upd_ne (fun z => h2 (by rw [z]; exact n))]; exact h2)
  fr b x hm hx := s.fr b x (fun z => by
    rcases List.mem_cons.mp z with rfl | z
    · rw [n] at hx; cases hx
    · exact hm z) (by rw [upd_ne (fun z => by rw [z, n] at hx; cases hx)]; exact hx)
  al b h := s.al b (by rw [upd_ne (fun z => h (by rw [z]; exact n))]; exact h)
/-- a cell that holds again what it held -/
theorem Stp.same (h1 : H F = some X) (h2 : H2 F = some X) (s : Stp (F :: ms) B H B2 H2) : Stp ms B H B2 H2 where
  base := s.base
  in_ := s.in_
  nw := s.nw
  fr b x hm hx := by
    by_cases c : b = F
    · subst c
      rw [h1] at hx
      rw [h2, hx]
    · exact s.fr b x (fun z => by
        rcases List.mem_cons.mp z with z | z
        · exact c z
        · exact hm z) hx
  al := s.al
/-- a cell is locked and let go -/
theorem Stp.locked (h1 : H F = some u) (b : B F = none) (s : Stp ms B (upd H F (.frz od u)) B2 H2) : Stp ms B H B2 (upd H2 F u) where
  base := s.base
  in_ := Ex.mut s.in_ (s.nw F b (by rw [upd_same]; nofun))
  nw x h2 h3 := s.nw x h2 (by
    by_cases c : x = F
    · rw [c, upd_same]; nofun
    · rw [upd_ne c]; exact h3)
  fr x y hm hx := by
    by_cases c : x = F
    · subst c
      rw [h1] at hx
      rw [upd_same, hx]
    · rw [upd_ne c]
      exact s.fr x y hm (by rw [upd_ne c]; exact hx)
  al x h := by
    by_cases c : x = F
    · rw [c, upd_same]; nofun
    · rw [upd_ne c]
      exact s.al x (by rw [upd_ne c]; exact h)
end
section
variable {P : Program} {w : World} {K : PySem.W.Frag} {B : Hp} {σ : L2.St} {te ta tb : TE} {E : XK} {R : V → Hp → Prop}
/-- d[k] of a dict beside the base -/
theorem gw_ngetF {F b : Addr} {X : HO} {kvs : List NE} {k : NestedKey} {v : V} (hX : X = NDo P w F kvs ∨ ∃ od, X = .frz od (NDo P w F kvs)) (h1 : Ev ta σ B (.ref F)) (h2 : Ev tb σ B (.ref b)) (hk : KsAt K B kvs) (hb : KeyAt K B b k) (hv : nGet kvs k = some v) : GW [F] (WF F X) (ND.tGet P w K ta tb σ) B (fun u _ => u = v) := fun B1 H1 e1 w1 Q q =>
  h1 H1 (e1.trans w1.1) _ fun H2 e2 => h2 H2 ((e1.trans w1.1).trans e2) _ fun H3 e3 => by
    obtain ⟨s3, w3⟩ := Wld.ex w1 (e2.trans e3)
    refine ⟨F, b, k, kvs, v, rfl, rfl, ?_, (fun en he => key_mono (hk en he) (e1.trans w3.1)), key_mono hb (e1.trans w3.1), hv, q v B1 H3 s3 w3 rfl⟩
    rcases hX with rfl | ⟨od, rfl⟩
    · exact .inl w3.2.2
    · exact .inr ⟨od, w3.2.2⟩
/-- d[k] of a dict in the base -/
theorem ev_nget {F b : Addr} {kvs : List NE} {k : NestedKey} {v : V} (hF : B F = some (NDo P w F kvs)) (h1 : Ev ta σ B (.ref F)) (h2 : Ev tb σ B (.ref b)) (hk : KsAt K B kvs) (hb : KeyAt K B b k) (hv : nGet kvs k = some v) : Ev (ND.tGet P w K ta tb) σ B v := fun H1 e Q q =>
  h1 H1 e _ fun H2 e2 => h2 H2 (e.trans e2) _ fun H3 e3 =>
    ⟨F, b, k, kvs, v, rfl, rfl, .inl (e3 _ _ (e2 _ _ (e _ _ hF))), (fun en he => key_mono (hk en he) (e.trans (e2.trans e3))), key_mono hb (e.trans (e2.trans e3)), hv, q H3 (e2.trans e3)⟩
end
end LL
namespace LL
open PySem PySem.Spec PyProof.Rows L2 He Evl ND
/-! ### worlds with a live pool -/
class PWld (p : outParam Addr) (u : outParam Int) (ms : outParam (List Addr)) (W : Hp → Hp → Prop) extends Wld ms W where
  mem : p ∈ ms
  off : ∀ {B H : Hp}, W B H → B p = none
  pool : ∀ {B H : Hp}, W B H → PoolN u p B H
  drawn : ∀ {B H H2 : Hp}, W B H → Stp [p] B H B H2 → PoolN u p B H2 → W B H2
instance {p : Addr} {u : Int} : PWld p u [p] (Wd p u) where
  e h := h.e
  st {B H B2 H2} h s := by
    obtain ⟨o, ho⟩ := h.P.at
    exact ⟨s.in_, s.nw p h.b (by rw [ho]; nofun), h.P.of s.base ((s.fr p o (fun z => nomatch z) ho).trans ho.symm)⟩
  ne h z := by
    obtain ⟨o, ho⟩ := h.P.at
    rw [List.mem_singleton.mp z, ho]; nofun
  put {B H a o} h b n := ⟨Ex.mut h.e b, h.b, h.P.p1 fun z => n (List.mem_singleton.mpr z)⟩
  keep {B H a o} h b z n := by
    have hne : a ≠ p := fun z => n (List.mem_singleton.mpr z)
    exact ⟨(Stp.keep h.e z b).2, by rw [upd_ne (Ne.symm hne)]; exact h.b, h.P.of (Ex.new b) rfl⟩
  mem := .head _
  off h := h.b
  pool h := h.P
  drawn h s P := ⟨s.in_, h.b, P⟩
/-- the cell F beside the base holds X, in a world W -/
def WX (ms : List Addr) (W : Hp → Hp → Prop) (F : Addr) (X : HO) (B H : Hp) : Prop := W B H ∧ B F = none ∧ H F = some X ∧ F ∉ ms
section
variable {ms : List Addr} {W : Hp → Hp → Prop} {F : Addr} {X : HO}
theorem wx_st [I : Wld ms W] {B H B2 H2 : Hp} (h : WX ms W F X B H) (s : Stp [] B H B2 H2) : WX ms W F X B2 H2 := ⟨I.st h.1 s, s.nw F h.2.1 (by rw [h.2.2.1]; nofun), s.fr F X (fun z => nomatch z) h.2.2.1, h.2.2.2⟩
theorem wx_ne [I : Wld ms W] {B H : Hp} {a : Addr} (h : WX ms W F X B H) (z : a ∈ F :: ms) : H a ≠ none := by
  rcases List.mem_cons.mp z with rfl | z
  · rw [h.2.2.1]; nofun
  · exact I.ne h.1 z
theorem wx_put [I : Wld ms W] {B H : Hp} {a : Addr} {o : HO} (h : WX ms W F X B H) (b : B a = none) (n : a ∉ F :: ms) : WX ms W F X B (upd H a o) :=
  ⟨I.put h.1 b fun z => n (.tail _ z), h.2.1, by rw [upd_ne (fun z => n (by rw [z]; exact .head _))]; exact h.2.2.1, h.2.2.2⟩
theorem wx_keep [I : Wld ms W] {B H : Hp} {a : Addr} {o : HO} (h : WX ms W F X B H) (b : B a = none) (z : H a = some o) (n : a ∉ F :: ms) : WX ms W F X (upd B a o) H :=
  ⟨I.keep h.1 b z fun z => n (.tail _ z), by rw [upd_ne (fun z => n (by rw [z]; exact .head _))]; exact h.2.1, h.2.2⟩
instance [I : Wld ms W] : Wld (F :: ms) (WX ms W F X) := ⟨fun h => I.e h.1, wx_st, wx_ne, wx_put, wx_keep⟩
instance {p : Addr} {u : Int} [I : PWld p u ms W] : PWld p u (F :: ms) (WX ms W F X) where
  e h := I.e h.1
  st := wx_st
  ne := wx_ne
  put := wx_put
  keep := wx_keep
  mem := .tail _ I.mem
  off h := I.off h.1
  pool h := I.pool h.1
  drawn {B H H2} h s P := ⟨I.drawn h.1 s P, h.2.1, s.fr F X (fun z => h.2.2.2 (by rw [List.mem_singleton.mp z]; exact I.mem)) h.2.2.1, h.2.2.2⟩
end
section
variable {p : Addr} {u : Int} {ms : List Addr} {W : Hp → Hp → Prop} [I : PWld p u ms W] {B : Hp} {σ : L2.St} {te ta tb : TE} {E : XK} {R : V → Hp → Prop} {i : Nat}
include I
/-- a draw -/
theorem gw_drawn {n : Int} (h0 : 0 < n) (h1 : n < 1073741824) : GW ms W (fun H Q => spDraw [.ref p, .int n] H Q E) B (RI n) := fun B1 H1 e w Q q =>
  draw_n (m := n) (I.e w) (I.off w) (I.pool w) h0 h1 fun r H2 c0 c1 s P => q (.int r) B1 H2 (s.wk fun x hx => by rw [List.mem_singleton.mp hx]; exact I.mem) (I.drawn w s P) ⟨r, rfl, c0, c1⟩
theorem gw_draw {tn : TE} {n : Int} (hs : σ[i]? = some (some (.ref p))) (hn : Ev tn σ B (.int n)) (h0 : 0 < n) (h1 : n < 1073741824) : GW ms W ((fun σ H Q => tCons (tVar i) (tCons tn tNil) σ H fun vs H1 => spDraw vs H1 Q E) σ) B (RI n) :=
  gw_fn (S := fun vs _ => vs = [.ref p, .int n]) (gw_c1 (ev_var hs) (gw_c1 hn (gw_nil fun _ _ => rfl))) fun vs B1 e1 r1 => by subst r1; exact gw_drawn h0 h1
theorem gw_draw' {tn : TE} {P : Int → Prop} (hs : σ[i]? = some (some (.ref p))) (hn : GW ms W (tn σ) B (fun v _ => ∃ n, v = .int n ∧ P n)) (h01 : ∀ n, P n → 0 < n ∧ n < 1073741824) : GW ms W ((fun σ H Q => tCons (tVar i) (tCons tn tNil) σ H fun vs H1 => spDraw vs H1 Q E) σ) B (fun v _ => ∃ r n : Int, v = .int r ∧ P n ∧ 0 ≤ r ∧ r < n) :=
  gw_fn (S := fun vs _ => ∃ n, vs = [.ref p, .int n] ∧ P n) (gw_c1 (ev_var hs) (gw_cons hn fun x B1 e1 ⟨n, ex, hp⟩ => gw_nil fun _ _ => ⟨n, by rw [ex], hp⟩)) fun vs B1 e1 ⟨n, ev, hp⟩ => by
    subst ev
    exact (gw_drawn (h01 n hp).1 (h01 n hp).2).imp fun v B2 _ ⟨r, h1, h2, h3⟩ => ⟨r, n, h1, hp, h2, h3⟩
end
section
variable {ms : List Addr} {W : Hp → Hp → Prop} [I : Wld ms W] {B H : Hp} {σ : L2.St} {te : TE} {g : TG} {ws : List Nat}
/-- x = [.. for k in range(n)]: the list stays beside the base -/
theorem gws_lcN {ta : TA} {D : Ends} {i : Nat} {Rn : Nat → Prop} {Re : Nat → V → Hp → Prop} (w : W B H) (h : GW ms W (ta σ) B (fun vs _ => ∃ n : Nat, vs = [.int (n : Nat)] ∧ Rn n)) (hn : ∀ n, Rn n → n ≤ 100000) (hm : ∀ i v B1 B2, Ex B1 B2 → Re i v B1 → Re i v B2)
    (he : ∀ (n i : Nat) B1, Rn n → i < n → Ex B B1 → LcE ms W g te ws σ B1 (.int (i : Nat)) (Re i))
    (k : ∀ n L ys B2 H2, Rn n → Stp ms B H B2 H2 → W B2 H2 → B2 L = none → H2 L = some (.lst ys) → L ∉ ms → ys.length = n → (∀ i y, ys[i]? = some y → Re i y B2) → H L = none → D.nx (σ.set i (some (.ref L))) H2) : tAsg (tLc (iRng1 ta) g tYes te ws) (gName i) D σ H := by
  refine h.go w fun vs B2 H2 s2 w2 ⟨n, hv, rn⟩ => ?_
  subst hv
  have hb := hn n rn
  refine ⟨(n : Nat), rfl, by omega, by omega, fun L nL => ?_⟩
  have en : ((n : Nat) : Int).toNat = n := by omega
  rw [en]
  have nLm := Wld.off (I := I) w2 nL
  have hbig : (100000 : Nat) ≤ sizeLine := by decide
  have nL0 : H L = none := by
    cases hh : H L with
    | none => rfl
    | some o => exact absurd nL (s2.al L (by rw [hh]; nofun))
  refine lc_it walk_range (fun j H' => ∃ B' vs, LcS ms W L B2 H2 Re j B' H' vs) ⟨B2, [], LcS.zero w2 nL⟩ (fun _ _ _ _ => trivial) ?_ ?_
  · rintro j x H' H'' hj ⟨B', vs, z⟩ ⟨rfl, hx⟩
    have hx : x = .int (j : Nat) := by
      rw [hx]
      show V.int (0 + (j : Nat)) = _
      rw [Int.zero_add]
    subst hx
    obtain ⟨σi, h1, h2, h3⟩ := (he n j B' rn hj (s2.base.trans z.st.base)).go
    refine h2 B' H'' (Ex.refl _) (I.e z.w) _ ⟨h1, yes_if ?_⟩
    refine h3 B' H'' (Ex.refl _) z.w _ fun v B3 H3 s3 w3 rv => ?_
    obtain ⟨a1, a2⟩ := z.more nLm hm s3 w3 rv
    have hl := z.len
    exact ⟨vs, a1, by omega, B3, vs ++ [v], a2⟩
  · rintro H' ⟨B', vs, z⟩
    exact k n L vs B' H' rn (s2.trans (Stp.aside nL z.st)) z.w z.bL z.hL nLm z.len z.re nL0
theorem gwq_lcN {ta : TA} {tz : TS} {D : Ends} {i : Nat} {Rn : Nat → Prop} {Re : Nat → V → Hp → Prop} (w : W B H) (h : GW ms W (ta σ) B (fun vs _ => ∃ n : Nat, vs = [.int (n : Nat)] ∧ Rn n)) (hn : ∀ n, Rn n → n ≤ 100000) (hm : ∀ i v B1 B2, Ex B1 B2 → Re i v B1 → Re i v B2)
    (he : ∀ (n i : Nat) B1, Rn n → i < n → Ex B B1 → LcE ms W g te ws σ B1 (.int (i : Nat)) (Re i))
    (k : ∀ n L ys B2 H2, Rn n → Stp ms B H B2 H2 → W B2 H2 → B2 L = none → H2 L = some (.lst ys) → L ∉ ms → ys.length = n → (∀ i y, ys[i]? = some y → Re i y B2) → H L = none → tz D (σ.set i (some (.ref L))) H2) : tSeq (tAsg (tLc (iRng1 ta) g tYes te ws) (gName i)) tz D σ H :=
  gws_lcN (D := { D with nx := tz D }) w h hn hm he k
/-- a cell that was laid beside the base goes into it -/
theorem Stp.take {ms : List Addr} {B H B2 H2 : Hp} {L : Addr} {o : HO} (s : Stp ms B H B2 H2) (n : H L = none) (b : B2 L = none) (h : H2 L = some o) : Stp ms B H (upd B2 L o) H2 where
  base := s.base.trans (Ex.new b)
  in_ := (Stp.keep s.in_ h b).2
  nw x h1 h2 := by rw [upd_ne (fun z => h2 (by rw [z]; exact n))]; exact s.nw x h1 h2
  fr := s.fr
  al := s.al
theorem ints_of {P : Int → Prop} : ∀ {ys : List V}, (∀ (i : Nat) y, ys[i]? = some y → ∃ x : Int, y = .int x ∧ P x) → ∃ zs : List Int, ys = zs.map V.int ∧ ∀ x ∈ zs, P x
  | [], _ => ⟨[], rfl, fun _ h => absurd h List.not_mem_nil⟩
  | y :: ys, h => by
    obtain ⟨x, rfl, hx⟩ := h 0 y rfl
    obtain ⟨zs, rfl, hz⟩ := ints_of (ys := ys) fun i y hy => h (i + 1) y (by simpa using hy)
    exact ⟨x :: zs, rfl, fun a ha => by
      rcases List.mem_cons.mp ha with rfl | ha
      · exact hx
      · exact hz a ha⟩
theorem ev_sum {K : PySem.W.Frag} {B : Hp} {σ : L2.St} {te : TE} {L : Addr} {zs : List Int} (h : Ev te σ B (.ref L)) (hL : SqL K B L (zs.map V.int)) : Ev (tCB (rSum K) (tCons te tNil)) σ B (.int zs.sum) := fun H1 e Q q =>
  h H1 e _ fun H2 e2 => ⟨L, zs, rfl, ex_l (e.trans e2) hL, q H2 e2⟩
/-- ws[0] = ws[0] + int(sum(ws) == 0) -/
theorem ws_set {K : PySem.W.Frag} {σ : L2.St} {H : Hp} {j : Nat} {L : Addr} {x : Int} {r : List Int} {D : Ends} {tz : TS} (hσ : σ[j]? = some (some (.ref L))) (hL : H L = some (.lst ((x :: r).map V.int)))
    (k : ∀ H2, Ex H H2 → tz D σ (upd H2 L (.lst (((x + if decide (V.int (x :: r).sum = V.int 0) = true then 1 else 0) :: r).map V.int)))) :
    tSeq (tAsg (tOp (rI0 fun i j => V.int (i + j)) (tOp (rIxL K) (tVar j) (tC (V.int 0))) (tCB (fun xs H Q => (∃ i, xs = [V.int i] ∧ Q (V.int i) H) ∨ ∃ k, xs = [V.bl k] ∧ Q (V.int (if k = true then 1 else 0)) H) (tCons (tOp rEq (tCB (rSum K) (tCons (tVar j) tNil)) (tC (V.int 0))) tNil))) (gSub (tVar j) (tC (V.int 0)) rSetL)) tz D σ H := by
  have g : Ev (tOp (rI0 fun i j => V.int (i + j)) (tOp (rIxL K) (tVar j) (tC (V.int 0))) (tCB (fun xs H Q => (∃ i, xs = [V.int i] ∧ Q (V.int i) H) ∨ ∃ k, xs = [V.bl k] ∧ Q (V.int (if k = true then 1 else 0)) H) (tCons (tOp rEq (tCB (rSum K) (tCons (tVar j) tNil)) (tC (V.int 0))) tNil))) σ H (.int (x + if decide (V.int (x :: r).sum = V.int 0) = true then 1 else 0)) :=
    ev_op (ev_ixL (ev_var hσ) ev_c (sq_of hL) at0) (ev_intB (ev_op (ev_sum (ev_var hσ) (sq_of hL)) ev_c fun H1 _ Q q => ⟨rfl, q H1 (Ex.refl _)⟩)) rv_I0
  refine g H (Ex.refl _) _ fun H2 e2 => ?_
  refine ⟨_, hσ, L, (x :: r).map V.int, 0, 0, rfl, rfl, e2 _ _ hL, ?_, ?_⟩
  · exact ixN_nat (n := ((x :: r).map V.int).length) (j := 0) (Nat.succ_pos _)
  · exact k H2 e2
end
section
variable {P : Program} {w : World} {K : PySem.W.Frag} {ms : List Addr} {W : Hp → Hp → Prop} [I : Wld ms W] {B : Hp} {σ : L2.St} {ta tb : TE}
/-- d[k] of a dict beside the base -/
theorem gw_ngetX {F b : Addr} {X : HO} {kvs : List NE} {k : NestedKey} {v : V} (hX : X = NDo P w F kvs ∨ ∃ od, X = .frz od (NDo P w F kvs)) (h1 : Ev ta σ B (.ref F)) (h2 : Ev tb σ B (.ref b)) (hk : KsAt K B kvs) (hb : KeyAt K B b k) (hv : nGet kvs k = some v) : GW (F :: ms) (WX ms W F X) (ND.tGet P w K ta tb σ) B (fun u _ => u = v) := fun B1 H1 e1 w1 Q q =>
  h1 H1 (e1.trans (I.e w1.1)) _ fun H2 e2 => h2 H2 ((e1.trans (I.e w1.1)).trans e2) _ fun H3 e3 => by
    obtain ⟨s3, w3⟩ := Wld.ex w1 (e2.trans e3)
    have ex3 := e1.trans (I.e w3.1)
    refine ⟨F, b, k, kvs, v, rfl, rfl, ?_, fun en he => key_mono (hk en he) ex3, key_mono hb ex3, hv, q v B1 H3 s3 w3 rfl⟩
    rcases hX with rfl | ⟨od, rfl⟩
    · exact .inl w3.2.2.1
    · exact .inr ⟨od, w3.2.2.1⟩
end
end LL
namespace LL
open PySem
abbrev P : Program := PR
end LL
/-! == of lists and tuples, item by item, either way -/
namespace QB
open PySem PySem.SeqAt
open AutoSeq1 (wpAny_loadPart')
open MeetsSeq MeetsSeq2 MeetsSeq3 SeqRoads2 GQ
section
variable {prog : Program} {w : World} {A : Around} {R : Result → Shared → Prop}
/-- at each turn the two lists are read anew: N items each, the i-th two are equal if e i -/
def ListB (prog : Program) (w : World) (A : Around) (E : Value → Shared → Prop) (l b : Addr) (N : Nat) (e : Nat → Bool) (I : Nat → Shared → Prop) : Prop :=
  ∀ i s, I i s → ∃ (items items2 : Array Value) (n n2 : Nat), s.heap.get? l = some { cls := .type "list", data := .seq items n } ∧ s.heap.get? b = some { cls := .type "list", data := .seq items2 n2 } ∧ items.size = N ∧ items2.size = N ∧
    ∀ (h1 : i < items.size) (h2 : i < items2.size), wpAny (model prog w) A.in1 (eqBool items[i] items2[i]) (fun r s' => r = e i ∧ I (i + 1) s') E s
def allE (e : Nat → Bool) (i N : Nat) : Bool := (List.range (N - i)).all fun j => e (i + j)
theorem allE_end {e : Nat → Bool} {N : Nat} : allE e N N = true := by unfold allE; rw [Nat.sub_self]; rfl
theorem allE_step {e : Nat → Bool} {i N : Nat} (h : i < N) : allE e i N = (e i && allE e (i + 1) N) := by
  unfold allE
  obtain ⟨k, rfl⟩ : ∃ k, N = i + 1 + k := ⟨N - (i + 1), by omega⟩
  rw [show i + 1 + k - i = k + 1 by omega, show i + 1 + k - (i + 1) = k by omega, List.range_succ_eq_map, List.all_cons, List.all_map]
  congr 1
  congr 1
  funext j
  show e (i + (j + 1)) = e (i + 1 + j)
  congr 1
  omega
theorem eq_loopB (l b : Addr) (N : Nat) (e : Nat → Bool) (I : Nat → Shared → Prop) (hl : ListB prog w A (fun e s' => R (.error e) s') l b N e I)
    (B : Bool) (fin : ∀ i s, I i s → R (.ok (.ret (.bool B))) s) (k : Nat) :
    ∀ i : Nat, N - i = k → i ≤ N → allE e i N = B → ∀ s, I i s →
      wpAny (model prog w) A.in1 (Builtin.«list.__eq__.loop» ⟨[.ref l, .ref b, rawInt i, rawInt 2], []⟩) (FinOf prog w A R) (fun e s' => R (.error e) s') s := by
  induction k with
  | zero =>
    intro i hk hi hB s h
    obtain ⟨items, items2, n, n2, hl1, hb1, hs1, hs2, _⟩ := hl _ _ h
    have hi' : i = N := by omega
    have hB' : B = true := by rw [← hB, hi', allE_end]
    have hR : R (.ok (.ret (.bool true))) s := by rw [← hB']; exact fin i s h
    obtain ⟨hp, g, d, tk, os⟩ := s
    wp_walk using wpAny_loadPart' hl1, wpAny_loadPart' hb1
    have hi1 : items[((i : Nat) : Int).toNat]? = none := by simp; omega
    have hi2 : items2[((i : Nat) : Int).toNat]? = none := by simp; omega
    rw [hi1, hi2]
    wp_walk using wpAny_loadPart' hl1, wpAny_loadPart' hb1
    show R (.ok (.ret (.bool (items.size == items2.size)))) _
    rw [hs1, hs2]
    simpa using hR
  | succ k ih =>
    intro i hk hi hB s h
    obtain ⟨items, items2, n, n2, hl1, hb1, hs1, hs2, turn⟩ := hl _ _ h
    have hlt : i < items.size := by omega
    have hlt2 : i < items2.size := by omega
    have ht := turn hlt hlt2
    rw [allE_step (by omega)] at hB
    obtain ⟨hp, g, d, tk, os⟩ := s
    wp_walk using wpAny_loadPart' hl1, wpAny_loadPart' hb1
    have hi1 : items[((i : Nat) : Int).toNat]? = some items[i] := by simp [hlt]
    have hi2 : items2[((i : Nat) : Int).toNat]? = some items2[i] := by simp [hlt2]
    have hc : ((i : Int) + 1) = ((i + 1 : Nat) : Int) := by omega
    rw [hi1, hi2]
    refine wpAny_bind (wpAny_mono ht (fun r s2 h2 => ?_) fun _ _ x => x)
    obtain ⟨hr, h2⟩ := h2
    subst hr
    cases he : e i with
    | true =>
      have hrec := ih (i + 1) (by omega) (by omega) (by rw [he] at hB; simpa using hB) s2 h2
      obtain ⟨hp2, g2, d2, tk2, os2⟩ := s2
      wp_walk
      rw [hc]
      exact ⟨plainId_quiet plain_eq_loop _, codeAny_builtin entry_eq_loop (by
        rw [Around.under_plainId plain_eq_loop _]
        exact hrec)⟩
    | false =>
      have hB' : B = false := by rw [he] at hB; simpa using hB.symm
      have hR : R (.ok (.ret (.bool false))) s2 := by rw [← hB']; exact fin _ s2 h2
      obtain ⟨items', items2', n', n2', hl1', hb1', hs1', hs2', _⟩ := hl _ _ h2
      obtain ⟨hp2, g2, d2, tk2, os2⟩ := s2
      wp_walk using wpAny_loadPart' hl1', wpAny_loadPart' hb1'
      have hi1' : items'[((i : Nat) : Int).toNat]? = some items'[i] := by simp [show i < items'.size by omega]
      have hi2' : items2'[((i : Nat) : Int).toNat]? = some items2'[i] := by simp [show i < items2'.size by omega]
      rw [hi1', hi2']
      wp_walk using wpAny_loadPart' hl1', wpAny_loadPart' hb1'
      exact hR
theorem list_eqB (l b : Addr) (N : Nat) (e : Nat → Bool) (I : Nat → Shared → Prop) (hl : ListB prog w A (fun e s' => R (.error e) s') l b N e I)
    (fin : ∀ i s, I i s → R (.ok (.ret (.bool (allE e 0 N)))) s) {s : Shared} (h : I 0 s) :
    wpAny (model prog w) A.in1 (Builtin.«list.__eq__» ⟨[.ref l, .ref b], []⟩) (FinOf prog w A R) (fun e s' => R (.error e) s') s := by
  obtain ⟨items, items2, n, n2, hl1, hb1, hs1, hs2, _⟩ := hl _ _ h
  have hrec := eq_loopB (A := A) (R := R) l b N e I hl _ fin _ 0 rfl (Nat.zero_le _) rfl s h
  obtain ⟨hp, g, d, tk, os⟩ := s
  have f3 := AutoSeq1.sub_list_list
  have hne : ¬ (items.size != items2.size) = true := by simp [hs1, hs2]
  wp_walk using wpAny_loadPart' hl1, wpAny_loadPart' hb1
  exact ⟨plainId_quiet plain_eq_loop _, codeAny_builtin entry_eq_loop (by
    rw [Around.under_plainId plain_eq_loop _]
    exact hrec)⟩
/-- lists of different length -/
theorem list_neB (l b : Addr) {items items2 : Array Value} {n n2 : Nat} {s : Shared} (hl1 : s.heap.get? l = some { cls := .type "list", data := .seq items n }) (hb1 : s.heap.get? b = some { cls := .type "list", data := .seq items2 n2 }) (hsz : items.size ≠ items2.size)
    (fin : R (.ok (.ret (.bool false))) s) : wpAny (model prog w) A.in1 (Builtin.«list.__eq__» ⟨[.ref l, .ref b], []⟩) (FinOf prog w A R) (fun e s' => R (.error e) s') s := by
  obtain ⟨hp, g, d, tk, os⟩ := s
  have f3 := AutoSeq1.sub_list_list
  have hne : (items.size != items2.size) = true := by simp [hsz]
  wp_walk using wpAny_loadPart' hl1, wpAny_loadPart' hb1
  exact fin
theorem tuple_eqB (l b : Addr) (items items2 : Array Value) (n n2 : Nat) (dd dd2 : Option Addr) (sl sl2 : Array (Option Value)) (e : Nat → Bool) (I : Nat → Shared → Prop)
    (turn : ∀ i (h1 : i < items.size) (h2 : i < items2.size) s, I i s → wpAny (model prog w) A.in1 (eqBool items[i] items2[i]) (fun r s' => r = e i ∧ I (i + 1) s') (fun e s' => R (.error e) s') s)
    (fin : ∀ i s, I i s → R (.ok (.ret (.bool (decide (items.size = items2.size) && allE e 0 items.size)))) s) {s : Shared} (hl1 : s.heap.get? l = some { cls := .type "tuple", dict := dd, data := .seq items n, slots := sl }) (hb1 : s.heap.get? b = some { cls := .type "tuple", dict := dd2, data := .seq items2 n2, slots := sl2 }) (h : I 0 s) :
    wpAny (model prog w) A.in1 (Builtin.«tuple.__eq__» ⟨[.ref l, .ref b], []⟩) (FinOf prog w A R) (fun e s' => R (.error e) s') s := by
  have f2 := AutoSeq1.sub_tuple_tuple
  have hZ : (items.toList.zip items2.toList).length = min items.size items2.size := by simp
  have h0 := h
  obtain ⟨hp, g, d, tk, os⟩ := s
  have hB : ∀ i, i ≤ items.size → allE e 0 items.size = (allE e 0 i && allE e i items.size) := by
    intro i hi
    unfold allE
    obtain ⟨k, hk⟩ : ∃ k, items.size = i + k := ⟨items.size - i, by omega⟩
    rw [hk, show i + k - 0 = i + k by omega, show i - 0 = i by omega, show i + k - i = k by omega, List.range_add, List.all_append, List.all_map]
    congr 1
    congr 1
    funext j
    show e (0 + (i + j)) = e (i + j)
    rw [Nat.zero_add]
  wp_walk using wpAny_loadPart' hl1, wpAny_loadPart' hb1, wpAny_forIn_list _ (fun rest b s' => (b.1 = none ∧ ∃ i, rest = (items.toList.zip items2.toList).drop i ∧ i ≤ items.size ∧ i ≤ items2.size ∧ allE e 0 i = true ∧ I i s') ∨
    (rest = [] ∧ b.1 = some (.done (.ret (.bool false))) ∧ (decide (items.size = items2.size) && allE e 0 items.size) = false ∧ ∃ i, I i s')) _
  case turn =>
    rintro ⟨y, x⟩ rest b s' (⟨hb', i, hz, hi, hi2, hae, hI⟩ | ⟨hz, _⟩)
    case inr => cases hz
    have hlt : i < (items.toList.zip items2.toList).length := by
      rcases Nat.lt_or_ge i (items.toList.zip items2.toList).length with h' | h'
      · exact h'
      · rw [List.drop_of_length_le h'] at hz; cases hz
    rw [hZ] at hlt
    have h1 : i < items.size := by omega
    have h2 : i < items2.size := by omega
    rw [List.drop_eq_getElem_cons (by rw [hZ]; exact hlt)] at hz
    injection hz with hyx hrest
    have hy : y = items[i] := by have := congrArg Prod.fst hyx; simpa using this
    have hx : x = items2[i] := by have := congrArg Prod.snd hyx; simpa using this
    subst hy hx
    refine wpAny_bind (wpAny_mono (turn i h1 h2 s' hI) (fun r s2 q2 => ?_) fun _ _ x => x)
    obtain ⟨hr, q2⟩ := q2
    subst hr
    cases he : e i with
    | true =>
      wp_walk
      refine .inl ⟨rfl, i + 1, hrest, h1, h2, ?_, q2⟩
      unfold allE at hae ⊢
      rw [Nat.sub_zero] at hae
      rw [Nat.sub_zero, List.range_succ, List.all_append, hae]
      simp [he]
    | false =>
      have hR := fin _ s2 q2
      rw [hB i (by omega), allE_step h1, he] at hR
      simp only [Bool.false_and, Bool.and_false] at hR
      wp_walk
      exact hR
  case fin =>
    rintro ⟨b1, b2⟩ s' (⟨hb', i, hz, hi, hi2, hae, hI⟩ | ⟨_, hb', hfa, i, hI⟩)
    · simp only at hb'
      subst hb'
      have hge : min items.size items2.size ≤ i := by
        rcases Nat.lt_or_ge i (items.toList.zip items2.toList).length with h' | h'
        · rw [List.drop_eq_getElem_cons h'] at hz; cases hz
        · rw [← hZ]; exact h'
      have hR := fin i s' hI
      wp_walk
      show R (.ok (.ret (.bool (items.size == items2.size)))) _
      have : (items.size == items2.size) = (decide (items.size = items2.size) && allE e 0 items.size) := by
        by_cases z : items.size = items2.size
        · have : i = items.size := by omega
          subst this
          rw [hae]
          simp [z]
        · simp [z]
      rw [this]
      exact hR
    · simp only at hb'
      subst hb'
      have hR := fin i s' hI
      rw [hfa] at hR
      wp_walk
      exact hR
  case h =>
    exact .inl ⟨rfl, 0, rfl, Nat.zero_le _, Nat.zero_le _, rfl, h0⟩
section
variable {prog : Program} {w : World} {A : Around} {E : Value → Shared → Prop} {s : Shared}
theorem rc_listB {l b : Addr} {N : Nat} {e : Nat → Bool} {Q : Value → Shared → Prop} (hu : A.units < cLine) (I : Nat → Shared → Prop) (hl : ListB prog w A E l b N e I)
    (fin : ∀ i s, I i s → Q (.bool (allE e 0 N)) s) (h : I 0 s) : wpAny (model prog w) A (richCompare .Eq (.ref l) (.ref b)) Q E s := by
  obtain ⟨items, items2, n, n2, hl1, hb1, _, _, _⟩ := hl _ _ h
  refine wpAny_richCompare_same_room (op := .Eq) ⟨_, hl1, rfl⟩ ⟨_, hb1, rfl⟩ F.slot_list_eq (call_here F.slot_list_eq ⟨_, hl1, rfl⟩ F.entry_list_eq (F.args_list_eq_2 _ _) ?_) hu
  exact list_eqB (R := wants (fun v s' => v ≠ .notImplemented ∧ Q v s') E) l b N e I hl (fun i s' q => ⟨(fun x => nomatch x), fin i s' q⟩) h
theorem rc_listNeB {l b : Addr} {items items2 : Array Value} {n n2 : Nat} {Q : Value → Shared → Prop} (hu : A.units < cLine) (hl1 : s.heap.get? l = some { cls := .type "list", data := .seq items n }) (hb1 : s.heap.get? b = some { cls := .type "list", data := .seq items2 n2 }) (hsz : items.size ≠ items2.size)
    (h : Q (.bool false) s) : wpAny (model prog w) A (richCompare .Eq (.ref l) (.ref b)) Q E s := by
  refine wpAny_richCompare_same_room (op := .Eq) ⟨_, hl1, rfl⟩ ⟨_, hb1, rfl⟩ F.slot_list_eq (call_here F.slot_list_eq ⟨_, hl1, rfl⟩ F.entry_list_eq (F.args_list_eq_2 _ _) ?_) hu
  exact list_neB (R := wants (fun v s' => v ≠ .notImplemented ∧ Q v s') E) l b hl1 hb1 hsz ⟨(fun x => nomatch x), h⟩
theorem rc_tupB {l b : Addr} {items items2 : Array Value} {e : Nat → Bool} {Q : Value → Shared → Prop} (hu : A.units < cLine) (I : Nat → Shared → Prop)
    (hl : s.heap.IsTuple l items) (hb : s.heap.IsTuple b items2)
    (turn : ∀ i (h1 : i < items.size) (h2 : i < items2.size) s, I i s → wpAny (model prog w) A.in1 (eqBool items[i] items2[i]) (fun r s' => r = e i ∧ I (i + 1) s') E s)
    (fin : ∀ i s, I i s → Q (.bool (decide (items.size = items2.size) && allE e 0 items.size)) s) (h : I 0 s) : wpAny (model prog w) A (richCompare .Eq (.ref l) (.ref b)) Q E s := by
  obtain ⟨⟨cls, dd, data, sl⟩, ho, hc, n, hd⟩ := id hl
  obtain ⟨⟨cls2, dd2, data2, sl2⟩, ho2, hc2, n2, hd2⟩ := id hb
  simp only at hc hd hc2 hd2
  subst hc hd hc2 hd2
  refine wpAny_richCompare_same_room (op := .Eq) ⟨_, ho, rfl⟩ ⟨_, ho2, rfl⟩ F.slot_tuple_eq (call_here F.slot_tuple_eq ⟨_, ho, rfl⟩ F.entry_tuple_eq (F.args_tuple_eq_2 _ _) ?_) hu
  exact tuple_eqB (R := wants (fun v s' => v ≠ .notImplemented ∧ Q v s') E) l b items items2 n n2 dd dd2 sl sl2 e I turn (fun i s' q => ⟨(fun x => nomatch x), fin i s' q⟩) ho ho2 h
end
end
end QB
/-! entries of plans: == -/
namespace LL
open PySem PySem.Spec PyProof.Rows L2 He Evl ND
theorem pcN {X : Cx} {P : Program} {w : World} : Passes (L2.CX P w) X (fun _ _ _ => False) := fun _ _ _ _ _ _ _ h => by
  obtain ⟨_, _, _, _, _, _, _, _, _, _, _, _, h⟩ := h
  exact h.elim
abbrev RatsAt (K : PySem.W.Frag) (H : Hp) (vs : List V) (qs : List Rat) : Prop := Paired (fun v q => RatAt K H v q) vs qs
def EntAt (K : PySem.W.Frag) (H : Hp) (v : V) (e : NestedKey × List Rat) : Prop := ∃ (t b lt : Addr) (vs : List V), v = .ref t ∧ SqT K H t [.ref b, .ref lt] ∧ KeyAt K H b e.1 ∧ SqT K H lt vs ∧ RatsAt K H vs e.2
abbrev EntsAt (K : PySem.W.Frag) (H : Hp) (vs : List V) (es : List (NestedKey × List Rat)) : Prop := Paired (EntAt K H) vs es
theorem paired_mono {α β : Type} {F G : α → β → Prop} {xs : List α} {ys : List β} (h : Paired F xs ys) (f : ∀ a b, F a b → G a b) : Paired G xs ys := Paired.mapP h f
theorem _root_.ND.KeyAt.mono {K : PySem.W.Frag} {H H' : Hp} {b : Addr} {k : NestedKey} (h : KeyAt K H b k) (e : Ex H H') : KeyAt K H' b k := ⟨h.1, h.2.1, dp_mono e h.2.2⟩
theorem _root_.ND.KsAt.mono {K : PySem.W.Frag} {H H' : Hp} {kvs : List NE} (h : KsAt K H kvs) (e : Ex H H') : KsAt K H' kvs := fun x hx => KeyAt.mono (h x hx) e
theorem rats_mono {K : PySem.W.Frag} {H H' : Hp} {vs : List V} {qs : List Rat} (h : RatsAt K H vs qs) (e : Ex H H') : RatsAt K H' vs qs := paired_mono h fun _ _ z => z.mono e
theorem EntAt.mono {K : PySem.W.Frag} {H H' : Hp} {v : V} {x : NestedKey × List Rat} (h : EntAt K H v x) (e : Ex H H') : EntAt K H' v x := by
  obtain ⟨t, b, lt, vs, h1, h2, h3, h4, h5⟩ := h
  exact ⟨t, b, lt, vs, h1, ex_t e h2, h3.mono e, ex_t e h4, rats_mono h5 e⟩
theorem ents_mono {K : PySem.W.Frag} {H H' : Hp} {vs : List V} {es : List (NestedKey × List Rat)} (h : EntsAt K H vs es) (e : Ex H H') : EntsAt K H' vs es := paired_mono h fun _ _ z => z.mono e
theorem ratAt_inj {K : PySem.W.Frag} {H : Hp} {v : V} {p q : Rat} (hp : RatAt K H v p) (hq : RatAt K H v q) : p = q := by
  obtain ⟨a, dx, rfl, ha⟩ := hp
  obtain ⟨b, dy, e, hb⟩ := hq
  cases e
  rw [ha] at hb
  have h1 := (HO.ins.inj (Option.some.inj hb)).2.2
  simp only [rf, List.cons.injEq, Prod.mk.injEq, true_and, and_true] at h1
  obtain ⟨h2, h3⟩ := h1
  injection h2 with h2
  injection h3 with h3
  exact Rat.ext h2 (by omega)
theorem rats_inj {K : PySem.W.Frag} {H : Hp} : ∀ {vs : List V} {ps qs : List Rat}, RatsAt K H vs ps → RatsAt K H vs qs → ps = qs
  | _, _, _, .nil, .nil => rfl
  | _, _, _, .cons h1 t1, .cons h2 t2 => by rw [ratAt_inj h1 h2, rats_inj t1 t2]
theorem allE_iff {e : Nat → Bool} {N : Nat} : QB.allE e 0 N = true ↔ ∀ i, i < N → e i = true := by
  unfold QB.allE
  rw [List.all_eq_true]
  constructor
  · intro h i hi
    have := h i (List.mem_range.mpr (by omega))
    rwa [Nat.zero_add] at this
  · intro h i hi
    rw [Nat.zero_add]
    exact h i (by have := List.mem_range.mp hi; omega)
theorem list_eqE {α : Type} [DecidableEq α] (xs ys : List α) : (decide (xs.length = ys.length) && QB.allE (fun i => decide (xs[i]? = ys[i]?)) 0 xs.length) = decide (xs = ys) := by
  by_cases h : xs = ys
  · subst h
    rw [decide_eq_true rfl, decide_eq_true rfl, Bool.true_and]
    exact allE_iff.mpr fun i _ => decide_eq_true rfl
  · rw [decide_eq_false h, Bool.and_eq_false_iff]
    by_cases hl : xs.length = ys.length
    · right
      cases q : QB.allE (fun i => decide (xs[i]? = ys[i]?)) 0 xs.length with
      | false => rfl
      | true =>
        exfalso
        apply h
        have := allE_iff.mp q
        apply List.ext_getElem?
        intro i
        by_cases hi : i < xs.length
        · exact of_decide_eq_true (this i hi)
        · rw [List.getElem?_eq_none (by omega), List.getElem?_eq_none (by omega)]
    · left
      exact decide_eq_false hl
section
variable {X : Cx} {A : Around} {pins : List (Addr × Obj)} {s : Shared} {σ : L2.St} {H : Hp}
abbrev Aft (X : Cx) (pins : List (Addr × Obj)) (σ : L2.St) (H : Hp) (b : Bool) (r : Bool) (s' : Shared) : Prop := r = b ∧ LoopI X pins σ H s'
theorem eqb_rat (T : Txt X.K X.mg) {x y : V} {u v : Value} {p q : Rat} (sb : Sub X 1 A) (I : Inv X pins σ H s) (rx : RelV x u) (ry : RelV y v) (hx : RatAt X.K H x p) (hy : RatAt X.K H y q) :
    wpAny (model X.prog X.w) A (eqBool u v) (Aft X pins σ H (decide (p = q))) X.xe s := by
  obtain ⟨a, dx, rfl, ha⟩ := id hx
  obtain ⟨b, dy, rfl, hb⟩ := id hy
  cases rx
  cases ry
  by_cases hab : a = b
  · subst hab
    have := ratAt_inj hx hy
    subst this
    exact SeqAt.EqAt.same (A := A) (s := s) (.ref a) X.prog X.w X.xe _ ⟨(decide_eq_true rfl).symm, H, I, Ext.rfl'⟩
  · refine GQ.eqBool_refG hab ?_
    obtain ⟨mA, J, _⟩ := ins_get I.hok ha
    obtain ⟨mB, J', _⟩ := ins_get I.hok hb
    obtain ⟨od, J, _⟩ := J.look
    obtain ⟨od', J', _⟩ := J'.look
    obtain ⟨m, hF⟩ := I.fr
    refine PySem.W.cmp_K (op := .Eq) (tb := .ref (cR X.K)) sb.room.units0 hF I.ok.mod.kin J J'.type (by simp [PySem.W.notFirst]) T.t_Ratio_eq.at_ T.t_Ratio_eq.fn ?_
    have e0 : Env0 X.prog X.w X.K X.mg X.base A X.stack s H := by
      have e := I.env0
      exact ⟨by rw [sb.fr]; exact e.frames, e.mod, e.bs, e.bsz, e.funs, e.frf, e.hok, e.bare⟩
    refine wpAny_call (codeAny_mono (fn_Ratio_eq T A X.stack s H [.ref a, .ref b] [.ref a, .ref b] (fun v H' => v = .bl (decide (p = q)) ∧ Ext H H') (fun _ _ _ => False) sb.room e0 (.cons rfl (.cons rfl .nil)) ⟨_, _, p, q, rfl, hx, hy, fun H' e => ⟨rfl, e⟩⟩) fun r s' hq => ?_)
    cases r with
    | error e => exact (pcN (P := X.prog) (w := X.w)) pins σ H s e s' I hq
    | ok fl =>
      cases fl with
      | ret w =>
        obtain ⟨z, H', I', rz, ez, ex⟩ := I.after hq
        subst ez
        cases rz
        exact ⟨_, rfl, rfl, H', I', ex⟩
      | next => exact False.elim hq
      | brk => exact False.elim hq
      | cont => exact False.elim hq
theorem at_arr {us : List Value} {i : Nat} (h : i < us.toArray.size) : us[i]? = some us.toArray[i] := by
  have h' : i < us.length := by simpa using h
  rw [List.getElem?_eq_getElem h'] <;> simp
theorem eqb_rats (T : Txt X.K X.mg) {a b : Addr} {vs us : List V} {ps qs : List Rat} (sb : Sub X 2 A) (I : Inv X pins σ H s) (ha : SqT X.K H a vs) (hb : SqT X.K H b us) (hp : RatsAt X.K H vs ps) (hq : RatsAt X.K H us qs) :
    wpAny (model X.prog X.w) A (eqBool (.ref a) (.ref b)) (Aft X pins σ H (decide (ps = qs))) X.xe s := by
  by_cases hab : a = b
  · subst hab
    have := I.tuple_inj ha hb
    subst this
    have := rats_inj hp hq
    subst this
    exact SeqAt.EqAt.same (A := A) (s := s) (.ref a) X.prog X.w X.xe _ ⟨(decide_eq_true rfl).symm, H, I, Ext.rfl'⟩
  · refine GQ.eqBool_refG hab ?_
    obtain ⟨its, r, e, z⟩ := I.tuple ha
    obtain ⟨its2, r2, e2, z2⟩ := I.tuple hb
    have l1 : its.toArray.size = ps.length := by rw [List.size_toArray, ← r.length]; exact Paired.length hp
    have l2 : its2.toArray.size = qs.length := by rw [List.size_toArray, ← r2.length]; exact Paired.length hq
    refine QB.rc_tupB sb.room.units0 (fun _ s' => LoopI X pins σ H s') e e2 (e := fun i => decide (ps[i]? = qs[i]?)) (fun i h1 h2 s' q => ?_) (fun i s' q => ⟨_, rfl, ?_, q⟩) ⟨H, I, Ext.rfl'⟩
    · obtain ⟨H1, I1, x1⟩ := q
      have k1 : i < ps.length := by omega
      have k2 : i < qs.length := by omega
      have v1 : i < vs.length := by rw [Paired.length hp]; exact k1
      have v2 : i < us.length := by rw [Paired.length hq]; exact k2
      obtain ⟨u, hu, ru⟩ := r.get (List.getElem?_eq_getElem v1)
      obtain ⟨v, hv, rv⟩ := r2.get (List.getElem?_eq_getElem v2)
      rw [at_arr h1] at hu
      rw [at_arr h2] at hv
      obtain ⟨p, hp1, hp2⟩ := paired_get hp (List.getElem?_eq_getElem v1)
      obtain ⟨q, hq1, hq2⟩ := paired_get hq (List.getElem?_eq_getElem v2)
      rw [Option.some.inj hu, Option.some.inj hv]
      refine wpAny_mono (eqb_rat T sb.in1 I1 ru rv (hp2.mono x1) (hq2.mono x1)) (fun rr s2 q2 => ?_) fun _ _ x => x
      obtain ⟨er, H2, I2, x2⟩ := q2
      refine ⟨?_, H2, I2, x1.trans x2⟩
      rw [er, hp1, hq1]
      simp
    · rw [l1, l2]
      exact list_eqE ps qs
theorem eqb_key {a b : Addr} {k j : NestedKey} (sb : Sub X 1 A) (I : Inv X pins σ H s) (ha : KeyAt X.K H a k) (hb : KeyAt X.K H b j) : wpAny (model X.prog X.w) A (eqBool (.ref a) (.ref b)) (Aft X pins σ H (decide (k = j))) X.xe s := by
  have hu : (nestedKind X.prog X.w).room A := by
    show A.units + 8 < cLine
    have := sb.room.un
    omega
  exact (nestedKind X.prog X.w).eqBool hu (key_is I ha) (key_is I hb) ⟨rfl, H, I.tok _, Ext.rfl'⟩
theorem key_inj (I : Inv X pins σ H s) {a : Addr} {k j : NestedKey} (ha : KeyAt X.K H a k) (hb : KeyAt X.K H a j) : k = j := (nestedKind X.prog X.w).inj (key_is I ha) (key_is I hb)
theorem ent_inj (I : Inv X pins σ H s) {v : V} {x y : NestedKey × List Rat} (hx : EntAt X.K H v x) (hy : EntAt X.K H v y) : x = y := by
  obtain ⟨t, b, lt, vs, rfl, h2, h3, h4, h5⟩ := hx
  obtain ⟨t', b', lt', vs', e, k2, k3, k4, k5⟩ := hy
  cases e
  have e1 := I.tuple_inj h2 k2
  simp only [List.cons.injEq, V.ref.injEq, and_true] at e1
  obtain ⟨rfl, rfl⟩ := e1
  have e2 := I.tuple_inj h4 k4
  subst e2
  exact Prod.ext (key_inj I h3 k3) (rats_inj h5 k5)
theorem eqb_ent (T : Txt X.K X.mg) {x y : V} {u v : Value} {d e : NestedKey × List Rat} (sb : Sub X 3 A) (I : Inv X pins σ H s) (rx : RelV x u) (ry : RelV y v) (hd : EntAt X.K H x d) (he : EntAt X.K H y e) :
    wpAny (model X.prog X.w) A (eqBool u v) (Aft X pins σ H (decide (d = e))) X.xe s := by
  obtain ⟨t, b, lt, vs, rfl, h2, h3, h4, h5⟩ := id hd
  obtain ⟨t', b', lt', vs', rfl, k2, k3, k4, k5⟩ := id he
  cases rx
  cases ry
  by_cases hab : t = t'
  · subst hab
    have := ent_inj I hd he
    subst this
    exact SeqAt.EqAt.same (A := A) (s := s) (.ref t) X.prog X.w X.xe _ ⟨(decide_eq_true rfl).symm, H, I, Ext.rfl'⟩
  · refine GQ.eqBool_refG hab ?_
    obtain ⟨its, r, e1, z⟩ := I.tuple h2
    obtain ⟨its2, r2, e2, z2⟩ := I.tuple k2
    cases r with
    | cons r1 rr =>
      cases rr with
      | cons r3 rr =>
        cases rr
        cases r2 with
        | cons q1 qq =>
          cases qq with
          | cons q3 qq =>
            cases qq
            cases r1
            cases r3
            cases q1
            cases q3
            refine QB.rc_tupB sb.room.units0 (fun _ s' => LoopI X pins σ H s') e1 e2 (e := fun i => if i = 0 then decide (d.1 = e.1) else decide (d.2 = e.2)) (fun i g1 g2 s' q => ?_) (fun i s' q => ⟨_, rfl, ?_, q⟩) ⟨H, I, Ext.rfl'⟩
            · obtain ⟨H1, I1, x1⟩ := q
              have g1' : i < 2 := g1
              rcases (by omega : i = 0 ∨ i = 1) with rfl | rfl
              · refine wpAny_mono (eqb_key (sb.in1.mono (by decide)) I1 (h3.mono x1) (k3.mono x1)) (fun rr s2 q2 => ?_) fun _ _ x => x
                obtain ⟨er, H2, I2, x2⟩ := q2
                exact ⟨er, H2, I2, x1.trans x2⟩
              · refine wpAny_mono (eqb_rats T sb.in1 I1 (ex_t x1 h4) (ex_t x1 k4) (rats_mono h5 x1) (rats_mono k5 x1)) (fun rr s2 q2 => ?_) fun _ _ x => x
                obtain ⟨er, H2, I2, x2⟩ := q2
                exact ⟨er, H2, I2, x1.trans x2⟩
            · show (decide (2 = 2) && QB.allE (fun i => if i = 0 then decide (d.1 = e.1) else decide (d.2 = e.2)) 0 2) = decide (d = e)
              have : decide (d = e) = (decide (d.1 = e.1) && decide (d.2 = e.2)) := by
                rw [← Bool.decide_and]
                congr 1
                exact propext ⟨fun z => by subst z; exact ⟨rfl, rfl⟩, fun z => Prod.ext z.1 z.2⟩
              rw [this]
              unfold QB.allE
              simp [List.range_succ]
def rEqEnts (K : PySem.W.Frag) : R2 := fun x y H Q => ∃ (a b : Addr) (xs ys : List V) (es fs : List (NestedKey × List Rat)), x = .ref a ∧ y = .ref b ∧ H a = some (.lst xs) ∧ H b = some (.lst ys) ∧ EntsAt K H xs es ∧ EntsAt K H ys fs ∧ ∀ H', Ex H H' → Q (.bl (decide (es = fs))) H'
theorem op_eqEnts (T : Txt X.K X.mg) (hr : Room 4 X.A) : OpR X (compareOp .Eq) (rEqEnts X.K) := by
  intro pins s σ H x y v u Q I rx ry hq
  obtain ⟨a, b, xs, ys, es, fs, rfl, rfl, ha, hb, he, hf, q⟩ := hq
  cases (show v = Value.ref a from rx)
  cases (show u = Value.ref b from ry)
  have sb : Sub X 4 X.A := ⟨hr, rfl⟩
  show wpAny (model X.prog X.w) X.A (richCompare .Eq (.ref a) (.ref b)) (EP X pins σ Q) X.xe s
  obtain ⟨z, its, n, r, e1⟩ := I.hok a _ ha
  obtain ⟨z2, its2, n2, r2, e2⟩ := I.hok b _ hb
  have l1 : its.toArray.size = es.length := by rw [List.size_toArray, ← r.length]; exact Paired.length he
  have l2 : its2.toArray.size = fs.length := by rw [List.size_toArray, ← r2.length]; exact Paired.length hf
  by_cases hl : es.length = fs.length
  · refine QB.rc_listB (N := es.length) (e := fun i => decide (es[i]? = fs[i]?)) sb.room.units0 (fun _ s' => LoopI X pins σ H s') (fun i s' qq => ?_) (fun i s' qq => ?_) ⟨H, I, Ext.rfl'⟩
    · obtain ⟨H1, I1, x1⟩ := id qq
      obtain ⟨z, its, k, r, e1⟩ := I1.hok a _ (x1 _ _ ha)
      obtain ⟨z2, its2, k2, r2, e2⟩ := I1.hok b _ (x1 _ _ hb)
      have l1 : its.toArray.size = es.length := by rw [List.size_toArray, ← r.length]; exact Paired.length he
      have l2 : its2.toArray.size = fs.length := by rw [List.size_toArray, ← r2.length]; exact Paired.length hf
      refine ⟨its.toArray, its2.toArray, k, k2, e1, e2, l1, by rw [l2, hl], fun h1 h2 => ?_⟩
      have v1 : i < xs.length := by rw [Paired.length he]; omega
      have v2 : i < ys.length := by rw [Paired.length hf]; omega
      obtain ⟨u, hu, ru⟩ := r.get (List.getElem?_eq_getElem v1)
      obtain ⟨v, hv, rv⟩ := r2.get (List.getElem?_eq_getElem v2)
      rw [at_arr h1] at hu
      rw [at_arr h2] at hv
      obtain ⟨d, hd1, hd2⟩ := paired_get he (List.getElem?_eq_getElem v1)
      obtain ⟨e, he1, he2⟩ := paired_get hf (List.getElem?_eq_getElem v2)
      rw [Option.some.inj hu, Option.some.inj hv]
      refine wpAny_mono (eqb_ent T sb.in1 I1 ru rv (hd2.mono x1) (he2.mono x1)) (fun rr s2 q2 => ?_) fun _ _ x => x
      obtain ⟨er, H2, I2, x2⟩ := q2
      refine ⟨?_, H2, I2, x1.trans x2⟩
      show rr = decide (es[i]? = fs[i]?)
      rw [er, hd1, he1]
      simp
    · obtain ⟨H1, I1, x1⟩ := qq
      have e := list_eqE es fs
      rw [decide_eq_true hl, Bool.true_and] at e
      rw [e]
      exact ⟨.bl _, H1, I1, rfl, q H1 x1⟩
  · refine QB.rc_listNeB sb.room.units0 e1 e2 (by rw [l1, l2]; exact hl) ⟨.bl false, H, I, rfl, ?_⟩
    have : decide (es = fs) = false := decide_eq_false fun z => hl (by rw [z])
    rw [← this]
    exact q H (Ex.refl H)
end
end LL
namespace LL
open PySem PySem.Spec PyProof.Rows L2 He Evl
/-! ### the words of numbers -/
abbrev istr (i : Int) : Str := Str.ofString (toString i)
theorem istr_l {i : Int} (h0 : 0 ≤ i) : (istr i).cps.toList = TL.numL i.toNat := by
  obtain ⟨n, rfl⟩ : ∃ n : Nat, i = n := ⟨i.toNat, by omega⟩
  exact TL.tl_num n
theorem istr_n (n : Nat) : (istr (n : Int)).cps.toList = TL.numL n := istr_l (by omega)
theorem numL_head : ∀ (n : Nat), 1 ≤ n → ∃ c r, TL.numL n = c :: r ∧ 49 ≤ c := by
  intro n
  induction n using Nat.strongRecOn with
  | ind n ih =>
    intro h
    by_cases h10 : n < 10
    · exact ⟨48 + n, [], TL.numL_lt h10, by omega⟩
    · obtain ⟨c, r, e, hc⟩ := ih (n / 10) (by omega) (by omega)
      exact ⟨c, r ++ [48 + n % 10], by rw [TL.numL_step (by omega), e]; rfl, hc⟩
theorem numL_top (n : Nat) : n < 10 ^ (TL.numL n).length := by
  induction n using Nat.strongRecOn with
  | ind n ih =>
    by_cases h : n < 10
    · rw [TL.numL_lt h]; simpa using h
    · have := ih (n / 10) (by omega)
      rw [TL.numL_step (by omega), List.length_append, List.length_singleton, Nat.pow_succ]
      omega
/-- digits are a number's text when no 0 is too many -/
theorem canon : ∀ (k : Nat) (cs : List Nat), cs.length = k → cs ≠ [] → (∀ c ∈ cs, 48 ≤ c ∧ c ≤ 57) → (cs = [48] ∨ cs[0]? ≠ some 48) → ∃ n, cs = TL.numL n := by
  intro k
  induction k with
  | zero => intro cs h1 h2; exact absurd (List.length_eq_zero_iff.mp h1) h2
  | succ k ih =>
    intro cs h1 h2 h3 h4
    obtain ⟨ds, d, rfl⟩ : ∃ ds d, cs = ds ++ [d] := ⟨cs.dropLast, cs.getLast h2, (List.dropLast_concat_getLast h2).symm⟩
    have hd := h3 d (by simp)
    by_cases e : ds = []
    · subst e
      exact ⟨d - 48, by rw [TL.numL_lt (by omega)]; show [d] = _; congr 1; omega⟩
    · have h0 : ds[0]? ≠ some 48 := by
        rcases h4 with h4 | h4
        · exfalso
          have := congrArg List.length h4
          rw [List.length_append] at this
          simp at this
          exact e this
        · intro z
          apply h4
          rw [List.getElem?_append_left (List.length_pos_iff.mpr e)]
          exact z
      have hlen : ds.length = k := by rw [List.length_append] at h1; simp at h1; exact h1
      obtain ⟨m, hm⟩ := ih ds hlen e (fun c hc => h3 c (by simp [hc])) (.inr h0)
      have hm1 : 1 ≤ m := by
        rcases Nat.eq_zero_or_pos m with z | z
        · exfalso; subst z; apply h0; rw [hm]; rfl
        · exact z
      refine ⟨10 * m + (d - 48), ?_⟩
      rw [TL.numL_step (by omega), show (10 * m + (d - 48)) / 10 = m from by omega, show 48 + (10 * m + (d - 48)) % 10 = d from by omega, hm]
theorem str_l {x y : Str} (h : x.cps.toList = y.cps.toList) : x = y := TL.ext_tl h
/-- x writes n with up to 60 digits -/
def Num (x : Str) (n : Nat) : Prop := x = istr (n : Int) ∧ n < 10 ^ 60
theorem Num.len {x : Str} {n : Nat} (h : Num x n) : 1 ≤ x.length ∧ x.length ≤ 60 := by
  have e : x.length = (TL.numL n).length := by rw [← istr_n, h.1]; simp [Str.length]
  rw [e]
  exact ⟨List.length_pos_iff.mpr (TL.numL_ne _), TL.numL_len (by decide) h.2⟩
theorem Num.dig {x : Str} {n : Nat} (h : Num x n) : ∀ c ∈ x.cps.toList, 48 ≤ c ∧ c ≤ 57 := by
  rw [h.1, istr_n]
  exact fun c hc => TL.numL_digits _ c hc
theorem Num.head {x : Str} {n : Nat} (h : Num x n) : x = "0" ∨ ∃ c, x.cps.toList[0]? = some c ∧ 49 ≤ c := by
  by_cases z : n = 0
  · subst z; exact .inl h.1
  · obtain ⟨c, r, e, hc⟩ := numL_head n (by omega)
    exact .inr ⟨c, by rw [h.1, istr_n, e]; rfl, hc⟩
theorem Num.val {x : Str} {n : Nat} (h : Num x n) : PySem.intText? x = some (n : Int) := by
  rw [h.1]
  exact TL.int_num (Nat.le_trans (TL.numL_len (k := 60) (by decide) h.2) (by decide))
theorem Num.inj {x : Str} {m n : Nat} (h : Num x m) (k : Num x n) : m = n := by
  have := h.val.symm.trans k.val
  exact Int.ofNat.inj (Option.some.inj this)
theorem num_of {x : Str} (h1 : 1 ≤ x.length) (h2 : x.length ≤ 60) (h3 : ∀ c ∈ x.cps.toList, 48 ≤ c ∧ c ≤ 57) (h4 : x = "0" ∨ x.cps.toList[0]? ≠ some 48) : ∃ n, Num x n := by
  have hl : x.length = x.cps.toList.length := by simp [Str.length]
  obtain ⟨n, hn⟩ := canon _ x.cps.toList rfl (by intro z; rw [z] at hl; simp at hl; omega) h3 (by
    rcases h4 with h4 | h4
    · exact .inl (by rw [h4]; rfl)
    · exact .inr h4)
  refine ⟨n, str_l (by rw [hn, istr_n]), ?_⟩
  have := numL_top n
  rw [← hn, ← hl] at this
  exact Nat.lt_of_lt_of_le this (Nat.pow_le_pow_right (by decide) h2)
def DIG_ : Str := "0123456789"
theorem dig_in (c : Nat) : c ∈ DIG_.cps.toList ↔ 48 ≤ c ∧ c ≤ 57 := by
  have e : DIG_.cps.toList = [48, 49, 50, 51, 52, 53, 54, 55, 56, 57] := by decide +kernel
  rw [e]
  simp only [List.mem_cons, List.not_mem_nil, or_false]
  omega
theorem atI_nat {α : Type} {xs : List α} {j : Nat} {x : α} (h : xs[j]? = some x) : atI xs (j : Int) = some x := by
  obtain ⟨hj, e⟩ := List.getElem?_eq_some_iff.mp h
  unfold atI
  rw [ixN_nat hj]
  simp [hj, e]
/-! ### joined words -/
theorem spl_words {W : List Str} {s : Str} {c : Nat} (es : s.cps.toList = [c]) (hc : c < 256) (hne : W ≠ []) (h : ∀ x ∈ W, c ∉ x.cps.toList) : Txt.split (Txt.join s W) s = W := by
  refine TL.split_join (s := c) (S := []) es ?_ hne h
  rw [← Array.all_toList, es]
  simpa using hc
theorem spl_ne (c : Nat) : ∀ (l acc : List Nat), TL.spl [c] 0 acc l ≠ []
  | [], acc => by rw [TL.spl_nil]; simp
  | d :: r, acc => by
    by_cases h : TL.pre [c] (d :: r) = true
    · rw [TL.spl_hit h]; simp
    · rw [TL.spl_miss (by simpa using h)]; exact spl_ne c r _
theorem spl_back (c : Nat) : ∀ (l acc : List Nat), TL.joinL [c] (TL.spl [c] 0 acc l) = acc ++ l
  | [], acc => by rw [TL.spl_nil, List.append_nil]; rfl
  | d :: r, acc => by
    by_cases h : TL.pre [c] (d :: r) = true
    · have hd : d = c := by
        have h2 : (([d] : List Nat) == [c]) = true := h
        simpa using h2
      rw [TL.spl_hit h]
      have ih := spl_back c r []
      show TL.joinL [c] (acc :: TL.spl [c] 0 [] r) = _
      cases e : TL.spl [c] 0 [] r with
      | nil => exact absurd e (spl_ne c r [])
      | cons p t =>
        rw [e] at ih
        show acc ++ ([c] ++ TL.joinL [c] (p :: t)) = _
        rw [ih, hd]
        simp
    · rw [TL.spl_miss (by simpa using h), spl_back c r]
      simp
/-- a text's parts give the text back -/
theorem split_back {x s : Str} {c : Nat} (es : s.cps.toList = [c]) (hc : c < 256) : Txt.split x s ≠ [] ∧ Txt.join s (Txt.split x s) = x := by
  have hk : ¬ Builtin.Str.strKind x < Builtin.Str.strKind s := TL.kind_ok (by rw [← Array.all_toList, es]; simpa using hc)
  have e : (Txt.split x s).map TL.tl = TL.spl [c] 0 [] (TL.tl x) := by
    have := TL.split_spl x s (by rw [show TL.tl s = [c] from es]; simp) hk
    rw [show TL.tl s = [c] from es] at this
    exact this
  constructor
  · intro z
    rw [z] at e
    exact spl_ne c _ _ e.symm
  · refine TL.ext_tl ?_
    rw [TL.join_eq, TL.tl_join, e, show TL.tl s = [c] from es, spl_back]
    rfl
theorem join_mem_len {s : Str} : ∀ {W : List Str} {p : Str}, p ∈ W → p.length ≤ (Txt.join s W).length := by
  intro W p h
  rw [TL.join_eq, TL.len_tl, TL.len_tl, TL.tl_join]
  have : ∀ (L : List (List Nat)) (q : List Nat), q ∈ L → q.length ≤ (TL.joinL (TL.tl s) L).length := by
    intro L
    induction L with
    | nil => intro q h; cases h
    | cons a L ih =>
      intro q h
      cases L with
      | nil =>
        rcases List.mem_cons.mp h with rfl | h
        · exact Nat.le_refl _
        · cases h
      | cons b L =>
        show q.length ≤ (a ++ (TL.tl s ++ TL.joinL (TL.tl s) (b :: L))).length
        rw [List.length_append, List.length_append]
        rcases List.mem_cons.mp h with rfl | h
        · omega
        · have := ih q h
          omega
  exact this _ _ (List.mem_map.mpr ⟨p, h, rfl⟩)
theorem join2 (s p q : Str) : Txt.join s [p, q] = p ++ s ++ q := by
  refine TL.ext_tl ?_
  rw [TL.join_eq, TL.tl_join, TL.tl_append, TL.tl_append, List.append_assoc]
  rfl
theorem join1 (s p : Str) : Txt.join s [p] = p := by
  refine TL.ext_tl ?_
  rw [TL.join_eq, TL.tl_join]
  rfl
/-! ### the words of fractions -/
/-- x writes the fraction q -/
def RatTxt (x : Str) (q : Rat) : Prop := 0 ≤ q.num ∧ q.num < 10 ^ 60 ∧ q.den < 10 ^ 60 ∧ x = ratStr q
theorem num_free {x : Str} {n : Nat} (h : Num x n) {c : Nat} (hc : c < 48 ∨ 57 < c) : c ∉ x.cps.toList := fun z => by
  have := h.dig c z
  omega
theorem RatTxt.parts {x : Str} {q : Rat} (h : RatTxt x q) : (q.den = 1 ∧ Txt.split x "/" = [istr q.num] ∧ Num (istr q.num) q.num.toNat) ∨
    (2 ≤ q.den ∧ Txt.split x "/" = [istr q.num, istr (q.den : Int)] ∧ Num (istr q.num) q.num.toNat ∧ Num (istr (q.den : Int)) q.den) := by
  obtain ⟨h0, h1, h2, h3⟩ := h
  have hn : Num (istr q.num) q.num.toNat := ⟨by rw [Int.toNat_of_nonneg h0], by omega⟩
  by_cases z : q.den = 1
  · left
    refine ⟨z, ?_, hn⟩
    have e := spl_words (W := [istr q.num]) (s := ("/" : Str)) (c := 47) rfl (by decide) (by simp) fun p hp => by
      rcases List.mem_singleton.mp hp with rfl
      exact num_free hn (by decide)
    rw [join1] at e
    rw [h3, ratStr, if_pos z]
    exact e
  · right
    have hd : Num (istr (q.den : Int)) q.den := ⟨rfl, h2⟩
    have := q.den_pos
    refine ⟨by omega, ?_, hn, hd⟩
    rw [h3, ratStr, if_neg z]
    rw [show (Str.ofString (toString q.num) ++ Str.ofString "/" ++ Str.ofString (toString (q.den : Int))) = Txt.join "/" [istr q.num, istr (q.den : Int)] from (join2 _ _ _).symm]
    refine spl_words (c := 47) rfl (by decide) (by simp) ?_
    intro p hp
    simp only [List.mem_cons, List.not_mem_nil, or_false] at hp
    rcases hp with rfl | rfl
    · exact num_free hn (by decide)
    · exact num_free hd (by decide)
theorem ratTxt_one {x : Str} {n : Nat} (h : Num x n) : RatTxt x (n : Rat) := by
  refine ⟨?_, ?_, ?_, ?_⟩
  · rw [Rat.num_natCast]; omega
  · rw [Rat.num_natCast]; have := h.2; omega
  · rw [Rat.den_natCast]; decide
  · rw [h.1, ratStr, if_pos (Rat.den_natCast n), Rat.num_natCast]
theorem mk_num {n d : Nat} (h : (mkRat n d).den = d) (hd : d ≠ 0) : (mkRat (n : Int) d).num = n := by
  have e := (Rat.mkRat_eq_iff hd (mkRat (n : Int) d).den_nz).mp (Rat.mkRat_self (mkRat (n : Int) d)).symm
  rw [h] at e
  have hd' : (d : Int) ≠ 0 := by omega
  exact (Int.eq_of_mul_eq_mul_right hd' e).symm
theorem ratTxt_two {x y : Str} {n d : Nat} (h : Num x n) (g : Num y d) (hd : 2 ≤ d) (hr : (mkRat n d).den = d) : RatTxt (x ++ "/" ++ y) (mkRat n d) := by
  have e := mk_num hr (by omega)
  refine ⟨by omega, by have := h.2; omega, by rw [hr]; exact g.2, ?_⟩
  rw [ratStr, if_neg (by omega), e, hr, h.1, g.1]
end LL
namespace LL
open PySem PySem.Spec PyProof.Rows L2 He Evl ND
/-! ### events, views, entries, lines -/
def evCount (x : Str) : Option Nat := if x = "shown" then some 1 else if x = "asked" then some 2 else if x = "did" then some 1 else none
def evW (e : Evt) : List Str := e.1 :: e.2.map fun n => istr (n : Nat)
def viewW (v : List Evt) : List Str := v.flatMap evW
def EvOk (e : Evt) : Prop := evCount e.1 = some e.2.length ∧ ∀ n ∈ e.2, n < 10 ^ 60
def QOk (q : Rat) : Prop := 0 ≤ q.num ∧ q.num < 10 ^ 60 ∧ q.den < 10 ^ 60
abbrev PE := List Evt × List Rat
def entE (p : PE) : NestedKey × List Rat := (viewK p.1, p.2)
def POk (p : PE) : Prop := p.1.length ≤ 100 ∧ (∀ e ∈ p.1, EvOk e) ∧ p.2.length ≤ 100 ∧ ∀ q ∈ p.2, QOk q
def lineW (p : PE) : List Str := ((("at" : Str) :: viewW p.1) ++ [("do" : Str)]) ++ p.2.map ratStr
def lineT (p : PE) : Str := Txt.join " " (lineW p)
theorem QOk.txt {q : Rat} (h : QOk q) : RatTxt (ratStr q) q := ⟨h.1, h.2.1, h.2.2, rfl⟩
theorem pow_60 : (10 : Nat) ^ 60 < 2 ^ 200 := by decide +kernel
theorem QOk.sz {q : Rat} (h : QOk q) : Sz 200 q := by
  have := pow_60
  exact ⟨by have := h.1; have := h.2.1; omega, Nat.lt_trans h.2.2 this⟩
theorem evCount_kind {x : Str} {c : Nat} (h : evCount x = some c) : (x = "shown" ∧ c = 1) ∨ (x = "asked" ∧ c = 2) ∨ (x = "did" ∧ c = 1) := by
  unfold evCount at h
  split at h
  · exact .inl ⟨‹_›, (Option.some.inj h).symm⟩
  split at h
  · exact .inr (.inl ⟨‹_›, (Option.some.inj h).symm⟩)
  split at h
  · exact .inr (.inr ⟨‹_›, (Option.some.inj h).symm⟩)
  · cases h
theorem EvOk.len {e : Evt} (h : EvOk e) : 1 ≤ e.2.length ∧ e.2.length ≤ 2 := by
  rcases evCount_kind h.1 with ⟨_, h⟩ | ⟨_, h⟩ | ⟨_, h⟩ <;> omega
/-- a word of a line: short, without a space, not the other words -/
def WShort (x : Str) : Prop := 1 ≤ x.length ∧ x.length ≤ 121 ∧ (32 : Nat) ∉ x.cps.toList
theorem num_short {n : Nat} (h : n < 10 ^ 60) : WShort (istr (n : Nat)) := by
  have hn : Num (istr (n : Nat)) n := ⟨rfl, h⟩
  obtain ⟨h1, h2⟩ := hn.len
  exact ⟨h1, by omega, num_free hn (by decide)⟩
theorem app_len (x y : Str) : (x ++ y).length = x.length + y.length := by
  rw [TL.len_tl, TL.len_tl, TL.len_tl, TL.tl_append, List.length_append]
theorem rat_short {q : Rat} (h : QOk q) : WShort (ratStr q) := by
  have hn : Num (istr q.num) q.num.toNat := ⟨by rw [Int.toNat_of_nonneg h.1], by have := h.1; have := h.2.1; omega⟩
  have hd : Num (istr (q.den : Int)) q.den := ⟨rfl, h.2.2⟩
  obtain ⟨a1, a2⟩ := hn.len
  obtain ⟨b1, b2⟩ := hd.len
  unfold ratStr
  split
  · exact ⟨a1, Nat.le_trans a2 (by decide), num_free hn (by decide)⟩
  · refine ⟨?_, ?_, ?_⟩
    · rw [app_len, app_len]
      have : (Str.ofString (toString q.num)).length = (istr q.num).length := rfl
      omega
    · rw [app_len, app_len]
      have e1 : (Str.ofString (toString q.num)).length = (istr q.num).length := rfl
      have e2 : (Str.ofString (toString (q.den : Int))).length = (istr (q.den : Int)).length := rfl
      have e3 : (Str.ofString "/").length = 1 := rfl
      omega
    · intro z
      have z : 32 ∈ TL.tl (Str.ofString (toString q.num) ++ Str.ofString "/" ++ Str.ofString (toString (q.den : Int))) := z
      rw [TL.tl_append, TL.tl_append] at z
      rcases List.mem_append.mp z with z | z
      · rcases List.mem_append.mp z with z | z
        · exact num_free hn (by decide) z
        · exact absurd z (by decide)
      · exact num_free hd (by decide) z
theorem kind_short {x : Str} {c : Nat} (h : evCount x = some c) : WShort x := by
  rcases evCount_kind h with ⟨rfl, _⟩ | ⟨rfl, _⟩ | ⟨rfl, _⟩
  · exact ⟨by decide, by decide, by decide⟩
  · exact ⟨by decide, by decide, by decide⟩
  · exact ⟨by decide, by decide, by decide⟩
theorem evW_short {e : Evt} (h : EvOk e) : ∀ x ∈ evW e, WShort x := by
  intro x hx
  rcases List.mem_cons.mp hx with rfl | hx
  · exact kind_short h.1
  · obtain ⟨n, hn, rfl⟩ := List.mem_map.mp hx
    exact num_short (h.2 n hn)
theorem lineW_short {p : PE} (h : POk p) : ∀ x ∈ lineW p, WShort x := by
  intro x hx
  unfold lineW at hx
  rcases List.mem_append.mp hx with hx | hx
  · rcases List.mem_append.mp hx with hx | hx
    · rcases List.mem_cons.mp hx with rfl | hx
      · exact ⟨by decide, by decide, by decide⟩
      · obtain ⟨e, he, hx⟩ := List.mem_flatMap.mp hx
        exact evW_short (h.2.1 e he) x hx
    · rcases List.mem_singleton.mp hx with rfl
      exact ⟨by decide, by decide, by decide⟩
  · obtain ⟨q, hq, rfl⟩ := List.mem_map.mp hx
    exact rat_short (h.2.2.2 q hq)
theorem viewW_len : ∀ {v : List Evt}, (∀ e ∈ v, EvOk e) → (viewW v).length ≤ 3 * v.length
  | [], _ => Nat.zero_le _
  | e :: v, h => by
    have h1 := (h e (.head _)).len
    have h2 := viewW_len (v := v) fun x hx => h x (.tail _ hx)
    show (evW e ++ viewW v).length ≤ _
    rw [List.length_append, List.length_cons]
    have : (evW e).length = e.2.length + 1 := by simp [evW]
    omega
theorem lineW_len {p : PE} (h : POk p) : (lineW p).length ≤ 402 := by
  have h1 := viewW_len h.2.1
  have h2 := h.1
  have h3 := h.2.2.1
  unfold lineW
  rw [List.length_append, List.length_append, List.length_cons, List.length_map, List.length_singleton]
  omega
theorem sum_le {k : Nat} : ∀ {W : List Str}, (∀ x ∈ W, x.length ≤ k) → (W.map (·.length)).sum ≤ W.length * k
  | [], _ => Nat.zero_le _
  | x :: W, h => by
    have h1 := h x (.head _)
    have h2 := sum_le (W := W) fun y hy => h y (.tail _ hy)
    rw [List.map_cons, List.sum_cons, List.length_cons, Nat.add_mul]
    omega
theorem lineW_join {p : PE} (h : POk p) : ((lineW p).map (·.length)).sum + (lineW p).length * (" " : Str).length ≤ 16777216 := by
  have h1 := sum_le (k := 121) fun x hx => (lineW_short h x hx).2.1
  have h2 := lineW_len h
  have h3 := Nat.mul_le_mul_right 121 h2
  have e : (" " : Str).length = 1 := rfl
  rw [e]
  omega
theorem lineT_split {p : PE} (h : POk p) : Txt.split (lineT p) " " = lineW p :=
  spl_words (c := 32) rfl (by decide) (by simp [lineW]) fun x hx => (lineW_short h x hx).2.2
end LL
namespace LL
open PySem PySem.Spec PyProof.Rows L2 He Evl ND
section
variable {K : PySem.W.Frag} {σ : L2.St} {H : Hp} {te tl : TE} {j : Nat} {vs : List Nat} {xs ys : List V}
end
section
variable {K : PySem.W.Frag}
/-! ### keys of views in the heap -/
end
end LL
namespace LL
open PySem PySem.Spec PyProof.Rows L2 He Evl ND
section
variable {X : Cx} {e : Expr} {p pos : Pos} {ta : TA}
theorem pmk_BadPlan (T : Txt X.K X.mg) (hr : Room 2 X.A) (ha : PA X [e] ta) (hP : X.prog = PR := by rfl) (hg : Gl X "BadPlan" := by rfl) (he : starEach [e] X.env = (false, eval e X.env) :: starEach [] X.env := by rfl) : PMk X (.Call (.Name "BadPlan" p) [e] [] pos) (tMkS (ga X.K "BadPlan") "at" ta) :=
  pmk_sup (by rw [hP]; exact T.s_BadPlan) T.f_super hr hg T.g_BadPlan ha (by decide) he
end
section
variable {w : World} {K : PySem.W.Frag} {mg : Str → Option Value} {base : Heap}
def sumR (qs : List Rat) : Rat := qs.foldl (· + ·) 0
theorem sz_of {n d : Int} {k : Nat} (h0 : 0 < d) (h1 : n.natAbs < 2 ^ k) (h2 : d.natAbs < 2 ^ k) : Sz k (mkRat n d.toNat) := by
  have e : (if d.toNat = 0 then 0 else n / ↑(d.toNat.gcd n.natAbs)) = n / ↑(d.toNat.gcd n.natAbs) := if_neg (by omega)
  have e2 : (if d.toNat = 0 then 1 else d.toNat / d.toNat.gcd n.natAbs) = d.toNat / d.toNat.gcd n.natAbs := if_neg (by omega)
  constructor
  · rw [Rat.num_mkRat, e]
    exact Nat.lt_of_le_of_lt (Int.natAbs_ediv_le_natAbs _ _) h1
  · rw [Rat.den_mkRat, e2]
    exact Nat.lt_of_le_of_lt (Nat.div_le_self _ _) (by omega)
theorem sz_add {p q : Rat} {j k : Nat} (hp : Sz j p) (hq : Sz k q) : Sz (j + k + 1) (p + q) := by
  rw [add_mk]
  have a1 := mul_lt_pow hp.1 hq.2
  have a2 := mul_lt_pow hq.1 hp.2
  have a3 := mul_lt_pow hp.2 hq.2
  have e : 2 ^ (j + k + 1) = 2 ^ (j + k) + 2 ^ (j + k) := by rw [Nat.pow_succ]; omega
  rw [Nat.add_comm k j] at a2
  refine sz_of (den_nz p q) ?_ ?_
  · refine Nat.lt_of_le_of_lt (Int.natAbs_add_le _ _) ?_
    rw [Int.natAbs_mul, Int.natAbs_mul, Int.natAbs_natCast, Int.natAbs_natCast, e]
    omega
  · rw [← Int.natCast_mul, Int.natAbs_natCast, e]
    omega
theorem sz_sum {k : Nat} : ∀ {qs : List Rat}, (∀ q ∈ qs, Sz k q) → ∀ {j : Nat} {p : Rat}, Sz j p → Sz (j + qs.length * (k + 1)) (qs.foldl (· + ·) p)
  | [], _, j, p, h => by simpa using h
  | q :: qs, hq, j, p, h => by
    have h1 := sz_add h (hq q (.head _))
    have h2 := sz_sum (fun x hx => hq x (.tail _ hx)) h1
    rw [List.foldl_cons]
    refine h2.mono ?_
    rw [List.length_cons, Nat.add_mul]
    omega
/-- the sum of a list of Ratios -/
def spAdded (K : PySem.W.Frag) : Sp := fun us H Q _ => ∃ (a : Addr) (vs : List V) (qs : List Rat) (k : Nat), us = [.ref a] ∧ SqL K H a vs ∧ RatsAt K H vs qs ∧ (∀ q ∈ qs, Sz k q) ∧ 1 + qs.length * (k + 1) ≤ 8000 ∧ (1 ≤ k ∧ k ≤ 1000) ∧ ∀ v H', Ex H H' → RatAt K H' v (sumR qs) → Q v H'
theorem fn_added (T : Txt K mg) : Fn P w K mg base 4 (ga K "added") (spAdded K) := by
  refine fn_def T.d_added sc_added (fun _ _ _ _ _ _ us hl => match us, hl with | [_], _ => rfl) (fun vs H Q E h => ?_) (fun cdv A outer s H vs Q E hr h => ?_)
  · obtain ⟨a, vs, qs, k, rfl, _⟩ := h
    rfl
  obtain ⟨a, vs, qs, j, rfl, hs, hq, hz, hb, hk, k⟩ := h
  have nd := sc_added.nd
  refine ⟨_, pss_cons (ps_set (i := 1) nd rfl (by first | exact Or.inl rfl | exact Or.inr rfl) (StX.pe_makeR T.m_Ratio (fn_RI1 T) (hr.mono (by decide)) rfl T.g_Ratio pc (pa_cons (pe_int) pa_nil)))
      (pss_cons (ps_for (passes_of rfl) rfl (pi_list (pv 0)) (pg_name (i := 2) nd rfl (by first | exact Or.inl rfl | exact Or.inr rfl)) (pss_one (ps_set (i := 1) nd rfl (by first | exact Or.inl rfl | exact Or.inr rfl) (pe_op (op_ownB T.sf_Ratio T.t_Ratio_add.at_ T.t_Ratio_add.fn (fn_Ratio_add T) (hr.mono (by decide)) pc) (pv 1) (pv 2)))))
      (pss_one (ps_ret (pv 1)))), ?_⟩
  refine mk_ratio (K := K) (n := 0) (d := 1) (Q := fun v H2 => gName 1 v _ H2 _) (E := E) (by decide) (by decide) fun v0 H1 e1 r0 => ?_
  have e1 : Ex H H1 := e1
  refine ⟨_, rfl, a, rfl, ⟨vs, ex_l e1 hs⟩, for_list (xs := vs) (fun i σ H' => ∃ (v : V) (u2 : Option V), Ex H H' ∧ RatAt K H' v ((qs.take i).foldl (· + ·) 0) ∧ σ = [some (.ref a), some v, u2]) ?_ ?_ ?_ ?_⟩
  · exact ⟨v0, none, e1, r0, rfl⟩
  · rintro i σ H' _ ⟨_, _, e, _⟩
    exact ex_l e hs
  · rintro i x σ H2 hx ⟨v, u2, e2, r2, rfl⟩
    obtain ⟨q, hq1, hq2⟩ := paired_get hq hx
    have hx2 := hq2.mono e2
    obtain ⟨b, dy, rfl, hb⟩ := id hx2
    obtain ⟨c, dz, rfl, hc⟩ := id r2
    have hz2 : Sz 8000 ((qs.take i).foldl (· + ·) 0) := by
      refine (sz_sum (k := j) (j := 1) (fun x hx => hz x (List.mem_of_mem_take hx)) (by constructor <;> decide)).mono ?_
      have : (qs.take i).length ≤ qs.length := by rw [List.length_take]; omega
      have := Nat.mul_le_mul_right (j + 1) this
      omega
    refine ⟨_, rfl, _, rfl, c, _, _, b, _, _, rfl, rfl, hc, hb, _, _, _, _, 8000, j, rfl, r2, hx2, ⟨by decide, hk.1, by have := hk.2; omega⟩, hz2, hz q (List.mem_of_getElem? hq1), fun v' H' e' r' => ?_⟩
    refine ⟨v', _, e2.trans e', ?_, rfl⟩
    rw [List.take_add_one, hq1, List.foldl_append]
    exact r'
  · rintro σ H2 ⟨v, u2, e2, r2, rfl⟩
    rw [Paired.length hq, List.take_length] at r2
    exact ⟨_, rfl, k v H2 e2 r2⟩
end
end LL
namespace LL
open PySem PySem.Spec PyProof.Rows L2 He Evl ND
section
variable {w : World} {K : PySem.W.Frag} {mg : Str → Option Value} {base : Heap}
abbrev Ent := NestedKey × List Rat
/-- an entry that Plan(..) is given -/
def EinAt (K : PySem.W.Frag) (B H : Hp) (v : V) (e : Ent) : Prop := ∃ (t b l : Addr) (vs : List V), v = .ref t ∧ SqT K B t [.ref b, .ref l] ∧ KeyAt K B b e.1 ∧ SqL K H l vs ∧ RatsAt K B vs e.2
/-- the table's entries -/
def TabAt (K : PySem.W.Frag) (H : Hp) (kvs : List NE) (es : List Ent) : Prop := Paired (fun (n : NE) (e : Ent) => n.1 = e.1 ∧ KeyAt K H n.2.1 n.1 ∧ ∃ (b : Addr) (vs : List V), n.2.2 = .ref b ∧ SqT K H b vs ∧ RatsAt K H vs e.2) kvs es
theorem sql_stp {ms : List Addr} {B H B2 H2 : Hp} {a : Addr} {vs : List V} (h : SqL K H a vs) (s : Stp ms B H B2 H2) (hn : ∀ m ∈ ms, ¬ Rd H m (.lst vs)) : SqL K H2 a vs := by
  rcases h with (h | ⟨u, h⟩) | h
  · exact .inl (.inl (s.fr _ _ (fun z => hn a z (.inl h)) h))
  · exact .inl (.inr ⟨u, s.fr _ _ (fun z => hn a z (.inr ⟨u, h⟩)) h⟩)
  · exact .inr h
theorem rd_ne {H : Hp} {m : Addr} {o u : HO} (h : H m = some o) (n1 : o ≠ u) (n2 : ∀ ob, o ≠ .frz ob u) : ¬ Rd H m u := by
  rintro (z | ⟨ob, z⟩)
  · rw [h] at z; exact n1 (Option.some.inj z)
  · rw [h] at z; exact n2 ob (Option.some.inj z)
theorem ndo_ne {P : Program} {w : World} {a : Addr} {kvs : List NE} {xs : List V} : NDo P w a kvs ≠ .lst xs ∧ ∀ ob, NDo P w a kvs ≠ .frz ob (.lst xs) :=
  ⟨(fun z => by unfold NDo at z; cases z), (fun ob z => by unfold NDo at z; cases z)⟩
theorem ein_stp {ms : List Addr} {B H B2 H2 : Hp} {v : V} {e : Ent} (h : EinAt K B H v e) (s : Stp ms B H B2 H2) (hn : ∀ m ∈ ms, ∀ xs, ¬ Rd H m (.lst xs)) : EinAt K B2 H2 v e := by
  obtain ⟨t, b, l, vs, h1, h2, h3, h4, h5⟩ := h
  exact ⟨t, b, l, vs, h1, ex_t s.base h2, h3.mono s.base, sql_stp h4 s fun m hm => hn m hm vs, rats_mono h5 s.base⟩
theorem TabAt.mono {H H' : Hp} {kvs : List NE} {es : List Ent} (h : TabAt K H kvs es) (e : Ex H H') : TabAt K H' kvs es := paired_mono h fun n x ⟨h1, h2, b, vs, h3, h4, h5⟩ => ⟨h1, h2.mono e, b, vs, h3, ex_t e h4, rats_mono h5 e⟩
theorem TabAt.ks {H : Hp} {kvs : List NE} {es : List Ent} (h : TabAt K H kvs es) : KsAt K H kvs := by
  induction h with
  | nil => exact fun _ h => nomatch h
  | cons h t ih =>
    intro e he
    rcases List.mem_cons.mp he with rfl | he
    · exact h.2.1
    · exact ih e he
theorem TabAt.get {H : Hp} {kvs : List NE} {es : List Ent} (h : TabAt K H kvs es) (k : NestedKey) : (nGet kvs k).isSome = decide (k ∈ es.map (·.1)) := by
  unfold nGet nP
  induction h with
  | nil => rfl
  | @cons n e ns es h t ih =>
    rw [List.map_cons, List.map_cons]
    by_cases z : n.1 = k
    · rw [valV_pos (p := (n.1, n.2.2)) z]
      have : k ∈ e.1 :: es.map (·.1) := by rw [← z, h.1]; exact List.mem_cons_self
      rw [decide_eq_true this]
      rfl
    · rw [valV_neg (p := (n.1, n.2.2)) z, ih]
      congr 1
      have : ¬ k = e.1 := fun y => z (by rw [y]; exact h.1)
      simp [this]
theorem TabAt.len {H : Hp} {kvs : List NE} {es : List Ent} (h : TabAt K H kvs es) : kvs.length = es.length := Paired.length h
theorem emp_len {α β : Type} {xs : List α} {ys : List β} (h : xs.length = ys.length) : xs.isEmpty = ys.isEmpty := by
  cases xs <;> cases ys <;> first | rfl | cases h
theorem all_any {qs : List Rat} : (qs.all fun q => decide (0 ≤ q.num)) = !(qs.any fun q => decide (q.num < 0)) := by
  induction qs with
  | nil => rfl
  | cons q qs ih =>
    rw [List.all_cons, List.any_cons, ih, Bool.not_or]
    congr 1
    by_cases z : q.num < 0
    · rw [decide_eq_true z, decide_eq_false (by omega)]; rfl
    · rw [decide_eq_false z, decide_eq_true (by omega)]; rfl
theorem tab_add {H : Hp} {kvs : List NE} {es : List Ent} {e : Ent} {k : NestedKey} {b : Addr} {v : V} (h : TabAt K H kvs es) (h1 : k = e.1) (h2 : KeyAt K H b k) (h3 : ∃ (c : Addr) (vs : List V), v = .ref c ∧ SqT K H c vs ∧ RatsAt K H vs e.2) : TabAt K H (kvs ++ [(k, b, v)]) (es ++ [e]) := by
  induction h with
  | nil => exact .cons ⟨h1, h2, h3⟩ .nil
  | cons p q ih => exact .cons p ih
def okE (seen : List NestedKey) (e : Ent) : Bool := !decide (e.1 ∈ seen) && (!e.2.isEmpty && (e.2.all (fun q => decide (0 ≤ q.num)) && decide (sumR e.2 = 1)))
def planBad (seen : List NestedKey) (i : Nat) : List Ent → Option Nat
  | [] => none
  | e :: r => if okE seen e = true then planBad (seen ++ [e.1]) (i + 1) r else some i
def spPI (w : World) (K : PySem.W.Frag) : Sp := fun us H Q E => ∃ (B : Hp) (x dx a : Addr) (vs : List V) (es : List Ent) (k : Nat), us = [.ref x, .ref a] ∧ Ex B H ∧ B x = none ∧ H x = some (.ins (ga K "Plan") dx []) ∧ SqL K H a vs ∧ Paired (EinAt K B H) vs es ∧
  es.length ≤ 1000 ∧ (1 ≤ k ∧ k ≤ 1000) ∧ (∀ e ∈ es, 1 + e.2.length * (k + 1) ≤ 8000 ∧ ∀ q ∈ e.2, Sz k q) ∧
  (planBad [] 0 es = none → ∀ (B2 H2 : Hp) (t : Addr) (kvs : List NE), Stp [x] B H B2 H2 → H2 x = some (.ins (ga K "Plan") dx [("table", .ref t)]) → B2 t = some (NDo P w t kvs) → TabAt K B2 kvs es → Q .non H2) ∧
  (∀ i, planBad [] 0 es = some i → ∀ (B2 H2 : Hp) (d : Addr), Stp [x] B H B2 H2 → H2 d = some (.xd [("at", .int (i : Nat))]) → E (.ref (ga K "BadPlan")) (some d) H2)
theorem fn_Plan_init (T : Txt K mg) : Fn P w K mg base 5 (ma K (ga K "Plan") "__init__") (spPI w K) := by
  refine fn_def T.d_Plan_init sc_Plan_init (fun _ _ _ _ _ _ us hl => match us, hl with | [_, _], _ => rfl) (fun vs H Q E h => ?_) (fun cdv A outer s H vs Q E hr h => ?_)
  · obtain ⟨B, x, dx, a, vs, es, k, rfl, _⟩ := h
    rfl
  obtain ⟨B, x, dx, a, vs, es, j0, rfl, e, hb, hx, hs, hp, hl, hj, hz, kg, kb⟩ := h
  have nd := sc_Plan_init.nd
  refine ⟨_, pss_cons (ps_fld (pv 0) (ND.pe_new) rfl)
      (pss_one (ps_for (passes_of rfl) rfl (pi_enum (by rfl) T.f_enumerate (pa_cons (pv 1) pa_nil)) (pg_tup rfl (pgs_cons (pg_name (i := 2) nd rfl (by first | exact Or.inl rfl | exact Or.inr rfl)) (pgs_cons (pg_name (i := 3) nd rfl (by first | exact Or.inl rfl | exact Or.inr rfl)) pgs_nil))) (pss_cons (ps_asg (pv 3) (pg_tup rfl (pgs_cons (pg_name (i := 4) nd rfl (by first | exact Or.inl rfl | exact Or.inr rfl)) (pgs_cons (pg_name (i := 5) nd rfl (by first | exact Or.inl rfl | exact Or.inr rfl)) pgs_nil))))
      (pss_cons (ps_if (PW.pt (pw_or (pt_cmpR (ND.op_in hr.units) (pv 4) (pe_fld (pv 0) rfl) rfl) (pw_or (pt_not (pt_truth (pv 5) (by intro _; rfl))) (pw_or (pt_val (pe_callB (cr_any rfl) (by rfl) T.f_any (by decide +kernel) (pa_cons (pe_lc (own := [("lot", 6)]) (g := gName 6) (tt := tYes) rfl nd (pi_list (pv 5)) (blkOk_by (N := n_Plan_init) (sc := defScope s_Plan_init) (by decide +kernel)) (fun _ _ _ _ _ => pg_name (i := 6) nd rfl (by first | exact Or.inl rfl | exact Or.inr rfl)) (fun _ _ _ _ _ => pts_nil) (fun _ _ _ _ _ => pe_cmpR op_lt (pek_fld K (pv 6) rfl) (pe_int) (nomark _))) pa_nil))) (pw_or1 (pt_cmpR (op_ownNe T.ne_Ratio T.t_Ratio_eq.at_ T.t_Ratio_eq.fn T.om_Ratio (fn_Ratio_eq T) (hr.mono (by decide)) pc) (pe_fn T.d_added (fn_added T) (hr.mono (by decide)) T.g_added pc (pa_cons (pv 5) pa_nil)) (StX.pe_makeR T.m_Ratio (fn_RI1 T) (hr.mono (by decide)) rfl T.g_Ratio pc (pa_cons (pe_int) pa_nil)) (nomark _))))))) (pss_one (ps_raise rfl (takes_of rfl rfl rfl rfl) (pmk_BadPlan T (hr.mono (by decide)) (pa_cons (pv 2) pa_nil)))) (pss_nil))
      (pss_one (ND.ps_put hr.units (pe_fld (pv 0) rfl) (pv 4) (pe_callTy call_tuple_of (by rfl) T.f_tuple (by decide +kernel) (pa_cons (pv 5) pa_nil)) rfl)))))), ?_⟩
  refine fun t nt => ?_
  have htx : t ≠ x := fun z => by rw [z, hx] at nt; cases nt
  have hx1 := (upd_ne (H := H) (o := NDo P w t []) (ne_of_none hx nt)).trans hx
  have c0 := Stp.cell (ms := [t, x]) (o := NDo P w t []) e nt
  refine ⟨_, rfl, x, ga K "Plan", dx, [], rfl, hx1, T.c_Plan, T.a_Plan_table, (by show 0 < 1000; decide), ?_⟩
  have s0 : Stp [t, x] B (upd H t (NDo P w t [])) B (upd (upd H t (NDo P w t [])) x (.ins (ga K "Plan") dx [("table", .ref t)])) := Stp.put c0.in_ hb (by simp)
  have hbt : B t = none := ex_none e nt
  have hxt : upd H t (NDo P w t []) x = some (.ins (ga K "Plan") dx []) := hx1
  have nolist : ∀ m ∈ [t, x], ∀ xs, ¬ Rd (upd H t (NDo P w t [])) m (.lst xs) := by
    intro m hm xs
    simp only [List.mem_cons, List.not_mem_nil, or_false] at hm
    rcases hm with rfl | rfl
    · exact rd_ne upd_same ndo_ne.1 ndo_ne.2
    · exact rd_ne hxt (fun z => nomatch z) (fun _ z => nomatch z)
  have hs1 : SqL K (upd H t (NDo P w t [])) a vs := ex_l (Ex.new nt) hs
  have hp1 : Paired (EinAt K B (upd H t (NDo P w t []))) vs es := paired_mono hp fun v en ⟨q1, q2, q3, q4, h1, h2, h3, h4, h5⟩ => ⟨q1, q2, q3, q4, h1, h2, h3, ex_l (Ex.new nt) h4, h5⟩
  refine ⟨_, rfl, a, vs, rfl, sql_stp hs1 s0 (fun m hm => nolist m hm vs), for_it (walk_enum (xs := vs)) (fun i σ H' => ∃ (B' : Hp) (kvs : List NE) (u2 u3 u4 u5 u6 : Option V), Stp [t, x] B (upd H t (NDo P w t [])) B' H' ∧ H' t = some (NDo P w t kvs) ∧
      H' x = some (.ins (ga K "Plan") dx [("table", .ref t)]) ∧ TabAt K B' kvs (es.take i) ∧ planBad [] 0 es = planBad ((es.take i).map (·.1)) i (es.drop i) ∧ σ = [some (.ref x), some (.ref a), u2, u3, u4, u5, u6]) ?_ ?_ ?_ ?_⟩
  · exact ⟨B, [], none, none, none, none, none, s0, (upd_ne htx).trans upd_same, upd_same, .nil, rfl, rfl⟩
  · rintro i σ H' _ ⟨B', kvs, _, _, _, _, _, s1, _⟩
    exact sql_stp hs1 s1 fun m hm => nolist m hm vs
  · rintro i y σ H1 H2 hi ⟨B1, kvs, u2, u3, u4, u5, u6, s1, ht1, hx1', htab, hpb, rfl⟩ ⟨T0, y1, y2, rfl, nT0, rfl, ey1, ey2⟩
    cases ey1
    have hie : i < es.length := by rw [← Paired.length hp]; exact hi
    obtain ⟨en, hen, hin⟩ := paired_get hp1 ey2
    have hin1 := ein_stp hin s1 nolist
    obtain ⟨tt, b, l, ls, rfl, htt, hkb, hll, hrr⟩ := hin1
    have sT := Stp.cell (ms := [t, x]) (o := .tup [.int (i : Nat), .ref tt]) s1.in_ nT0
    have s2 := s1.trans sT
    have x12 : Ex H1 (upd H1 T0 (.tup [.int (i : Nat), .ref tt])) := Ex.new nT0
    refine ⟨T0, _, rfl, SqT.of upd_same, rfl, _, _, rfl, _, _, rfl, rfl, ?_⟩
    refine ⟨_, rfl, tt, _, rfl, ex_t s2.in_ htt, rfl, _, _, rfl, _, _, rfl, rfl, ?_⟩
    have ht2 := x12 _ _ ht1
    have hx2 := x12 _ _ hx1'
    have hl2 : SqL K (upd H1 T0 (.tup [.int (i : Nat), .ref tt])) l ls := ex_l x12 hll
    obtain ⟨hzl, hzq⟩ := hz en (List.mem_of_getElem? hen)
    have hdrop : es.drop i = en :: es.drop (i + 1) := by
      rw [List.drop_eq_getElem_cons hie]
      congr 1
      exact Option.some.inj ((List.getElem?_eq_getElem hie).symm.trans hen)
    have hbad : okE ((es.take i).map (·.1)) en = false → planBad [] 0 es = some i := fun z => by
      rw [hpb, hdrop]
      unfold planBad
      rw [z]
      rfl
    have hgood : okE ((es.take i).map (·.1)) en = true → planBad [] 0 es = planBad ((es.take (i + 1)).map (·.1)) (i + 1) (es.drop (i + 1)) := fun z => by
      rw [hpb, hdrop, List.take_add_one, hen]
      conv => lhs; unfold planBad
      rw [z, if_pos rfl, List.map_append]
      rfl
    -- the entry is wrong
    have raise : okE ((es.take i).map (·.1)) en = false → ∀ H4 d, Ex (upd H1 T0 (.tup [.int (i : Nat), .ref tt])) H4 → H4 d = none → E (.ref (ga K "BadPlan")) (some d) (upd H4 d (.xd [("at", .int (i : Nat))])) := fun z H4 d x4 nd4 => by
      have s4 := s2.trans (Stp.ofEx (ms := [t, x]) s2.in_ x4)
      have s5 := s4.trans (Stp.cell (ms := [t, x]) (o := .xd [("at", .int (i : Nat))]) s4.in_ nd4)
      refine kb i (hbad z) B1 _ d ?_ upd_same
      exact Stp.with nt s5

    dsimp only []
    refine q_when (et_or (a := decide (en.1 ∈ (es.take i).map (·.1))) (et_test ?_) fun c1 => et_or (a := en.2.isEmpty) ?_ fun c2 => et_or (a := en.2.any fun q => decide (q.num < 0)) (et_B ?_) fun c3 => et_test (b := !decide (sumR en.2 = 1)) ?_) (fun cb H4 x4 => ?_) (fun cb H4 x4 => ?_)
    · intro H3 x3 Q3 q3
      refine ⟨_, rfl, _, rfl, x, _, _, _, _, rfl, x3 _ _ hx2, T.c_Plan, T.a_Plan_table, rfl, ?_⟩
      refine ⟨t, b, en.1, kvs, rfl, rfl, .inl (x3 _ _ ht2), htab.ks.mono ((s2.in_).trans x3), hkb.mono ((s2.in_).trans x3), ?_⟩
      rw [htab.get en.1]
      exact q3 H3 (Ex.refl _)
    · intro H3 x3 Q3 q3
      refine ⟨_, rfl, !en.2.isEmpty, .inl ⟨ls, ex_l x3 hl2, ?_⟩, ?_⟩
      · exact (congrArg (!·) (emp_len (Paired.length hrr))).symm
      · show Q3 (!(!en.2.isEmpty)) H3
        rw [Bool.not_not]
        exact q3 H3 (Ex.refl _)
    · intro H3 x3 Q3 q3
      refine ⟨_, rfl, l, rfl, ⟨ls, ex_l x3 hl2⟩, fun D nD => lc_it (n := ls.length) (walk_list (xs := ls)) (fun j H' => H' = upd H3 D (.lst ((en.2.take j).map fun q => V.bl (decide (q.num < 0))))) rfl (fun j H' _ z => by rw [z]; exact ex_l (x3.trans (Ex.new nD)) hl2) ?_ ?_⟩
      · rintro j y H5 H6 hj rfl ⟨rfl, hy⟩
        obtain ⟨q, hq1, hq2⟩ := paired_get hrr hy
        have hq3 := hq2.mono ((s2.in_).trans (x3.trans (Ex.new nD (o := .lst ((en.2.take j).map fun q => V.bl (decide (q.num < 0)))))))
        obtain ⟨ra, rdx, rfl, hra⟩ := hq3
        have hj2 : j < en.2.length := by rw [← Paired.length hrr]; exact hj
        refine ⟨rfl, yes_if ?_⟩
        refine ⟨_, rfl, ra, _, _, _, _, rfl, hra, T.c_Ratio, T.a_Ratio_num, rf_num _ _, _, _, rfl, rfl, _, upd_same, ?_, ?_⟩
        · rw [List.length_map, List.length_take]
          have := Nat.le_mul_of_pos_right en.2.length (show 0 < j0 + 1 from Nat.succ_pos _)
          have : (100000 : Nat) < sizeLine := by decide
          omega
        · rw [upd_twice, List.take_add_one, hq1, List.map_append]
          rfl
      · rintro H5 rfl
        rw [Paired.length hrr, List.take_length]
        refine ⟨D, en.2.map fun q => decide (q.num < 0), rfl, SqL.of (by rw [List.map_map]; exact upd_same), ?_⟩
        rw [List.any_map]
        exact q3 _ (Ex.new nD)
    · intro H3 x3 Q3 q3
      refine ⟨_, rfl, l, ls, en.2, j0, rfl, ex_l x3 hl2, rats_mono hrr ((s2.in_).trans x3), hzq, hzl, hj, fun v1 H5 x5 r1 => ?_⟩
      refine mk_ratio (n := 1) (d := 1) (Q := fun y H2 => rOwnNe (ga K "Ratio") (spEqR K) E v1 y H2 Q3) (E := E) (by decide) (by decide) fun v2 H6 x6 r2 => ?_
      obtain ⟨c1', dz1, rfl, hc1⟩ := r1.mono x6
      obtain ⟨c2', dz2, rfl, hc2⟩ := id r2
      refine ⟨c1', dz1, _, c2', dz2, _, rfl, rfl, hc1, hc2, _, _, _, _, rfl, ⟨c1', dz1, rfl, hc1⟩, r2, fun H7 x7 => ⟨_, rfl, ?_⟩⟩
      rw [show mkRat 1 (1 : Int).toNat = 1 from by decide +kernel]
      exact q3 H7 ((x5.trans x6).trans x7)
    · have hno : okE ((es.take i).map (·.1)) en = false := by
        unfold okE
        rw [all_any]
        revert cb
        generalize decide (en.1 ∈ (es.take i).map (·.1)) = b1
        generalize en.2.isEmpty = b2
        generalize (en.2.any fun q => decide (q.num < 0)) = b3
        generalize decide (sumR en.2 = 1) = b4
        revert b1 b2 b3 b4
        decide
      exact ⟨_, rfl, _, rfl, fun d nd4 => raise hno H4 d x4 nd4⟩
    · have hyes : okE ((es.take i).map (·.1)) en = true := by
        unfold okE
        rw [all_any]
        revert cb
        generalize decide (en.1 ∈ (es.take i).map (·.1)) = b1
        generalize en.2.isEmpty = b2
        generalize (en.2.any fun q => decide (q.num < 0)) = b3
        generalize decide (sumR en.2 = 1) = b4
        revert b1 b2 b3 b4
        decide
      have hnew : nGet kvs en.1 = none := by
        have z := htab.get en.1
        have y : decide (en.1 ∈ (es.take i).map (·.1)) = false := by
          unfold okE at hyes
          revert hyes
          cases decide (en.1 ∈ (es.take i).map (·.1)) with
          | false => exact fun _ => rfl
          | true => exact fun h => nomatch h
        rw [y] at z
        cases hz : nGet kvs en.1 with
        | none => rfl
        | some v => rw [hz] at z; cases z
      have s4 := s2.trans (Stp.ofEx (ms := [t, x]) s2.in_ x4)
      refine ⟨_, rfl, l, ls, rfl, .inl ⟨ex_l x4 hl2, fun u nu => ?_⟩⟩
      have s5 := s4.trans (Stp.new (ms := [t, x]) (o := .tup ls) s4.in_ nu)
      have xu : Ex H4 (upd H4 u (.tup ls)) := Ex.new nu
      have ht5 := xu _ _ (x4 _ _ ht2)
      have hx5 := xu _ _ (x4 _ _ hx2)
      have hu5 : (upd B1 u (HO.tup ls)) u = some (.tup ls) := upd_same
      refine ⟨_, rfl, x, _, _, _, _, rfl, hx5, T.c_Plan, T.a_Plan_table, rfl, ?_⟩
      refine ⟨_, rfl, t, b, en.1, kvs, rfl, rfl, ht5, htab.ks.mono (s2.in_.trans (x4.trans xu)), hkb.mono (s2.in_.trans (x4.trans xu)), ?_, ?_⟩
      · have h1 := htab.len
        rw [List.length_take] at h1
        have : (100000 : Nat) < sizeLine := by decide
        omega
      · have s6 := s5.trans (Stp.put (ms := [t, x]) (o := NDo P w t (nPut kvs en.1 b (.ref u))) s5.in_ (s5.off hbt upd_same) (.head _))
        refine ⟨_, _, _, _, _, _, _, s6, upd_same, (upd_ne (Ne.symm htx)).trans hx5, ?_, hgood hyes, rfl⟩
        rw [nPut_new hnew, List.take_add_one, hen]
        have bu : B1 u = none := ex_none s4.in_ nu
        refine tab_add (htab.mono (Ex.new bu)) rfl (hkb.mono (Ex.new bu)) ⟨u, ls, rfl, st_of hu5, rats_mono hrr (Ex.new bu)⟩
  · rintro σ H2 ⟨B2, kvs, u2, u3, u4, u5, u6, s2, ht2, hx2, htab, hpb, rfl⟩
    have hvl : vs.length = es.length := Paired.length hp
    rw [hvl, List.take_length] at htab
    rw [hvl, List.drop_length] at hpb
    have s3 := Stp.close e nt s2 ht2
    have hb2 : B2 t = none := s2.off hbt upd_same
    refine kg hpb (upd B2 t (NDo P w t kvs)) H2 t kvs s3 hx2 upd_same (htab.mono (Ex.new hb2))
end
end LL
namespace LL
open PySem PySem.Spec PyProof.Rows L2 He Evl ND
section
variable {w : World} {K : PySem.W.Frag} {mg : Str → Option Value} {base : Heap}
/-- v is the Plan with entries es -/
def PlanAt (w : World) (K : PySem.W.Frag) (H : Hp) (v : V) (es : List Ent) : Prop := ∃ (x dx t : Addr) (kvs : List NE), v = .ref x ∧ H x = some (.ins (ga K "Plan") dx [("table", .ref t)]) ∧ H t = some (NDo P w t kvs) ∧ TabAt K H kvs es
theorem PlanAt.mono {H H' : Hp} {v : V} {es : List Ent} (h : PlanAt w K H v es) (e : Ex H H') : PlanAt w K H' v es := by
  obtain ⟨x, dx, t, kvs, h1, h2, h3, h4⟩ := h
  exact ⟨x, dx, t, kvs, h1, e _ _ h2, e _ _ h3, h4.mono e⟩
/-- an entry told: the pair is in H, what it holds in B -/
def EntIn (K : PySem.W.Frag) (B H : Hp) (v : V) (e : Ent) : Prop := ∃ (t b lt : Addr) (vs : List V), v = .ref t ∧ SqT K H t [.ref b, .ref lt] ∧ KeyAt K B b e.1 ∧ SqT K B lt vs ∧ RatsAt K B vs e.2
theorem EntIn.at_ {B H : Hp} {v : V} {e : Ent} (h : EntIn K B H v e) (x : Ex B H) : EntAt K H v e := by
  obtain ⟨t, b, lt, vs, h1, h2, h3, h4, h5⟩ := h
  exact ⟨t, b, lt, vs, h1, h2, h3.mono x, ex_t x h4, rats_mono h5 x⟩
theorem ents_of {B H : Hp} : ∀ {kvs : List NE} {es : List Ent} {Ts : List Addr}, TabAt K B kvs es → PrsAt H Ts kvs → Paired (EntIn K B H) (Ts.map V.ref) es
  | [], _, [], h, _ => by cases h; exact .nil
  | [], _, _ :: _, _, p => nomatch p
  | _ :: _, _, [], _, p => nomatch p
  | n :: ns, _, T :: Ts, h, p => by
    cases h with
    | cons h1 h2 =>
      cases p with
      | cons p1 p2 =>
        obtain ⟨g1, g2, b, vs, g3, g4, g5⟩ := h1
        refine .cons ⟨T, n.2.1, b, vs, rfl, st_of (by rw [p1, g3]), ?_, g4, g5⟩ (ents_of h2 p2)
        rw [← g1]; exact g2
def spEnts (w : World) (K : PySem.W.Frag) : Sp := fun us H Q _ => ∃ (B : Hp) (v : V) (es : List Ent), us = [v] ∧ Ex B H ∧ PlanAt w K B v es ∧ ∀ l vs H2, H l = none → Ex H H2 → H2 l = some (.lst vs) → Paired (EntIn K B H2) vs es → Q (.ref l) H2
theorem fn_Plan_entries (T : Txt K mg) : Fn P w K mg base 1 (ma K (ga K "Plan") "entries") (spEnts w K) := by
  refine fn_def T.d_Plan_entries sc_Plan_entries (fun _ _ _ _ _ _ us hl => match us, hl with | [_], _ => rfl) (fun vs H Q E h => ?_) (fun cdv A outer s H vs Q E hr h => ?_)
  · obtain ⟨_, x, _, rfl, _⟩ := h
    rfl
  obtain ⟨B, v, es, rfl, eb, ⟨x, dx, t, kvs, rfl, hx, ht, htab⟩, k⟩ := h
  have hx := eb _ _ hx
  have ht := eb _ _ ht
  have nd := sc_Plan_entries.nd
  refine ⟨_, pss_one (ps_ret (pe_callTy (ND.call_list_items rfl) (by rfl) T.f_list (by decide +kernel) (pa_cons (ND.pe_items (pe_fld (pv 0) rfl)) pa_nil))), ?_⟩
  refine ⟨_, rfl, x, _, _, _, _, rfl, hx, T.c_Plan, T.a_Plan_table, rfl, t, kvs, rfl, .inl ht, fun p np => ?_⟩
  have e1 : Ex H (upd H p (DX.itemsO p t)) := Ex.new np
  refine ⟨p, t, kvs, rfl, upd_same, .inl (e1 _ _ ht), fun H2 l Ts x2 nl hl hfresh hnd hprs => ?_⟩
  have e2 := e1.trans x2
  exact k l _ H2 (fresh_back e1 nl) e2 hl (ents_of htab hprs)
def spEqP (w : World) (K : PySem.W.Frag) : Sp := fun us H Q _ => ∃ (x y : V) (es ds : List Ent), us = [x, y] ∧ PlanAt w K H x es ∧ PlanAt w K H y ds ∧ ∀ H2, Ex H H2 → Q (.bl (decide (es = ds))) H2
theorem fn_Plan_eq (T : Txt K mg) : Fn P w K mg base 5 (ma K (ga K "Plan") "__eq__") (spEqP w K) := by
  refine fn_def T.d_Plan_eq sc_Plan_eq (fun _ _ _ _ _ _ us hl => match us, hl with | [_, _], _ => rfl) (fun vs H Q E h => ?_) (fun cdv A outer s H vs Q E hr h => ?_)
  · obtain ⟨_, _, _, _, rfl, _⟩ := h
    rfl
  obtain ⟨x, y, es, ds, rfl, hx, hy, k⟩ := h
  have nd := sc_Plan_eq.nd
  refine ⟨_, pss_one (ps_ret (pe_and (pe_callB call_isi (by rfl) T.f_isinstance (by decide +kernel) (pa_cons (pv 1) (pa_cons (pe_gr T.g_Plan) pa_nil))) (pe_one (pe_cmpR (op_eqEnts T (hr.mono (by decide))) (pe_methR0 (pv 0) T.c_Plan T.t_Plan_entries (fn_Plan_entries T) (hr.mono (by decide)) pc) (pe_methR0 (pv 1) T.c_Plan T.t_Plan_entries (fn_Plan_entries T) (hr.mono (by decide)) pc) (nomark _))))), ?_⟩
  obtain ⟨a, dx, ta, ka, rfl, ha, hta, hka⟩ := id hx
  obtain ⟨b, dy, tb, kb, rfl, hb, htb, hkb⟩ := id hy
  refine ⟨_, rfl, _, _, _, _, _, rfl, ClsV.own _, TyX.base (TyOf.ins hb T.c_Plan T.oc_Plan T.og T.ot T.om_Plan), T.ki_Plan_Plan, true, rfl, iteT ?_⟩
  refine ⟨_, rfl, a, dx, _, rfl, ha, rfl, H, _, es, rfl, Ex.refl _, hx, fun l1 vs1 H1 n1 x1 hl1 he1 => ?_⟩
  refine ⟨_, rfl, b, dy, _, rfl, x1 _ _ hb, rfl, H1, _, ds, rfl, Ex.refl _, hy.mono x1, fun l2 vs2 H2 n2 x2 hl2 he2 => ?_⟩
  exact ⟨l1, l2, vs1, vs2, es, ds, rfl, rfl, x2 _ _ hl1, hl2, paired_mono he1 fun _ _ z => (z.at_ x1).mono x2, paired_mono he2 fun _ _ z => z.at_ x2, fun H3 x3 => k H3 (x1.trans (x2.trans x3))⟩
end
end LL
namespace LL
open PySem PySem.Spec PyProof.Rows L2 He Evl ND
section
variable {w : World} {K : PySem.W.Frag} {mg : Str → Option Value} {base : Heap}
/-- v is the tuple (n, d) -/
def PairAt (H : Hp) (v : V) (n d : Int) : Prop := ∃ a, v = .ref a ∧ H a = some (.tup [.int n, .int d])
theorem PairAt.mono {H H' : Hp} {v : V} {n d : Int} (e : Ex H H') (h : PairAt H v n d) : PairAt H' v n d := by
  obtain ⟨a, h1, h2⟩ := h
  exact ⟨a, h1, e _ _ h2⟩
/-- the law's own lowest terms: k tells the size -/
def spLow (K : PySem.W.Frag) : Sp := fun vs H Q _ => ∃ (n d : Int), vs = [.int n, .int d] ∧ 0 < d ∧ d.natAbs < 2 ^ 1900 ∧
  ∀ a, H a = none → Q (.ref a) (upd H a (.tup [.int (mkRat n d.toNat).num, .int ((mkRat n d.toNat).den : Int)]))
theorem half_mod {a b : Nat} (h : b < a) (hb : 0 < b) : 2 * (a % b) ≤ a := by
  have h1 := Nat.div_add_mod a b
  have h2 := Nat.mod_lt a hb
  have h3 : 1 ≤ a / b := (Nat.le_div_iff_mul_le hb).mpr (by omega)
  have h4 : b ≤ b * (a / b) := Nat.le_mul_of_pos_right b (by omega)
  omega
theorem fn_l_less (T : Txt K mg) : Fn P w K mg base 1 (ga K "_law_less") (spLow K) := by
  refine fn_def T.d_l_less sc_l_less (fun _ _ _ _ _ _ us hl => match us, hl with | [_, _], _ => rfl) (fun vs H Q E h => ?_) (fun cdv A outer s H vs Q E hr h => ?_)
  · obtain ⟨n, d, rfl, _⟩ := h
    rfl
  · obtain ⟨n, d, rfl, hd, hz, k⟩ := h
    have nd := sc_l_less.nd
    refine ⟨_, pss_cons (ps_set (i := 2) nd rfl (by first | exact Or.inl rfl | exact Or.inr rfl) (pe_callB call_abs (by rfl) T.f_abs (by decide +kernel) (pa_cons (pv 0) pa_nil)))
      (pss_cons (ps_set (i := 3) nd rfl (by first | exact Or.inl rfl | exact Or.inr rfl) (pv 1))
      (Evl.pss_cut (ps_for (passes_of rfl) rfl (pi_range1 rfl T.f_range (pa_cons (pe_int) pa_nil)) (pg_name (i := 4) nd rfl (by first | exact Or.inl rfl | exact Or.inr rfl)) (pss_cons (ps_if (pt_cmpR op_eq (pv 3) (pe_int) (nomark _)) (pss_one (ps_break)) (pss_nil))
      (pss_one (ps_par (i := 2) (j := 3) (by rfl) nd rfl rfl (by decide) rfl rfl (pa_cons (pv 3) (pa_cons (pe_op op_mod (pe_callTy call_int1 (by rfl) T.f_int (by decide +kernel) (pa_cons (pv 2) pa_nil)) (pv 3)) pa_nil)) (by rfl)))))
      (pss_one (ps_ret (pe_tup (pa_cons (pe_op op_fdivW (pv 0) (pv 2)) (pa_cons (pe_op op_fdivW (pv 1) (pv 2)) pa_nil))))))), ?_⟩
    refine ⟨_, rfl, _, rfl, ?_⟩
    refine ⟨_, rfl, ?_⟩
    have hdn : 0 < d.toNat := by omega
    refine ⟨fun σ H' => H' = H ∧ ∃ (l : Nat) (b v : Option V), σ = [some (.int n), some (.int d), some (.int (l : Int)), b, v] ∧ l = Nat.gcd n.natAbs d.toNat, ?_, ?_⟩
    · refine ⟨4000, rfl, by decide, by decide, for_range (lo := 0) (n := 4000) (fun i σ H' => H' = H ∧ ∃ (l r : Nat) (v : Option V), σ = [some (.int n), some (.int d), some (.int (l : Int)), some (.int (r : Int)), v] ∧ Nat.gcd l r = Nat.gcd n.natAbs d.toNat ∧
        (i % 2 = 0 → r * 2 ^ (i / 2) < 2 ^ 1900) ∧ (i % 2 = 1 → r < l ∧ l * 2 ^ (i / 2) < 2 ^ 1900)) ⟨rfl, n.natAbs, d.toNat, none, ?_, rfl, fun _ => ?_, fun h => by omega⟩ ?_ ?_⟩
      · show [_, _, some (V.int (if n < 0 then -n else n)), some (V.int d), _] = _
        have e1 : (if n < 0 then -n else n) = (n.natAbs : Int) := by split <;> omega
        have e2 : d = ((d.toNat : Nat) : Int) := by omega
        rw [e1, ← e2]
      · have : d.toNat = d.natAbs := by omega
        rw [this]
        simpa using hz
      · rintro i σ H' hi ⟨rfl, l, r, v, rfl, hg, h0, h1⟩
        refine ⟨_, rfl, rfl, _, rfl, ite2 (fun c => ?_) fun c => ?_⟩
        · have hr : r = 0 := by
            have := of_decide_eq_true c
            simpa using this
          subst hr
          exact ⟨rfl, l, _, _, rfl, by rw [← hg, Nat.gcd_zero_right]⟩
        · have hr : 0 < r := by
            rcases Nat.eq_zero_or_pos r with z | z
            · subst z; exact absurd rfl c
            · exact z
          refine ⟨_, rfl, _, rfl, .inl ⟨_, rfl, _, rfl, _, _, rfl, rfl, (by show (0 : Int) < (r : Int); omega), _, _, rfl, ?_⟩⟩
          refine ⟨rfl, r, l % r, some (.int (0 + (i : Int))), ?_, (gcd_turn l r).trans hg, ?_, ?_⟩
          · show [_, _, some (V.int (r : Int)), some (V.int ((l : Int) % (r : Int))), _] = _
            rw [← Int.natCast_emod]
          · intro he
            have ho : i % 2 = 1 := by omega
            obtain ⟨q1, q2⟩ := h1 ho
            have q3 := half_mod q1 hr
            have q4 : (i + 1) / 2 = i / 2 + 1 := by omega
            rw [q4, Nat.pow_succ]
            calc l % r * (2 ^ (i / 2) * 2) = 2 * (l % r) * 2 ^ (i / 2) := by rw [Nat.mul_comm (2 ^ (i / 2)) 2, ← Nat.mul_assoc, Nat.mul_comm (l % r) 2]
              _ ≤ l * 2 ^ (i / 2) := Nat.mul_le_mul_right _ q3
              _ < _ := q2
          · intro he
            have ho : i % 2 = 0 := by omega
            have q4 : (i + 1) / 2 = i / 2 := by omega
            rw [q4]
            exact ⟨Nat.mod_lt l hr, h0 ho⟩
      · rintro σ H' ⟨rfl, l, r, v, rfl, hg, h0, h1⟩
        have q := h0 (by decide)
        have hr : r = 0 := by
          rcases Nat.eq_zero_or_pos r with z | z
          · exact z
          · have z1 : 2 ^ 1900 ≤ r * 2 ^ (4000 / 2) := Nat.le_trans (Nat.pow_le_pow_right (by decide) (by decide)) (Nat.le_mul_of_pos_left _ z)
            omega
        subst hr
        exact ⟨rfl, l, _, _, rfl, by rw [← hg, Nat.gcd_zero_right]⟩
    · rintro σ H' ⟨rfl, l, b, v, rfl, hl⟩
      have hl0 : 0 < l := by rw [hl]; exact Nat.gcd_pos_of_pos_right _ hdn
      have hl1 : l ≤ d.toNat := by rw [hl]; exact Nat.gcd_le_right _ hdn
      have hz2 : ((l : Int)).natAbs < 2 ^ 1900 := by omega
      have hw : CDivW n (l : Int) := wide_div (b := 1900) (by omega) hz2 (by omega) (by omega)
      have hw2 : CDivW d (l : Int) := hw
      refine ⟨_, rfl, _, rfl, _, _, rfl, rfl, hw, _, rfl, _, rfl, _, _, rfl, rfl, hw2, (by show 2 ≤ sizeLine; decide), fun p np => ?_⟩
      have en : (mkRat n d.toNat).num = n / (l : Int) := by
        rw [Rat.num_mkRat, if_neg (by omega), Nat.gcd_comm, ← hl]
      have ed : ((mkRat n d.toNat).den : Int) = d / (l : Int) := by
        rw [Rat.den_mkRat, if_neg (by omega), Nat.gcd_comm, ← hl, Int.natCast_ediv]
        congr 1; omega
      have z := k p np
      rw [en, ed] at z
      exact z
end
end LL
namespace LL
open PySem PySem.Spec PyProof.Rows L2 He Evl ND
/-! ### plans as the law's dicts -/
section
variable {w : World} {K : PySem.W.Frag} {mg : Str → Option Value} {base : Heap}
def LrsAt (B : Hp) (vs : List V) (qs : List Rat) : Prop := Paired (fun x (q : Rat) => PairAt B x q.num q.den) vs qs
theorem LrsAt.mono {B B2 : Hp} {vs : List V} {qs : List Rat} (h : LrsAt B vs qs) (e : Ex B B2) : LrsAt B2 vs qs := paired_mono h fun _ _ x => x.mono e
def LvAt (B : Hp) (v : V) (qs : List Rat) : Prop := ∃ l vs, v = .ref l ∧ B l = some (.lst vs) ∧ LrsAt B vs qs
theorem LvAt.mono {B B2 : Hp} {v : V} {qs : List Rat} (h : LvAt B v qs) (e : Ex B B2) : LvAt B2 v qs := let ⟨l, vs, h1, h2, h3⟩ := h; ⟨l, vs, h1, e _ _ h2, h3.mono e⟩
def LtAt (K : PySem.W.Frag) (B : Hp) (kvs : List NE) (es : List Ent) : Prop := Paired (fun (n : NE) (e : Ent) => n.1 = e.1 ∧ KeyAt K B n.2.1 n.1 ∧ LvAt B n.2.2 e.2) kvs es
theorem LtAt.mono {B B2 : Hp} {kvs : List NE} {es : List Ent} (h : LtAt K B kvs es) (e : Ex B B2) : LtAt K B2 kvs es := paired_mono h fun _ _ ⟨h1, h2, h3⟩ => ⟨h1, key_mono h2 e, h3.mono e⟩
theorem LtAt.ks {B : Hp} : ∀ {kvs : List NE} {es : List Ent}, LtAt K B kvs es → KsAt K B kvs
  | _, _, .nil => fun _ h => absurd h List.not_mem_nil
  | _, _, .cons h t => fun e he => by
    rcases List.mem_cons.mp he with rfl | he
    · exact h.2.1
    · exact LtAt.ks t e he
theorem LtAt.find {B : Hp} {k : NestedKey} : ∀ {kvs : List NE} {es : List Ent}, LtAt K B kvs es → (∃ v e, nGet kvs k = some v ∧ LvAt B v e.2 ∧ es.find? (fun e => decide (e.1 = k)) = some e) ∨ (nGet kvs k = none ∧ es.find? (fun e => decide (e.1 = k)) = none)
  | _, _, .nil => .inr ⟨rfl, rfl⟩
  | _, _, .cons (a := n) (b := e) (l₁ := kvs) (l₂ := es) h t => by
    obtain ⟨h1, h2, h3⟩ := h
    by_cases c : e.1 = k
    · refine .inl ⟨n.2.2, e, ?_, h3, by rw [List.find?_cons, decide_eq_true c]⟩
      show valV ((n.1, n.2.2) :: nP kvs) k = _
      rw [valV_pos (p := (n.1, n.2.2)) (h1.trans c)]
    · have e1 : nGet (n :: kvs) k = nGet kvs k := by
        show valV ((n.1, n.2.2) :: nP kvs) k = _
        rw [valV_neg (p := (n.1, n.2.2)) (fun z => c (h1.symm.trans z))]
        rfl
      rw [e1, List.find?_cons, decide_eq_false c]
      exact LtAt.find t
def LpAt (w : World) (K : PySem.W.Frag) (B : Hp) (v : V) (es : List Ent) : Prop := ∃ d kvs, v = .ref d ∧ B d = some (NDo P w d kvs) ∧ LtAt K B kvs es
theorem LpAt.mono {B B2 : Hp} {v : V} {es : List Ent} (h : LpAt w K B v es) (e : Ex B B2) : LpAt w K B2 v es := let ⟨d, kvs, h1, h2, h3⟩ := h; ⟨d, kvs, h1, e _ _ h2, h3.mono e⟩
end
end LL
namespace LL
open PySem PySem.Spec PyProof.Rows L2 He Evl ND
/-! ### fractions over one denominator -/
def Fr (D N : Nat) (q : Rat) : Prop := ∃ n : Int, q = mkRat n D ∧ n.natAbs ≤ N
theorem Fr.mono {D N M : Nat} {q : Rat} (h : Fr D N q) (m : N ≤ M) : Fr D M q := let ⟨n, h1, h2⟩ := h; ⟨n, h1, Nat.le_trans h2 m⟩
theorem Fr.add {D N M : Nat} (hD : 0 < D) {p q : Rat} (hp : Fr D N p) (hq : Fr D M q) : Fr D (N + M) (p + q) := by
  obtain ⟨n, rfl, hn⟩ := hp
  obtain ⟨m, rfl, hm⟩ := hq
  refine ⟨n + m, ?_, by omega⟩
  have hD0 : (D : Nat) ≠ 0 := by omega
  rw [Rat.mkRat_add_mkRat _ _ hD0 hD0]
  rw [← Int.add_mul]
  exact Rat.mkRat_mul_right hD0
theorem Fr.neg {D N : Nat} {p : Rat} (hp : Fr D N p) : Fr D N (-p) := by
  obtain ⟨n, rfl, hn⟩ := hp
  exact ⟨-n, by rw [Rat.neg_mkRat], by omega⟩
theorem Fr.mul {D E N M : Nat} {p q : Rat} (hp : Fr D N p) (hq : Fr E M q) : Fr (D * E) (N * M) (p * q) := by
  obtain ⟨n, rfl, hn⟩ := hp
  obtain ⟨m, rfl, hm⟩ := hq
  exact ⟨n * m, by rw [Rat.mkRat_mul_mkRat], by rw [Int.natAbs_mul]; exact Nat.mul_le_mul hn hm⟩
theorem Fr.up {D E N : Nat} (hE : 0 < E) {p : Rat} (hp : Fr D N p) : Fr (D * E) (N * E) p := by
  obtain ⟨n, rfl, hn⟩ := hp
  refine ⟨n * E, (Rat.mkRat_mul_right (by omega)).symm, ?_⟩
  rw [Int.natAbs_mul, Int.natAbs_natCast]
  exact Nat.mul_le_mul_right E hn
theorem Fr.int {D N : Nat} (hD : 0 < D) (i : Int) (h : i.natAbs ≤ N) : Fr D (N * D) (i : Rat) := by
  refine ⟨i * D, ?_, by rw [Int.natAbs_mul, Int.natAbs_natCast]; exact Nat.mul_le_mul_right D h⟩
  have := Rat.mkRat_mul_right (n := i) (d := 1) (a := D) (by omega)
  rw [Nat.one_mul] at this
  rw [this, Rat.mkRat_one]
theorem Fr.zero {D N : Nat} : Fr D N 0 := ⟨0, by rw [Rat.zero_mkRat], Nat.zero_le _⟩
theorem Fr.int1 {N : Nat} (i : Int) (h : i.natAbs ≤ N) : Fr 1 N (i : Rat) := (Fr.int (D := 1) (by decide) i h).mono (by omega)
theorem Fr.dvd {D d : Nat} {n : Int} (hd : 0 < d) (hD : 0 < D) (h : d ∣ D) (hn : n.natAbs ≤ d) : Fr D D (mkRat n d) := by
  obtain ⟨e, rfl⟩ := h
  have he : 0 < e := Nat.pos_of_ne_zero fun z => by subst z; omega
  exact (Fr.up (E := e) he (⟨n, rfl, Nat.le_refl _⟩ : Fr d n.natAbs (mkRat n d))).mono (Nat.mul_le_mul_right e hn)
def LL0 : Nat := 360360
theorem LL0_dvd {n : Nat} (h1 : 1 ≤ n) (h2 : n ≤ 15) : n ∣ LL0 := by
  have : ∀ n, n ≤ 15 → 1 ≤ n → n ∣ LL0 := by decide
  exact this n h2 h1
theorem LL0_pos : 0 < LL0 := by decide
/-- a lot: a fraction of a denominator up to 15, from -1 to 1 -/
abbrev LotQ (q : Rat) : Prop := Fr LL0 LL0 q
theorem lotq_of {n : Int} {d : Nat} (h1 : 1 ≤ d) (h2 : d ≤ 15) (hn : n.natAbs ≤ d) : LotQ (mkRat n d) := Fr.dvd h1 LL0_pos (LL0_dvd h1 h2) hn
theorem lotq_one : LotQ 1 := lotq_of (n := 1) (d := 1) (by decide) (by decide) (by decide)
theorem lotq_zero : LotQ 0 := Fr.zero
theorem lp_pos (d : Nat) : 0 < LL0 ^ d := Nat.pow_pos LL0_pos
theorem Fr.pad {d e N : Nat} {q : Rat} (h : d ≤ e) (hq : Fr (LL0 ^ d) N q) : Fr (LL0 ^ e) (N * LL0 ^ (e - d)) q := by
  have := Fr.up (E := LL0 ^ (e - d)) (lp_pos _) hq
  rwa [← Nat.pow_add, Nat.add_sub_cancel' h] at this
/-! ### sums -/
theorem sum_app (a b : List Rat) : (a ++ b).sum = a.sum + b.sum := List.sum_append
theorem sum_mul (c : Rat) : ∀ l : List Rat, (l.map fun x => c * x).sum = c * l.sum
  | [] => by simp
  | x :: l => by
    rw [List.map_cons, List.sum_cons, List.sum_cons, sum_mul c l, Rat.mul_add]
theorem foldl_add (l : List Rat) : ∀ a : Rat, l.foldl (· + ·) a = a + l.sum := by
  induction l with
  | nil => intro a; rw [List.foldl_nil, List.sum_nil, Rat.add_zero]
  | cons x l ih =>
    intro a
    rw [List.foldl_cons, ih, List.sum_cons, Rat.add_assoc]
theorem Fr.sum {D N : Nat} (hD : 0 < D) : ∀ {l : List Rat}, (∀ x ∈ l, Fr D N x) → Fr D (l.length * N) l.sum
  | [], _ => by rw [List.sum_nil]; exact Fr.zero
  | x :: l, h => by
    rw [List.sum_cons, List.length_cons, Nat.add_mul, Nat.one_mul, Nat.add_comm]
    exact Fr.add hD (h x (.head _)) (Fr.sum hD fun y hy => h y (.tail _ hy))
theorem Fr.sz {D N k : Nat} {q : Rat} (h : Fr D N q) (h0 : 0 < D) (h1 : D < 2 ^ k) (h2 : N < 2 ^ k) : Sz k q := by
  obtain ⟨n, rfl, hn⟩ := h
  have := sz_of (n := n) (d := D) (k := k) (by omega) (by omega) (by rw [Int.natAbs_natCast]; exact h1)
  rw [Int.toNat_natCast] at this
  exact this
end LL
namespace LL
open PySem PySem.Spec PyProof.Rows L2 He Evl ND
/-! ### averages -/
def LotsOk (ls : List Rat) : Prop := ∀ q ∈ ls, LotQ q
end LL
namespace LL
open PySem PySem.Spec PyProof.Rows L2 He Evl ND
/-! ### lots of plans -/
/-! ### lengths -/
theorem pow14 : LL0 ^ 14 < 2 ^ 259 := by decide +kernel
theorem lp_le {d : Nat} (h : d ≤ 14) : LL0 ^ d ≤ LL0 ^ 14 := Nat.pow_le_pow_right LL0_pos h
/-- fractions over LL0 ^ d are small -/
theorem fr_sz {d N k : Nat} {q : Rat} (hd : d ≤ 14) (h : Fr (LL0 ^ d) N q) (hN : N < 2 ^ k) (hk : 259 ≤ k) : Sz k q :=
  h.sz (lp_pos d) (Nat.lt_of_le_of_lt (lp_le hd) (Nat.lt_of_lt_of_le pow14 (Nat.pow_le_pow_right (by decide) hk))) hN
theorem lotq_sz {q : Rat} (h : LotQ q) : Sz 20 q := h.sz LL0_pos (by decide) (by decide)
/-! ### sums -/
theorem sumR_eq (l : List Rat) : sumR l = l.sum := by
  unfold sumR
  rw [foldl_add, Rat.zero_add]
end LL
namespace LL
open PySem PySem.Spec PyProof.Rows L2 He Evl ND
/-! ### plans without lots -/
def sureL (n m : Nat) : List Rat := (List.range n).map fun k => if k = m then 1 else 0
def sureE (acc : List (List Evt × Nat)) (ms : List Nat) : List Ent := (acc.zip ms).map fun p => (viewK p.1.1, sureL p.1.2 p.2)
theorem sureL_len (n m : Nat) : (sureL n m).length = n := by unfold sureL; rw [List.length_map, List.length_range]
theorem sureL_sum (m : Nat) : ∀ n, (sureL n m).sum = if m < n then 1 else 0
  | 0 => by rw [if_neg (Nat.not_lt_zero m)]; rfl
  | n + 1 => by
    have e : sureL (n + 1) m = sureL n m ++ [if n = m then 1 else 0] := by
      unfold sureL
      rw [List.range_succ, List.map_append, List.map_singleton]
    rw [e, List.sum_append, List.sum_singleton, sureL_sum m n]
    by_cases h : n = m
    · subst h
      rw [if_pos rfl, if_neg (Nat.lt_irrefl n), if_pos (Nat.lt_succ_self n), Rat.zero_add]
    · rw [if_neg h, Rat.add_zero]
      by_cases h2 : m < n
      · rw [if_pos h2, if_pos (by omega)]
      · rw [if_neg h2, if_neg (by omega)]
theorem sureL_mem {n m : Nat} {q : Rat} (h : q ∈ sureL n m) : q = 1 ∨ q = 0 := by
  unfold sureL at h
  obtain ⟨k, _, rfl⟩ := List.mem_map.mp h
  split
  · exact .inl rfl
  · exact .inr rfl
theorem sureE_len {acc : List (List Evt × Nat)} {ms : List Nat} (h : acc.length = ms.length) : (sureE acc ms).length = acc.length := by
  unfold sureE
  rw [List.length_map, List.length_zip]; omega
theorem sureE_keys : ∀ {acc : List (List Evt × Nat)} {ms : List Nat}, acc.length = ms.length → (sureE acc ms).map (·.1) = acc.map fun p => viewK p.1
  | [], [], _ => rfl
  | [], _ :: _, h => by cases h
  | _ :: _, [], h => by cases h
  | p :: acc, m :: ms, h => by
    have := sureE_keys (acc := acc) (ms := ms) (Nat.succ.inj h)
    unfold sureE at this ⊢
    rw [List.zip_cons_cons, List.map_cons, List.map_cons, List.map_cons, this]
/-- an entry that Plan takes -/
def GoodE (e : Ent) : Prop := e.2 ≠ [] ∧ (∀ q ∈ e.2, 0 ≤ q.num) ∧ e.2.sum = 1
theorem planBad_none : ∀ (es : List Ent) (seen : List NestedKey) (i : Nat), (∀ e ∈ es, GoodE e) → (es.map (·.1)).Nodup → (∀ e ∈ es, e.1 ∉ seen) → planBad seen i es = none
  | [], _, _, _, _, _ => rfl
  | e :: r, seen, i, hg, nd, hs => by
    rw [List.map_cons, List.nodup_cons] at nd
    obtain ⟨h1, h2, h3⟩ := hg e (.head _)
    have ok : okE seen e = true := by
      unfold okE
      rw [decide_eq_false (hs e (.head _)), sumR_eq, decide_eq_true h3]
      have a1 : e.2.isEmpty = false := by
        cases hx : e.2 with
        | nil => exact absurd hx h1
        | cons _ _ => rfl
      have a2 : (e.2.all fun q => decide (0 ≤ q.num)) = true := List.all_eq_true.mpr fun q hq => decide_eq_true (h2 q hq)
      rw [a1, a2]
      rfl
    rw [planBad, if_pos ok]
    refine planBad_none r _ _ (fun e' he => hg e' (.tail _ he)) nd.2 fun e' he hm => ?_
    rcases List.mem_append.mp hm with hm | hm
    · exact hs e' (.tail _ he) hm
    · exact nd.1 (by rw [← List.mem_singleton.mp hm]; exact List.mem_map_of_mem (f := (·.1)) he)
theorem sureE_good {acc : List (List Evt × Nat)} {ms : List Nat} (h : ∀ p ∈ acc.zip ms, p.2 < p.1.2) : ∀ e ∈ sureE acc ms, GoodE e := fun e he => by
  unfold sureE at he
  obtain ⟨p, hp, rfl⟩ := List.mem_map.mp he
  have hlt := h p hp
  refine ⟨fun z => ?_, fun q hq => ?_, ?_⟩
  · have := congrArg List.length z
    rw [sureL_len] at this
    rw [this] at hlt
    exact absurd hlt (Nat.not_lt_zero _)
  · rcases sureL_mem hq with rfl | rfl <;> decide
  · show (sureL p.1.2 p.2).sum = 1
    rw [sureL_sum, if_pos hlt]
theorem sureE_take : ∀ (acc : List (List Evt × Nat)) (ms : List Nat) (i : Nat) (p : List Evt × Nat) (m : Nat), acc[i]? = some p → ms[i]? = some m → sureE (acc.take (i + 1)) (ms.take (i + 1)) = sureE (acc.take i) (ms.take i) ++ [(viewK p.1, sureL p.2 m)]
  | [], _, _, _, _, h, _ => by cases h
  | _ :: _, [], _, _, _, _, h => by cases h
  | q :: acc, n :: ms, 0, p, m, h1, h2 => by cases h1; cases h2; rfl
  | q :: acc, n :: ms, i + 1, p, m, h1, h2 => by
    have := sureE_take acc ms i p m (by simpa using h1) (by simpa using h2)
    unfold sureE at this ⊢
    rw [List.take_succ_cons, List.take_succ_cons, List.zip_cons_cons, List.map_cons, this, List.take_succ_cons, List.take_succ_cons, List.zip_cons_cons, List.map_cons, List.cons_append]
end LL
namespace LL
open PySem PySem.Spec PyProof.Rows L2 He Evl ND
/-! ### lots of plans -/
def EntsOk (es : List Ent) : Prop := ∀ e ∈ es, LotsOk e.2
/-! ### lengths -/
/-! ### sums -/
end LL
namespace LL
open PySem PySem.Spec PyProof.Rows L2 He Evl ND
/-! ### the words of a view are read in one way -/
theorem nums_inj : ∀ {ns ms : List Nat}, (∀ n ∈ ns, n < 10 ^ 60) → (∀ n ∈ ms, n < 10 ^ 60) → (ns.map fun n => istr (n : Nat)) = ms.map (fun n => istr (n : Nat)) → ns = ms
  | [], [], _, _, _ => rfl
  | [], _ :: _, _, _, h => by cases h
  | _ :: _, [], _, _, h => by cases h
  | n :: ns, m :: ms, hn, hm, h => by
    rw [List.map_cons, List.map_cons] at h
    obtain ⟨h1, h2⟩ := List.cons.inj h
    have a : Num (istr (n : Nat)) n := ⟨rfl, hn n (.head _)⟩
    have b : Num (istr (n : Nat)) m := ⟨h1, hm m (.head _)⟩
    rw [Num.inj a b, nums_inj (fun x hx => hn x (.tail _ hx)) (fun x hx => hm x (.tail _ hx)) h2]
theorem evW_pre {e f : Evt} {r t : List Str} (he : EvOk e) (hf : EvOk f) (h : evW e ++ r = evW f ++ t) : e = f ∧ r = t := by
  unfold evW at h
  rw [List.cons_append, List.cons_append] at h
  obtain ⟨h1, h2⟩ := List.cons.inj h
  have hl : e.2.length = f.2.length := by
    have a := he.1
    rw [h1, hf.1] at a
    exact (Option.some.inj a).symm
  obtain ⟨h3, h4⟩ := List.append_inj h2 (by rw [List.length_map, List.length_map, hl])
  exact ⟨Prod.ext h1 (nums_inj he.2 hf.2 h3), h4⟩
theorem viewW_pre : ∀ {v u : List Evt} {r : List Str}, (∀ e ∈ v, EvOk e) → (∀ e ∈ u, EvOk e) → viewW u = viewW v ++ r → ∃ z, u = v ++ z ∧ viewW z = r
  | [], u, r, _, _, h => ⟨u, rfl, h⟩
  | e :: v, [], r, _, _, h => by cases h
  | e :: v, f :: u, r, hv, hu, h => by
    have h : evW f ++ viewW u = evW e ++ viewW v ++ r := h
    rw [List.append_assoc] at h
    obtain ⟨h1, h2⟩ := evW_pre (hu f (.head _)) (hv e (.head _)) h
    obtain ⟨z, h3, h4⟩ := viewW_pre (fun x hx => hv x (.tail _ hx)) (fun x hx => hu x (.tail _ hx)) h2
    exact ⟨z, by rw [h1, h3]; rfl, h4⟩
theorem viewW_next {z : List Evt} {x : Str} {r : List Str} (hz : ∀ e ∈ z, EvOk e) (h : viewW z = x :: r) : ∃ ns t, EvOk (x, ns) ∧ r = (ns.map fun n => istr (n : Nat)) ++ t := by
  cases z with
  | nil => cases h
  | cons e z =>
    have h : e.1 :: ((e.2.map fun n => istr (n : Nat)) ++ viewW z) = x :: r := h
    obtain ⟨h1, h2⟩ := List.cons.inj h
    exact ⟨e.2, viewW z, by rw [← h1]; exact hz e (.head _), h2.symm⟩
theorem nums_of : ∀ {ws : List Str}, (∀ x ∈ ws, ∃ n, Num x n) → ∃ ns : List Nat, ws = (ns.map fun n => istr (n : Nat)) ∧ ∀ n ∈ ns, n < 10 ^ 60
  | [], _ => ⟨[], rfl, fun _ h => nomatch h⟩
  | x :: ws, h => by
    obtain ⟨n, hn⟩ := h x (.head _)
    obtain ⟨ns, h1, h2⟩ := nums_of fun y hy => h y (.tail _ hy)
    refine ⟨n :: ns, by rw [h1, hn.1]; rfl, fun m hm => ?_⟩
    rcases List.mem_cons.mp hm with rfl | hm
    · exact hn.2
    · exact h2 m hm
open Classical in
/-- what digits_of gives -/
noncomputable def digV (x : Str) : V := if h : ∃ n, Num x n then .int (h.choose : Nat) else .non
theorem digV_num {x : Str} {n : Nat} (h : Num x n) : digV x = .int (n : Nat) := by
  unfold digV
  have h' : ∃ n, Num x n := ⟨n, h⟩
  rw [dif_pos h', Num.inj h'.choose_spec h]
theorem digV_non {x : Str} (h : ∀ n, ¬ Num x n) : digV x = .non := by
  unfold digV
  rw [dif_neg fun ⟨n, hn⟩ => h n hn]
theorem digV_flat (x : Str) : flatV (digV x) = true := by
  by_cases h : ∃ n, Num x n
  · obtain ⟨n, hn⟩ := h
    rw [digV_num hn]; rfl
  · rw [digV_non fun n hn => h ⟨n, hn⟩]; rfl
theorem digV_nums {ns : List Nat} (h : ∀ n ∈ ns, n < 10 ^ 60) : (ns.map fun n => istr (n : Nat)).map digV = ns.map fun n => V.int (n : Nat) := by
  rw [List.map_map]
  exact List.map_congr_left fun n hn => digV_num ⟨rfl, h n hn⟩
/-- is None among what digits_of gives -/
theorem digV_in {ws : List Str} : inV .non (ws.map digV) = true ↔ ∃ x ∈ ws, ∀ n, ¬ Num x n := by
  unfold inV
  rw [List.any_map, List.any_eq_true]
  constructor
  · rintro ⟨x, hx, h⟩
    refine ⟨x, hx, fun n hn => ?_⟩
    rw [Function.comp_apply, digV_num hn] at h
    cases h
  · rintro ⟨x, hx, h⟩
    refine ⟨x, hx, ?_⟩
    rw [Function.comp_apply, digV_non h]
    rfl
theorem cut_nat {xs : List V} {a b : Nat} (h : a ≤ b) : cutV xs (some (a : Int)) (some (b : Int)) = (xs.drop a).take (b - a) := by
  unfold cutV
  rw [HT.sIx_nat, HT.sIx_nat]
  by_cases z : a ≤ xs.length
  · rw [show min a xs.length = a by omega]
    by_cases y : b ≤ xs.length
    · rw [show min b xs.length = b by omega]
    · rw [List.take_of_length_le (by rw [List.length_drop]; omega), List.take_of_length_le (by rw [List.length_drop]; omega)]
  · rw [List.drop_of_length_le (by omega), List.drop_of_length_le (by omega), List.take_nil, List.take_nil]
theorem cut_from {xs : List V} {a : Nat} : cutV xs (some (a : Int)) none = xs.drop a := by
  unfold cutV
  rw [HT.sIx_nat, HT.sIx_none]
  by_cases z : a ≤ xs.length
  · rw [show min a xs.length = a by omega, List.take_of_length_le (by rw [List.length_drop]; omega)]
  · rw [List.drop_of_length_le (by omega), List.drop_of_length_le (by omega), List.take_nil]
theorem viewW_inj {v u : List Evt} (hv : ∀ e ∈ v, EvOk e) (hu : ∀ e ∈ u, EvOk e) (h : viewW u = viewW v) : u = v := by
  obtain ⟨z, h1, h2⟩ := viewW_pre (r := []) hv hu (by rw [h, List.append_nil])
  cases z with
  | nil => rw [h1, List.append_nil]
  | cons e z => cases h2
theorem join_len (s : Str) : ∀ W : List Str, (Txt.join s W).length ≤ (W.map (·.length)).sum + W.length * s.length := by
  intro W
  rw [TL.join_eq, TL.len_tl, TL.tl_join]
  have : ∀ L : List Str, (TL.joinL (TL.tl s) (L.map TL.tl)).length ≤ (L.map (·.length)).sum + L.length * s.length := by
    intro L
    induction L with
    | nil => exact Nat.zero_le _
    | cons p L ih =>
      cases L with
      | nil =>
        show (TL.tl p).length ≤ _
        rw [← TL.len_tl, List.map_cons, List.sum_cons]
        omega
      | cons q L =>
        show (TL.tl p ++ (TL.tl s ++ TL.joinL (TL.tl s) ((q :: L).map TL.tl))).length ≤ _
        have e1 : (List.map (fun x : Str => x.length) (p :: q :: L)).sum = p.length + (List.map (fun x : Str => x.length) (q :: L)).sum := List.sum_cons
        have e2 : (p :: q :: L).length * s.length = (q :: L).length * s.length + s.length := by rw [List.length_cons (a := p), Nat.add_mul, Nat.one_mul]
        rw [List.length_append, List.length_append, ← TL.len_tl, ← TL.len_tl, e1, e2]
        omega
  exact this W
theorem lineT_len {p : PE} (h : POk p) : (lineT p).length ≤ 49044 := by
  have h1 := join_len " " (lineW p)
  have h2 := sum_le (k := 121) fun x hx => (lineW_short h x hx).2.1
  have h3 := lineW_len h
  have h4 := Nat.mul_le_mul_right 121 h3
  have e : (" " : Str).length = 1 := rfl
  rw [e] at h1
  unfold lineT
  omega
/-- a word of a view is not do -/
theorem view_do {v : List Evt} (h : ∀ e ∈ v, EvOk e) : ("do" : Str) ∉ viewW v := by
  intro z
  obtain ⟨e, he, z⟩ := List.mem_flatMap.mp z
  rcases List.mem_cons.mp z with z | z
  · rcases evCount_kind (h e he).1 with ⟨y, _⟩ | ⟨y, _⟩ | ⟨y, _⟩ <;> rw [y] at z <;> exact absurd z (by decide)
  · obtain ⟨n, hn, z⟩ := List.mem_map.mp z
    have hd := (show Num ("do" : Str) n from ⟨z.symm, (h e he).2 n hn⟩).dig 100 (by decide)
    omega
theorem eqV_str (x y : Str) : eqV (.str x) (.str y) = decide (x = y) := by
  show (x == y) = _
  by_cases h : x = y
  · rw [h]; simp
  · rw [decide_eq_false h]; simpa using h
theorem ratTxt_inj {x : Str} {p q : Rat} (hp : RatTxt x p) (hq : RatTxt x q) : p = q := by
  have p0 := hp.1
  have q0 := hq.1
  rcases hp.parts with ⟨a1, a2, a3⟩ | ⟨a1, a2, a3, a4⟩ <;> rcases hq.parts with ⟨b1, b2, b3⟩ | ⟨b1, b2, b3, b4⟩
  · have e := (List.cons.inj (a2.symm.trans b2)).1
    rw [e] at a3
    have := Num.inj a3 b3
    exact Rat.ext (by omega) (by omega)
  · have e := congrArg List.length (a2.symm.trans b2)
    cases e
  · have e := congrArg List.length (a2.symm.trans b2)
    cases e
  · obtain ⟨e, e2⟩ := List.cons.inj (a2.symm.trans b2)
    have e3 := (List.cons.inj e2).1
    rw [e] at a3
    rw [e3] at a4
    have h1 := Num.inj a3 b3
    have h2 := Num.inj a4 b4
    exact Rat.ext (by omega) h2
end LL
namespace LL
open PySem PySem.Spec PyProof.Rows L2 He Evl ND
/-! ### entries as data -/
theorem str_lay {x : Str} {c : Nat} (h : evCount x = some c) : (PyData.str x).canLay0 = true := by
  rcases evCount_kind h with ⟨rfl, _⟩ | ⟨rfl, _⟩ | ⟨rfl, _⟩ <;> decide +kernel
theorem nums_lay : ∀ ns : List Nat, PyData.canLayAll0 (ns.map fun n => .int (n : Nat)) = true
  | [] => rfl
  | n :: ns => by rw [List.map_cons, PyData.canLayAll0, nums_lay ns]; rfl
theorem nums_depth : ∀ ns : List Nat, PyData.depthAll (ns.map fun n => .int (n : Nat)) = 0
  | [] => rfl
  | n :: ns => by rw [List.map_cons, PyData.depthAll, nums_depth ns]; rfl
theorem ev_lay {e : Evt} (h : EvOk e) : (evD e).canLay0 = true ∧ (evD e).depth = 1 := by
  unfold evD
  constructor
  · rw [PyData.canLay0, PyData.canLayAll0, str_lay h.1, nums_lay]; rfl
  · rw [PyData.depth, PyData.depthAll, nums_depth]; rfl
theorem evs_lay : ∀ {v : List Evt}, (∀ e ∈ v, EvOk e) → PyData.canLayAll0 (v.map evD) = true ∧ PyData.depthAll (v.map evD) ≤ 1
  | [], _ => ⟨rfl, Nat.zero_le _⟩
  | e :: v, h => by
    obtain ⟨h1, h2⟩ := ev_lay (h e (.head _))
    obtain ⟨h3, h4⟩ := evs_lay (v := v) fun x hx => h x (.tail _ hx)
    rw [List.map_cons, PyData.canLayAll0, h1, h3, PyData.depthAll, h2]
    exact ⟨rfl, by omega⟩
theorem view_lay {v : List Evt} (h : ∀ e ∈ v, EvOk e) : (viewD v).canLay0 = true ∧ (viewD v).depth ≤ 2 := by
  obtain ⟨h1, h2⟩ := evs_lay h
  unfold viewD
  rw [PyData.canLay0, PyData.depth]
  exact ⟨h1, by omega⟩
theorem all_lay {k : Nat} : ∀ {ds : List PyData}, (∀ d ∈ ds, d.canLay0 = true ∧ d.depth ≤ k) → PyData.canLayAll0 ds = true ∧ PyData.depthAll ds ≤ k
  | [], _ => ⟨rfl, Nat.zero_le _⟩
  | d :: ds, h => by
    obtain ⟨h1, h2⟩ := h d (.head _)
    obtain ⟨h3, h4⟩ := all_lay (ds := ds) fun x hx => h x (.tail _ hx)
    rw [PyData.canLayAll0, h1, h3, PyData.depthAll]
    exact ⟨rfl, by omega⟩
theorem shaped_of {d : PyData} (h : d.canLay0 = true ∧ d.depth ≤ 64) : SeqAt.shaped d = true := by
  unfold SeqAt.shaped
  rw [h.1, decide_eq_true h.2]
  rfl
theorem list_shaped {k : Nat} {ds : List PyData} (h : ∀ d ∈ ds, d.canLay0 = true ∧ d.depth ≤ k) (hk : k < 64) : SeqAt.shaped (.list ds) = true := by
  obtain ⟨h1, h2⟩ := all_lay h
  refine shaped_of ⟨?_, ?_⟩
  · rw [PyData.canLay0]; exact h1
  · rw [PyData.depth]; omega
/-- an entry of the law as data -/
def entD (p : PE) : PyData := .tuple [viewD p.1, .list (p.2.map fun q => .tuple [.int q.num, .int (q.den : Int)])]
theorem ent_lay {p : PE} (h : ∀ e ∈ p.1, EvOk e) : (entD p).canLay0 = true ∧ (entD p).depth ≤ 4 := by
  obtain ⟨h1, h2⟩ := view_lay h
  obtain ⟨h3, h4⟩ := all_lay (k := 1) (ds := p.2.map fun q => .tuple [.int q.num, .int (q.den : Int)]) fun d hd => by
    obtain ⟨q, _, rfl⟩ := List.mem_map.mp hd
    exact ⟨rfl, by simp [PyData.depth, PyData.depthAll]⟩
  unfold entD
  constructor
  · rw [PyData.canLay0, PyData.canLayAll0, PyData.canLayAll0, PyData.canLayAll0, h1, PyData.canLay0, h3]; rfl
  · rw [PyData.depth, PyData.depthAll, PyData.depthAll, PyData.depthAll, PyData.depth]
    omega
theorem in_views {v : List Evt} {ps : List PE} : ((ps.map fun p => viewD p.1).any fun z => PyData.eqv z (viewD v)) = decide (v ∈ ps.map (·.1)) := by
  rw [Bool.eq_iff_iff, List.any_map, List.any_eq_true, decide_eq_true_iff, List.mem_map]
  constructor
  · rintro ⟨p, hp, h⟩
    rw [Function.comp_apply, eqv_view] at h
    exact ⟨p, hp, of_decide_eq_true h⟩
  · rintro ⟨p, hp, rfl⟩
    exact ⟨p, hp, by rw [Function.comp_apply, eqv_view]; simp⟩
def LowW (x : Str) : Prop := ∀ c ∈ x.cps.toList, c < 1114112
theorem num_low {x : Str} {n : Nat} (h : Num x n) : LowW x := fun c hc => by have := h.dig c hc; omega
theorem rat_low {q : Rat} (h : QOk q) : LowW (ratStr q) := by
  have hn : Num (istr q.num) q.num.toNat := ⟨by rw [Int.toNat_of_nonneg h.1], by have := h.1; have := h.2.1; omega⟩
  have hd : Num (istr (q.den : Int)) q.den := ⟨rfl, h.2.2⟩
  unfold ratStr
  split
  · exact num_low hn
  · intro c z
    have z : c ∈ TL.tl (Str.ofString (toString q.num) ++ Str.ofString "/" ++ Str.ofString (toString (q.den : Int))) := z
    rw [TL.tl_append, TL.tl_append] at z
    rcases List.mem_append.mp z with z | z
    · rcases List.mem_append.mp z with z | z
      · exact num_low hn c z
      · have : c = 47 := List.mem_singleton.mp (show c ∈ [47] from z)
        omega
    · exact num_low hd c z
theorem kind_low {x : Str} {c : Nat} (h : evCount x = some c) : LowW x := by
  rcases evCount_kind h with ⟨rfl, _⟩ | ⟨rfl, _⟩ | ⟨rfl, _⟩
  · exact (by decide : ∀ c ∈ ("shown" : Str).cps.toList, c < 1114112)
  · exact (by decide : ∀ c ∈ ("asked" : Str).cps.toList, c < 1114112)
  · exact (by decide : ∀ c ∈ ("did" : Str).cps.toList, c < 1114112)
theorem lineW_low {p : PE} (h : POk p) : ∀ x ∈ lineW p, LowW x := by
  intro x hx
  unfold lineW at hx
  rcases List.mem_append.mp hx with hx | hx
  · rcases List.mem_append.mp hx with hx | hx
    · rcases List.mem_cons.mp hx with rfl | hx
      · exact (by decide : ∀ c ∈ ("at" : Str).cps.toList, c < 1114112)
      · obtain ⟨e, he, hx⟩ := List.mem_flatMap.mp hx
        rcases List.mem_cons.mp hx with rfl | hx
        · exact kind_low (h.2.1 e he).1
        · obtain ⟨n, hn, rfl⟩ := List.mem_map.mp hx
          exact num_low (n := n) ⟨rfl, (h.2.1 e he).2 n hn⟩
    · rcases List.mem_singleton.mp hx with rfl
      exact (by decide : ∀ c ∈ ("do" : Str).cps.toList, c < 1114112)
  · obtain ⟨q, hq, rfl⟩ := List.mem_map.mp hx
    exact rat_low (h.2.2.2 q hq)
theorem joinL_mem {S : List Nat} {c : Nat} : ∀ {L : List (List Nat)}, c ∈ TL.joinL S L → c ∈ S ∨ ∃ p ∈ L, c ∈ p
  | [], h => by cases h
  | [p], h => .inr ⟨p, .head _, h⟩
  | p :: q :: r, h => by
    have h : c ∈ p ++ (S ++ TL.joinL S (q :: r)) := h
    rcases List.mem_append.mp h with h | h
    · exact .inr ⟨p, .head _, h⟩
    · rcases List.mem_append.mp h with h | h
      · exact .inl h
      · rcases joinL_mem h with h | ⟨x, hx, h⟩
        · exact .inl h
        · exact .inr ⟨x, .tail _ hx, h⟩
theorem line_lay {p : PE} (h : POk p) : (PyData.str (lineT p)).canLay0 = true := by
  have hall : ∀ c ∈ (lineT p).cps.toList, c < 1114112 := by
    intro c hc
    have hc : c ∈ TL.tl (lineT p) := hc
    unfold lineT at hc
    rw [TL.join_eq, TL.tl_join] at hc
    rcases joinL_mem hc with hc | ⟨x, hx, hc⟩
    · have : c = 32 := List.mem_singleton.mp (show c ∈ [32] from hc)
      omega
    · obtain ⟨y, hy, rfl⟩ := List.mem_map.mp hx
      exact lineW_low h y hy c hc
  rw [PyData.canLay0]
  show (lineT p).cps.all (· < 0x110000) = true
  rw [← Array.all_toList]
  exact List.all_eq_true.mpr fun c hc => decide_eq_true (hall c hc)
end LL
namespace LL
open PySem PySem.Spec PyProof.Rows L2 He Evl ND
/-! ### the texts of views -/
def NmE (e : Evt) : Prop := PyData.canLay0 (.str e.1) = true
def NmV (v : List Evt) : Prop := ∀ e ∈ v, NmE e
/-- keys that may be compared as data -/
def KLay (k : NestedKey) : Prop := k.data.canLay0 = true ∧ k.data.depth ≤ 2
theorem nums_layK : ∀ ns : List Nat, PyData.canLayAll0 (NestedKey.datas (ns.map fun n => .num (n : Nat))) = true ∧ PyData.depthAll (NestedKey.datas (ns.map fun n => .num (n : Nat))) ≤ 0
  | [] => ⟨rfl, Nat.le_refl _⟩
  | n :: ns => by
    obtain ⟨h1, h2⟩ := nums_layK ns
    rw [List.map_cons, NestedKey.datas, PyData.canLayAll0, PyData.depthAll, h1, NestedKey.data]
    exact ⟨rfl, by rw [PyData.depth]; omega⟩
theorem ev_layK {e : Evt} (he : NmE e) : (evK e).data.canLay0 = true ∧ (evK e).data.depth ≤ 1 := by
  obtain ⟨h1, h2⟩ := nums_layK e.2
  have he : PyData.canLay0 (.str e.1) = true := he
  unfold evK
  rw [NestedKey.data, NestedKey.datas, NestedKey.data, PyData.canLay0, PyData.canLayAll0, he, h1, PyData.depth, PyData.depthAll, PyData.depth]
  exact ⟨rfl, by omega⟩
theorem evs_layK : ∀ {v : List Evt}, NmV v → PyData.canLayAll0 (NestedKey.datas (v.map evK)) = true ∧ PyData.depthAll (NestedKey.datas (v.map evK)) ≤ 1
  | [], _ => ⟨rfl, Nat.zero_le _⟩
  | e :: v, h => by
    obtain ⟨h3, h4⟩ := evs_layK (v := v) fun x hx => h x (.tail _ hx)
    obtain ⟨h1, h2⟩ := ev_layK (h e (.head _))
    rw [List.map_cons, NestedKey.datas, PyData.canLayAll0, PyData.depthAll, h3, h1]
    exact ⟨rfl, by omega⟩
theorem view_layK {v : List Evt} (h : NmV v) : KLay (viewK v) := by
  obtain ⟨h1, h2⟩ := evs_layK h
  unfold KLay viewK
  rw [NestedKey.data, PyData.canLay0, PyData.depth]
  exact ⟨h1, by omega⟩
/-- entries as the law's data -/
def entK (e : Ent) : PyData := .tuple [e.1.data, .list (e.2.map fun q => .tuple [.int q.num, .int (q.den : Int)])]
theorem entK_lay {e : Ent} (h : KLay e.1) : (entK e).canLay0 = true ∧ (entK e).depth ≤ 4 := by
  obtain ⟨h1, h2⟩ := h
  obtain ⟨h3, h4⟩ := all_lay (k := 1) (ds := e.2.map fun q => .tuple [.int q.num, .int (q.den : Int)]) fun d hd => by
    obtain ⟨q, _, rfl⟩ := List.mem_map.mp hd
    exact ⟨rfl, by simp [PyData.depth, PyData.depthAll]⟩
  unfold entK
  constructor
  · rw [PyData.canLay0, PyData.canLayAll0, PyData.canLayAll0, PyData.canLayAll0, h1, PyData.canLay0, h3]; rfl
  · rw [PyData.depth, PyData.depthAll, PyData.depthAll, PyData.depthAll, PyData.depth]
    omega
theorem ents_shaped {es : List Ent} (h : ∀ e ∈ es, KLay e.1) : SeqAt.shaped (.list (es.map entK)) = true ∧ PyData.eqv (.list (es.map entK)) (.list (es.map entK)) = true := by
  have h1 : SeqAt.shaped (.list (es.map entK)) = true := list_shaped (k := 4) (fun d hd => by
    obtain ⟨e, he, rfl⟩ := List.mem_map.mp hd
    exact entK_lay (h e he)) (by decide)
  exact ⟨h1, SeqAt.eqv_refl _ (SeqAt.canLay_of_shaped h1)⟩
end LL
namespace LL
open PySem PySem.Spec PyProof.Rows L2 He Evl ND
/-! ### lots of the law's plans, pairs with weights -/
section
variable {w : World} {K : PySem.W.Frag} {mg : Str → Option Value} {base : Heap}
section
variable {ms : List Addr} {W : Hp → Hp → Prop} [I : Wld ms W] {B : Hp} {σ : L2.St} {te ta tb : TE} {E : XK}
end
theorem lt_put {B : Hp} {kvs : List NE} {es : List Ent} {k : NestedKey} {b : Addr} {v : V} {qs : List Rat} (h : LtAt K B kvs es) (hn : ∀ e ∈ es, e.1 ≠ k) (hk : KeyAt K B b k) (hv : LvAt B v qs) : LtAt K B (nPut kvs k b v) (es ++ [(k, qs)]) := by
  have hg : nGet kvs k = none := by
    rcases h.find (k := k) with ⟨v2, e2, _, _, h4⟩ | ⟨h1, _⟩
    · exact absurd (of_decide_eq_true (List.find?_some (p := fun e : Ent => decide (e.1 = k)) h4)) (hn e2 (List.mem_of_find?_eq_some h4))
    · exact h1
  unfold nPut
  rw [hg]
  exact paired_app h (.cons ⟨rfl, hk, hv⟩ .nil)
end
end LL
namespace LL
open PySem PySem.Spec PyProof.Rows L2 He Evl ND
/-! ### drawn lots -/
theorem crk_sum {X : Cx} (K : PySem.W.Frag) (hc : X.calm = true) (hK : X.K = K := by rfl) : CallR X (.builtin "sum") (rSum K) := hK ▸ cr_sum hc
/-- drawn weights -/
structure GoodW (ws : List Int) : Prop where
  ne : ws ≠ []
  len : ws.length ≤ 5
  w : ∀ x ∈ ws, 0 ≤ x ∧ x ≤ 3
  s : 1 ≤ ws.sum
def lotW (ws : List Int) : List Rat := ws.map fun x => mkRat x ws.sum.toNat
theorem isum_nn : ∀ {ws : List Int}, (∀ x ∈ ws, 0 ≤ x ∧ x ≤ 3) → 0 ≤ ws.sum ∧ ws.sum ≤ 3 * ws.length ∧ ∀ x ∈ ws, x ≤ ws.sum
  | [], _ => ⟨by decide, by decide, fun x h => absurd h List.not_mem_nil⟩
  | y :: ws, h => by
    obtain ⟨a, b, c⟩ := isum_nn (ws := ws) fun x hx => h x (.tail _ hx)
    have hy := h y (.head _)
    rw [List.sum_cons, List.length_cons]
    refine ⟨by omega, by omega, fun x hx => ?_⟩
    rcases List.mem_cons.mp hx with rfl | hx
    · omega
    · have := c x hx; omega
theorem mk_sum (D : Nat) (hD : D ≠ 0) : ∀ ws : List Int, (ws.map fun x => mkRat x D).sum = mkRat ws.sum D
  | [] => by
    rw [List.map_nil, List.sum_nil, List.sum_nil, Rat.zero_mkRat]
  | x :: ws => by
    rw [List.map_cons, List.sum_cons, mk_sum D hD ws, List.sum_cons, Rat.mkRat_add_mkRat _ _ hD hD, ← Int.add_mul, Rat.mkRat_mul_right hD]
theorem mk_one {D : Nat} (hD : D ≠ 0) : mkRat (D : Int) D = 1 := by
  have := Rat.mkRat_mul_right (n := 1) (d := 1) (a := D) hD
  rw [Int.one_mul, Nat.one_mul] at this
  rw [this]
  rfl
theorem lotW_ok {ws : List Int} (h : GoodW ws) (k : NestedKey) : LotsOk (lotW ws) ∧ GoodE (k, lotW ws) ∧ (lotW ws).length ≤ 5 := by
  obtain ⟨a, b, c⟩ := isum_nn h.w
  have hl := h.len
  have hs := h.s
  have hD : ws.sum.toNat ≠ 0 := by omega
  refine ⟨fun q hq => ?_, ⟨fun z => ?_, fun q hq => ?_, ?_⟩, by unfold lotW; rw [List.length_map]; exact hl⟩
  · obtain ⟨x, hx, rfl⟩ := List.mem_map.mp hq
    have h1 := h.w x hx
    have h2 := c x hx
    exact lotq_of (by omega) (by omega) (by omega)
  · exact h.ne (List.map_eq_nil_iff.mp z)
  · obtain ⟨x, hx, rfl⟩ := List.mem_map.mp hq
    have h1 := h.w x hx
    rw [Rat.num_mkRat]
    split
    · exact Int.le_refl 0
    · exact Int.ediv_nonneg h1.1 (Int.natCast_nonneg _)
  · show (lotW ws).sum = 1
    unfold lotW
    rw [mk_sum _ hD]
    have e : ws.sum = ((ws.sum.toNat : Nat) : Int) := by omega
    conv => lhs; rw [e]
    rw [Int.toNat_natCast]
    exact mk_one hD
/-- the first weight is made greater if all are 0 -/
theorem goodW_first {x : Int} {r : List Int} (hw : ∀ y ∈ x :: r, 0 ≤ y ∧ y ≤ 3) (hl : (x :: r).length ≤ 5) : GoodW ((x + if decide (V.int (x :: r).sum = V.int 0) = true then 1 else 0) :: r) := by
  obtain ⟨a, b, c⟩ := isum_nn hw
  have hx := hw x (.head _)
  by_cases h0 : (x :: r).sum = 0
  · rw [h0, decide_eq_true rfl, if_pos rfl]
    have cx := c x (.head _)
    rw [h0] at cx
    rw [List.sum_cons] at h0
    refine ⟨List.cons_ne_nil _ _, hl, fun y hy => ?_, by rw [List.sum_cons]; omega⟩
    rcases List.mem_cons.mp hy with rfl | hy
    · omega
    · exact hw y (.tail _ hy)
  · rw [decide_eq_false (fun z => h0 (V.int.inj z)), if_neg (by decide), Int.add_zero]
    exact ⟨List.cons_ne_nil _ _, hl, hw, by omega⟩
/-- the plans that the law draws -/
structure DrOk (es : List Ent) : Prop where
  e : ∀ e ∈ es, LotsOk e.2 ∧ GoodE e ∧ e.2.length ≤ 5
  nd : (es.map (·.1)).Nodup
  k : ∀ e ∈ es, KLay e.1
theorem DrOk.ents {es : List Ent} (h : DrOk es) : EntsOk es := fun e he => (h.e e he).1
def LotOk (qs : List Rat) : Prop := LotsOk qs ∧ (∀ k, GoodE (k, qs)) ∧ qs.length ≤ 5
theorem DrOk.nil : DrOk [] := ⟨fun _ h => absurd h List.not_mem_nil, List.nodup_nil, fun _ h => absurd h List.not_mem_nil⟩
section
variable {w : World} {K : PySem.W.Frag} {B : Hp}
/-- an entry is put into a plan's dict -/
theorem lt_any {kvs : List NE} {es : List Ent} {k : NestedKey} {b : Addr} {v : V} {qs : List Rat} (h : LtAt K B kvs es) (ok : DrOk es) (hk : KeyAt K B b k ∧ KLay k) (hv : LvAt B v qs) (hq : LotOk qs) : ∃ es2, LtAt K B (nPut kvs k b v) es2 ∧ DrOk es2 ∧ es2.length ≤ es.length + 1 := by
  by_cases hn : ∃ e ∈ es, e.1 = k
  · have hg : (nGet kvs k).isSome = true := by
      rcases h.find (k := k) with ⟨v2, e2, h1, _, _⟩ | ⟨_, h4⟩
      · rw [h1]; rfl
      · obtain ⟨e, he, hek⟩ := hn
        have := List.find?_eq_none.mp h4 e he
        exact absurd (decide_eq_true hek) this
    refine ⟨es.map fun e => if e.1 = k then (e.1, qs) else e, ?_, ⟨fun e he => ?_, ?_, fun e he => ?_⟩, by rw [List.length_map]; omega⟩
    · unfold nPut
      rw [if_pos hg]
      clear hg hn ok
      induction h with
      | nil => exact .nil
      | @cons n e kvs es h1 h2 ih =>
        refine .cons ?_ ih
        obtain ⟨a, b', c⟩ := h1
        dsimp only
        by_cases z : n.1 = k
        · rw [if_pos z, if_pos (a ▸ z)]
          exact ⟨a, b', hv⟩
        · rw [if_neg z, if_neg (a ▸ z)]
          exact ⟨a, b', c⟩
    · obtain ⟨e', he', rfl⟩ := List.mem_map.mp he
      split
      · exact ⟨hq.1, hq.2.1 _, hq.2.2⟩
      · exact ok.e e' he'
    · have e1 : (es.map fun e => if e.1 = k then (e.1, qs) else e).map (·.1) = es.map (·.1) := by
        rw [List.map_map]
        refine List.map_congr_left fun e _ => ?_
        show (if e.1 = k then (e.1, qs) else e).1 = e.1
        split <;> rfl
      rw [e1]
      exact ok.nd
    · obtain ⟨e', he', rfl⟩ := List.mem_map.mp he
      split
      · exact ok.k e' he'
      · exact ok.k e' he'
  · have hn' : ∀ e ∈ es, e.1 ≠ k := fun e he z => hn ⟨e, he, z⟩
    refine ⟨es ++ [(k, qs)], lt_put h hn' hk.1 hv, ⟨fun e he => ?_, ?_, fun e he => ?_⟩, by rw [List.length_append, List.length_singleton]; omega⟩
    · rcases List.mem_append.mp he with he | he
      · exact ok.e e he
      · rw [List.mem_singleton.mp he]; exact ⟨hq.1, hq.2.1 _, hq.2.2⟩
    · rw [List.map_append, List.nodup_append]
      refine ⟨ok.nd, by simp, fun a ha b hb e => ?_⟩
      rw [List.map_singleton, List.mem_singleton] at hb
      obtain ⟨x, hx, rfl⟩ := List.mem_map.mp ha
      exact hn' x hx (e.trans hb)
    · rcases List.mem_append.mp he with he | he
      · exact ok.k e he
      · rw [List.mem_singleton.mp he]; exact hk.2
/-- dict([..]) of pairs -/
theorem lt_merge : ∀ (kvs acc : List NE) (es : List Ent), (∀ e ∈ kvs, (KeyAt K B e.2.1 e.1 ∧ KLay e.1) ∧ ∃ qs, LvAt B e.2.2 qs ∧ LotOk qs) → LtAt K B acc es → DrOk es → ∃ es2, LtAt K B (nMerge acc kvs) es2 ∧ DrOk es2 ∧ es2.length ≤ es.length + kvs.length
  | [], acc, es, _, h, ok => ⟨es, h, ok, by rw [List.length_nil]; omega⟩
  | e :: kvs, acc, es, hk, h, ok => by
    obtain ⟨h1, qs, h2, h3⟩ := hk e (.head _)
    obtain ⟨es2, a1, a2, a3⟩ := lt_any h ok h1 h2 h3
    obtain ⟨es3, b1, b2, b3⟩ := lt_merge kvs _ es2 (fun x hx => hk x (.tail _ hx)) a1 a2
    exact ⟨es3, b1, b2, by rw [List.length_cons]; omega⟩
theorem LtAt.lots {kvs : List NE} {es : List Ent} (h : LtAt K B kvs es) (ok : DrOk es) : ∀ e ∈ kvs, (KeyAt K B e.2.1 e.1 ∧ KLay e.1) ∧ ∃ qs, LvAt B e.2.2 qs ∧ LotOk qs := by
  have ok2 := ok.e
  have ok3 := ok.k
  clear ok
  induction h with
  | nil => exact fun _ h => absurd h List.not_mem_nil
  | @cons n e kvs es h1 h2 ih =>
    intro x hx
    rcases List.mem_cons.mp hx with rfl | hx
    · obtain ⟨a, b, c⟩ := h1
      obtain ⟨d1, d2, d3⟩ := ok2 e (.head _)
      exact ⟨⟨b, by rw [a]; exact ok3 e (.head _)⟩, e.2, c, d1, fun k => ⟨d2.1, d2.2.1, d2.2.2⟩, d3⟩
    · exact ih (fun e he => ok2 e (.tail _ he)) (fun e he => ok3 e (.tail _ he)) x hx
theorem nGet_mem : ∀ {kvs : List NE} {e : NE}, (kvs.map (·.1)).Nodup → e ∈ kvs → nGet kvs e.1 = some e.2.2
  | n :: kvs, e, nd, h => by
    rw [List.map_cons, List.nodup_cons] at nd
    by_cases c : n.1 = e.1
    · rcases List.mem_cons.mp h with rfl | h
      · exact valV_pos (p := (e.1, e.2.2)) rfl
      · exact absurd (by rw [c]; exact List.mem_map_of_mem (f := (·.1)) h) nd.1
    · rcases List.mem_cons.mp h with rfl | h
      · exact absurd rfl c
      · show valV ((n.1, n.2.2) :: nP kvs) e.1 = _
        rw [valV_neg (p := (n.1, n.2.2)) c]
        exact nGet_mem nd.2 h
theorem LtAt.keys {kvs : List NE} {es : List Ent} (h : LtAt K B kvs es) : kvs.map (·.1) = es.map (·.1) := by
  induction h with
  | nil => rfl
  | cons h1 h2 ih => rw [List.map_cons, List.map_cons, h1.1, ih]
/-- what a list of pairs tells -/
theorem pairs_of {kvs : List NE} : ∀ {ys : List V}, (∀ (i : Nat) y, ys[i]? = some y → ∃ T e, e ∈ kvs ∧ y = .ref T ∧ SqT K B T [.ref e.2.1, e.2.2]) → ∃ (Ts : List Addr) (es : List NE), ys = Ts.map V.ref ∧ Paired (fun T (e : NE) => SqT K B T [.ref e.2.1, e.2.2]) Ts es ∧ (∀ e ∈ es, e ∈ kvs) ∧ es.length = ys.length
  | [], _ => ⟨[], [], rfl, .nil, fun _ h => absurd h List.not_mem_nil, rfl⟩
  | y :: ys, h => by
    obtain ⟨T, e, he, rfl, hT⟩ := h 0 y rfl
    obtain ⟨Ts, es, rfl, h2, h3, h4⟩ := pairs_of (ys := ys) fun i y hy => h (i + 1) y (by simpa using hy)
    refine ⟨T :: Ts, e :: es, rfl, .cons hT h2, fun x hx => ?_, by rw [List.length_cons, List.length_cons, h4]⟩
    rcases List.mem_cons.mp hx with rfl | hx
    · exact he
    · exact h3 x hx
/-- dict(list of pairs), told in the base -/
theorem gw_dict {ms : List Addr} {W : Hp → Hp → Prop} [I : Wld ms W] {σ : L2.St} {te : TE} {N : Nat} (h : GW ms W (te σ) B (fun v B2 => ∃ a Ts kvs, v = .ref a ∧ B2 a = some (.lst (Ts.map V.ref)) ∧ Paired (fun T (e : NE) => SqT K B2 T [.ref e.2.1, e.2.2]) Ts kvs ∧ (∀ e ∈ kvs, (KeyAt K B2 e.2.1 e.1 ∧ KLay e.1) ∧ ∃ qs, LvAt B2 e.2.2 qs ∧ LotOk qs) ∧ kvs.length ≤ N)) : GW ms W (tCB (rDict P w K) (tCons te tNil) σ) B (fun v B2 => ∃ es, LpAt w K B2 v es ∧ DrOk es ∧ es.length ≤ N) := by
  refine gw_cb (S := fun vs B2 => ∃ a Ts kvs, vs = [.ref a] ∧ B2 a = some (.lst (Ts.map V.ref)) ∧ Paired (fun T (e : NE) => SqT K B2 T [.ref e.2.1, e.2.2]) Ts kvs ∧ (∀ e ∈ kvs, (KeyAt K B2 e.2.1 e.1 ∧ KLay e.1) ∧ ∃ qs, LvAt B2 e.2.2 qs ∧ LotOk qs) ∧ kvs.length ≤ N) (gw_cons h fun v B2 e2 ⟨a, Ts, kvs, hv, h1, h2, h3, h4⟩ => gw_nil fun B3 e3 => ⟨a, Ts, kvs, by rw [hv], e3 _ _ h1, paired_mono h2 fun _ _ z => ex_t e3 z, fun e he => ?_, h4⟩) fun vs B2 e2 ⟨a, Ts, kvs, hv, h1, h2, h3, h4⟩ => ?_
  · obtain ⟨x, qs, y, z⟩ := h3 e he
    exact ⟨⟨key_mono x.1 e3, x.2⟩, qs, y.mono e3, z⟩
  · subst hv
    intro B3 H3 e3 w3 Q q
    have e4 := e3.trans (I.e w3)
    refine ⟨a, Ts, kvs, rfl, sq_of (e4 _ _ h1), paired_mono h2 fun _ _ z => ex_t e4 z, fun e he => key_mono (h3 e he).1.1 e4, fun d nd => ?_⟩
    obtain ⟨s5, w5⟩ := Wld.new (I := I) (o := NDo P w d (nMerge [] kvs)) w3 nd
    have e5 := e3.trans s5.base
    obtain ⟨es, a1, a2, a3⟩ := lt_merge (K := K) (B := upd B3 d (NDo P w d (nMerge [] kvs))) kvs [] [] (fun e he => by
      obtain ⟨x, qs, y, z⟩ := h3 e he
      exact ⟨⟨key_mono x.1 e5, x.2⟩, qs, y.mono e5, z⟩) .nil .nil
    rw [List.length_nil, Nat.zero_add] at a3
    exact q _ _ _ s5 w5 ⟨es, ⟨d, _, rfl, upd_same, a1⟩, a2, by omega⟩
end
end LL
namespace LL
open PySem PySem.Spec PyProof.Rows L2 He Evl ND
/-! ### trees in the heap, and the rows that may stand -/
theorem pcF {X : Cx} {P : Program} {w : World} : Passes (L2.CX P w) X (fun _ _ _ => False) := fun _ _ _ _ _ _ _ h => by
  obtain ⟨_, _, _, _, _, _, _, _, _, _, _, _, h⟩ := h
  exact h.elim
section

end
section

end
end LL
namespace LL
open PySem PySem.Spec PyProof.Rows L2 He Evl ND
theorem paired_take {α β : Type} {R : α → β → Prop} : ∀ {xs : List α} {ys : List β} (n : Nat), Paired R xs ys → Paired R (xs.take n) (ys.take n)
  | _, _, 0, _ => .nil
  | _, _, _ + 1, .nil => .nil
  | _, _, n + 1, .cons h t => .cons h (paired_take n t)
section
variable {w : World} {K : PySem.W.Frag} {mg : Str → Option Value} {base : Heap}
theorem einb_mono {B B2 : Hp} {v : V} {e : Ent} (h : EinAt K B B v e) (x : Ex B B2) : EinAt K B2 B2 v e := by
  obtain ⟨t, b, l, vs, h1, h2, h3, h4, h5⟩ := h
  exact ⟨t, b, l, vs, h1, ex_t x h2, h3.mono x, ex_l x h4, rats_mono h5 x⟩
theorem einb_at {B H : Hp} {v : V} {e : Ent} (h : EinAt K B B v e) (x : Ex B H) : EinAt K B H v e := by
  obtain ⟨t, b, l, vs, h1, h2, h3, h4, h5⟩ := h
  exact ⟨t, b, l, vs, h1, h2, h3, ex_l x h4, h5⟩
/-- a Plan is made of entries that it takes -/
theorem mk_planG (T : Txt K mg) (kz : Nat) {B H : Hp} {D : Addr} {us : List V} {es : List Ent} {Q : VK} {E : XK} (eB : Ex B H) (hD : H D = some (.lst us)) (hu : Paired (EinAt K B B) us es) (hl : es.length ≤ 1000) (hk : 1 ≤ kz ∧ kz ≤ 1000) (hz : ∀ e ∈ es, 1 + e.2.length * (kz + 1) ≤ 8000 ∧ ∀ q ∈ e.2, Sz kz q) (hb : planBad [] 0 es = none)
    (k : ∀ v B2 H2, Stp [] B H B2 H2 → PlanAt w K B2 v es → Q v H2) : ∀ x dx, H x = none → H dx = none → dx ≠ x → spPI w K [.ref x, .ref D] (upd (upd H dx (.own x)) x (.ins (ga K "Plan") dx [])) (fun v H2 => v = .non ∧ Q (.ref x) H2) E := by
  intro x dx nx ndx ne
  have hx0 : upd H dx (.own x) x = none := by rw [upd_ne (Ne.symm ne)]; exact nx
  have e1 : Ex H (upd H dx (.own x)) := Ex.new ndx
  have e2 : Ex (upd H dx (.own x)) (upd (upd H dx (.own x)) x (.ins (ga K "Plan") dx [])) := Ex.new hx0
  have eB' : Ex B (upd (upd H dx (.own x)) x (.ins (ga K "Plan") dx [])) := eB.trans (e1.trans e2)
  have bx : B x = none := ex_none eB nx
  refine ⟨B, x, dx, D, us, es, kz, rfl, eB', bx, upd_same, sq_of (e2 _ _ (e1 _ _ hD)), paired_mono hu fun v e h => einb_at h eB', hl, hk, hz, fun _ B2 H2 t kvs s hx2 ht htab => ⟨rfl, ?_⟩, fun i hi => ?_⟩
  · have s0 : Stp [x] B (upd H dx (.own x)) B (upd (upd H dx (.own x)) x (.ins (ga K "Plan") dx [])) := Stp.cell (eB.trans e1) hx0
    have cl := Stp.close (ms := []) (o0 := .ins (ga K "Plan") dx []) (eB.trans e1) hx0 s hx2
    have s1 : Stp [] B H B (upd H dx (.own x)) := Stp.cell eB ndx
    refine k (.ref x) _ H2 (s1.trans cl) ⟨x, dx, t, kvs, rfl, upd_same, ?_, htab.mono (Ex.new ?_)⟩
    · have : t ≠ x := fun z => by
        subst z
        have := s.in_ _ _ ht
        rw [hx2] at this
        unfold NDo at this
        cases this
      rw [upd_ne this]; exact ht
    · exact s.off bx upd_same
  · rw [hb] at hi; cases hi
end
end LL
namespace LL
open PySem PySem.Spec PyProof.Rows L2 He Evl ND
/-! ### strange plans; plans of the entries -/
section
variable {w : World} {K : PySem.W.Frag} {mg : Str → Option Value} {base : Heap}
/-- a new list of new pairs goes into the base -/
theorem items_base {ms : List Addr} {B H H2 : Hp} {l : Addr} {Ts : List Addr} {kvs : List NE} (eB : Ex B H) (x : Ex H H2) (nl : H l = none) (hl : H2 l = some (.lst (Ts.map V.ref))) (hT : ∀ T ∈ Ts, H T = none) (hp : PrsAt H2 Ts kvs) :
    ∃ B2, Stp ms B H B2 H2 ∧ B2 l = some (.lst (Ts.map V.ref)) ∧ PrsAt B2 Ts kvs := by
  classical
  have hB : ∀ b, (b = l ∨ b ∈ Ts) → B b = none := fun b h => by
    rcases h with rfl | h
    · exact ex_none eB nl
    · exact ex_none eB (hT b h)
  refine ⟨fun b => if b = l ∨ b ∈ Ts then H2 b else B b, ⟨fun b o ho => ?_, fun b o ho => ?_, fun b h1 h2 => ?_, fun b o _ ho => x b o ho, fun b h hz => ?_⟩, ?_, ?_⟩
  · by_cases c : b = l ∨ b ∈ Ts
    · rw [hB b c] at ho; cases ho
    · simp only [if_neg c]; exact ho
  · by_cases c : b = l ∨ b ∈ Ts
    · simp only [if_pos c] at ho; exact ho
    · simp only [if_neg c] at ho; exact x _ _ (eB _ _ ho)
  · have c : ¬ (b = l ∨ b ∈ Ts) := fun c => by
      rcases c with rfl | c
      · exact h2 nl
      · exact h2 (hT b c)
    simp only [if_neg c]; exact h1
  · cases hh : H b with
    | none => exact h hh
    | some o => rw [x _ _ hh] at hz; cases hz
  · simp only [if_pos (Or.inl rfl : l = l ∨ l ∈ Ts)]; exact hl
  · have hin : ∀ T ∈ Ts, (fun b => if b = l ∨ b ∈ Ts then H2 b else B b) T = H2 T := fun T h => if_pos (.inr h)
    generalize (fun b => if b = l ∨ b ∈ Ts then H2 b else B b) = B2 at hin
    clear hB hl hT
    induction hp with
    | nil => exact .nil
    | @cons T e Ts kvs p1 p2 ih => exact .cons ((hin T (.head _)).trans p1) (ih fun T h => hin T (.tail _ h))
section
variable {ms : List Addr} {W : Hp → Hp → Prop} [I : Wld ms W] {B : Hp} {σ : L2.St} {te ta tb : TE} {E : XK}
/-- list(d.items()) of a dict in the base -/
theorem gw_items {d : Addr} {kvs : List NE} (h : Ev te σ B (.ref d)) (hd : B d = some (NDo P w d kvs)) : GW ms W (tCB (rListItems P w) (tCons (tItems P w te) tNil) σ) B (fun v B2 => ∃ l Ts, v = .ref l ∧ B2 l = some (.lst (Ts.map V.ref)) ∧ PrsAt B2 Ts kvs) := fun B1 H1 e1 w1 Q q =>
  h H1 (e1.trans (I.e w1)) _ fun H2 e2 => by
    obtain ⟨s2, w2⟩ := Wld.ex (I := I) w1 e2
    have hd2 := I.e w2 _ _ (e1 _ _ hd)
    refine ⟨d, kvs, rfl, .inl hd2, fun p np => ?_⟩
    have e3 : Ex H2 (upd H2 p (DX.itemsO p d)) := Ex.new np
    obtain ⟨s3, w3⟩ := Wld.ex (I := I) w2 e3
    refine ⟨p, d, kvs, rfl, upd_same, .inl (e3 _ _ hd2), fun H4 l Ts x nl hl hT _ hp => ?_⟩
    obtain ⟨B4, s4, a1, a2⟩ := items_base (ms := []) (I.e w3) x nl hl hT hp
    exact q _ B4 H4 (s2.trans (s3.trans s4.nil)) (I.st w3 s4) ⟨l, Ts, rfl, a1, a2⟩
/-- xs + ys, lists -/
theorem gw_cat {R : List V → Hp → Prop} {S : List V → Hp → Prop} (h1 : GW ms W (ta σ) B (fun v B2 => ∃ l xs, v = .ref l ∧ B2 l = some (.lst xs) ∧ xs.length ≤ 10000 ∧ R xs B2)) (h2 : ∀ B1, Ex B B1 → GW ms W (tb σ) B1 (fun v B2 => ∃ l xs, v = .ref l ∧ B2 l = some (.lst xs) ∧ xs.length ≤ 10000 ∧ S xs B2)) (hm : ∀ xs B1 B2, Ex B1 B2 → R xs B1 → R xs B2) (hs : ∀ xs B1 B2, Ex B1 B2 → S xs B1 → S xs B2) :
    GW ms W (tOp rCat ta tb σ) B (fun v B2 => ∃ l xs ys, v = .ref l ∧ B2 l = some (.lst (xs ++ ys)) ∧ xs.length ≤ 10000 ∧ ys.length ≤ 10000 ∧ R xs B2 ∧ S ys B2) := by
  have hbig : (100000 : Nat) ≤ sizeLine := by decide
  refine gw_op h1 fun x B1 e1 ⟨l, xs, hx, hl, hxl, hr⟩ => (h2 B1 e1).imp fun y B2 e2 ⟨m, ys, hy, hm2, hyl, hs2⟩ => ?_
  subst hx hy
  intro B3 H3 e3 w3 Q q
  refine ⟨l, m, xs, ys, rfl, rfl, I.e w3 _ _ ((e2.trans e3) _ _ hl), I.e w3 _ _ (e3 _ _ hm2), by omega, fun p np => ?_⟩
  obtain ⟨s4, w4⟩ := Wld.new (I := I) (o := .lst (xs ++ ys)) w3 np
  exact q _ _ _ s4 w4 ⟨p, xs, ys, rfl, upd_same, hxl, hyl, hm xs _ _ ((e2.trans e3).trans s4.base) hr, hs ys _ _ (e3.trans s4.base) hs2⟩
/-- xs[lo:hi], a list -/
theorem gw_slL {tl th : TO} {lo hi : Option Int} {a : Addr} {xs : List V} (h : Ev te σ B (.ref a)) (ha : B a = some (.lst xs)) (h1 : EvO tl σ B lo) (h2 : EvO th σ B hi) : GW ms W (tSl (rSlL K) te tl th σ) B (fun v B2 => ∃ l, v = .ref l ∧ B2 l = some (.lst (cutV xs lo hi))) := fun B1 H1 e1 w1 Q q =>
  h H1 (e1.trans (I.e w1)) _ fun H2 e2 => h1 H2 ((e1.trans (I.e w1)).trans e2) _ fun H3 e3 => h2 H3 (((e1.trans (I.e w1)).trans e2).trans e3) _ fun H4 e4 => by
    obtain ⟨s4, w4⟩ := Wld.ex (I := I) w1 (e2.trans (e3.trans e4))
    refine ⟨a, xs, rfl, sq_of (I.e w4 _ _ (e1 _ _ ha)), fun p np => ?_⟩
    obtain ⟨s5, w5⟩ := Wld.new (I := I) (o := .lst (cutV xs lo hi)) w4 np
    exact q _ _ _ (s4.trans s5) w5 ⟨p, rfl, upd_same⟩
end
theorem paired_drop {α β : Type} {R : α → β → Prop} : ∀ {xs : List α} {ys : List β} (n : Nat), Paired R xs ys → Paired R (xs.drop n) (ys.drop n)
  | _, _, 0, h => h
  | _, _, _ + 1, .nil => .nil
  | _, _, n + 1, .cons _ t => paired_drop n t
theorem cut_take {xs : List V} {b : Nat} (h : b ≤ xs.length) : cutV xs none (some ((b : Nat) : Int)) = xs.take b := by
  have n1 : HT.sIx xs.length xs.length (some ((b : Nat) : Int)) = b := by rw [HT.sIx_nat]; omega
  have n0 : HT.sIx xs.length 0 none = 0 := rfl
  unfold cutV
  rw [n1, n0, List.drop_zero, Nat.sub_zero]
theorem cut_drop {xs : List V} {b : Nat} (h : b ≤ xs.length) : cutV xs (some ((b : Nat) : Int)) none = xs.drop b := by
  have n1 : HT.sIx xs.length 0 (some ((b : Nat) : Int)) = b := by rw [HT.sIx_nat]; omega
  have n0 : HT.sIx xs.length xs.length none = xs.length := rfl
  unfold cutV
  rw [n1, n0, List.take_of_length_le (by rw [List.length_drop]; omega)]
theorem third_num : (mkRat 1 3).num = 1 ∧ (mkRat 1 3).den = 3 ∧ (mkRat 2 3).num = 2 ∧ (mkRat 2 3).den = 3 := by decide +kernel
end
end LL
namespace LL
open PySem PySem.Spec PyProof.Rows L2 He Evl ND
/-! ### a dict of the base is locked -/
/-- the base without d -/
def wo (d : Addr) (B : Hp) : Hp := fun b => if b = d then none else B b
theorem wo_at {d : Addr} {B : Hp} : wo d B d = none := if_pos rfl
theorem wo_ne {d b : Addr} {B : Hp} (h : b ≠ d) : wo d B b = B b := if_neg h
theorem wo_ex {d : Addr} {B : Hp} : Ex (wo d B) B := fun b o h => by
  by_cases c : b = d
  · rw [c, wo_at] at h; cases h
  · rwa [wo_ne c] at h
theorem wo_mono {d : Addr} {B B2 : Hp} (e : Ex B B2) : Ex (wo d B) (wo d B2) := fun b o h => by
  by_cases c : b = d
  · rw [c, wo_at] at h; cases h
  · rw [wo_ne c] at h ⊢; exact e _ _ h
section
variable {w : World} {K : PySem.W.Frag} {mg : Str → Option Value} {base : Heap} {B : Hp} {d : Addr} {kvs : List NE}
theorem wo_keep {a : Addr} {o : HO} (hd : B d = some (NDo P w d kvs)) (h : B a = some o) (n : o ≠ NDo P w d kvs) : wo d B a = some o := by
  rw [wo_ne fun z => ?_]
  · exact h
  · rw [z, hd] at h
    exact n (Option.some.inj h).symm
theorem sqt_wo (hd : B d = some (NDo P w d kvs)) {a : Addr} {xs : List V} (h : SqT K B a xs) : SqT K (wo d B) a xs := by
  rcases h with (h | ⟨o, h⟩) | h
  · exact .inl (.inl (wo_keep hd h (by unfold NDo; nofun)))
  · exact .inl (.inr ⟨o, wo_keep hd h (by unfold NDo; nofun)⟩)
  · exact .inr h
theorem sql_wo (hd : B d = some (NDo P w d kvs)) {a : Addr} {xs : List V} (h : SqL K B a xs) : SqL K (wo d B) a xs := by
  rcases h with (h | ⟨o, h⟩) | h
  · exact .inl (.inl (wo_keep hd h (by unfold NDo; nofun)))
  · exact .inl (.inr ⟨o, wo_keep hd h (by unfold NDo; nofun)⟩)
  · exact .inr h
mutual
theorem dp_wo (hd : B d = some (NDo P w d kvs)) : ∀ {v : V} {x : PyData}, Dp K B v x → Dp K (wo d B) v x
  | _, _, .non => .non
  | _, _, .bl b => .bl b
  | _, _, .int i => .int i
  | _, _, .str x => .str x
  | _, _, .lst h a => .lst (sql_wo hd h) (dpa_wo hd a)
  | _, _, .tup h a => .tup (sqt_wo hd h) (dpa_wo hd a)
theorem dpa_wo (hd : B d = some (NDo P w d kvs)) : ∀ {vs : List V} {ds : List PyData}, DpAll K B vs ds → DpAll K (wo d B) vs ds
  | _, _, .nil => .nil
  | _, _, .cons h a => .cons (dp_wo hd h) (dpa_wo hd a)
end
theorem key_wo (hd : B d = some (NDo P w d kvs)) {b : Addr} {k : NestedKey} (h : KeyAt K B b k) : KeyAt K (wo d B) b k := ⟨h.1, h.2.1, dp_wo hd h.2.2⟩
theorem lv_wo (hd : B d = some (NDo P w d kvs)) {v : V} {qs : List Rat} (h : LvAt B v qs) : LvAt (wo d B) v qs := by
  obtain ⟨l, vs, h1, h2, h3⟩ := h
  exact ⟨l, vs, h1, wo_keep hd h2 (by unfold NDo; nofun), paired_mono h3 fun _ _ ⟨a, g1, g2⟩ => ⟨a, g1, wo_keep hd g2 (by unfold NDo; nofun)⟩⟩
theorem lt_wo (hd : B d = some (NDo P w d kvs)) {ks : List NE} {es : List Ent} (h : LtAt K B ks es) : LtAt K (wo d B) ks es := paired_mono h fun _ _ ⟨h1, h2, h3⟩ => ⟨h1, key_wo hd h2, lv_wo hd h3⟩
/-- the dict goes back into the base -/
theorem Stp.back {ms : List Addr} {H B2 H2 : Hp} {o : HO} (hB : B d = some o) (h2 : H2 d = some o) (s : Stp ms (wo d B) H B2 H2) (b2 : B2 d = none) : Stp ms B H (upd B2 d o) H2 where
  base b x h := by
    by_cases c : b = d
    · subst c
      rw [hB] at h
      rw [upd_same, h]
    · rw [upd_ne c]
      exact s.base b x (by rw [wo_ne c]; exact h)
  in_ b x h := by
    by_cases c : b = d
    · subst c
      rw [upd_same] at h
      rw [h2, h]
    · rw [upd_ne c] at h
      exact s.in_ b x h
  nw x h1 h3 := by
    have c : x ≠ d := fun z => by rw [z, hB] at h1; cases h1
    rw [upd_ne c]
    exact s.nw x (by rw [wo_ne c]; exact h1) h3
  fr := s.fr
  al := s.al
section
variable {ms : List Addr} {W : Hp → Hp → Prop} [I : Wld ms W] {σ : L2.St} {te : TE} {g : TG} {ws : List Nat} {R : V → Hp → Prop}
/-- a comprehension over a walk, G told by the world -/
theorem lc_worldW {J : L2.It} {n : Nat} {G : Hp → Prop} {xs : List V} (wk : Walk J n G (YAt xs)) (hn : n = xs.length) {B0 H0 : Hp} (w : W B0 H0) (hz : xs.length ≤ 100000) (hG : ∀ B' H', W B' H' → G H')
    {Re : Nat → V → Hp → Prop} (hm : ∀ i v B1 B2, Ex B1 B2 → Re i v B1 → Re i v B2) (he : ∀ i x, xs[i]? = some x → ∀ B1 H1, Ex B0 B1 → W B1 H1 → LcE ms W g te ws σ B1 x (Re i)) {D : Addr} (nD : H0 D = none) {Q : VK}
    (q : ∀ ys B2 H2, Stp ms B0 H0 B2 H2 → W B2 H2 → B2 D = some (.lst ys) → ys.length = xs.length → (∀ i y, ys[i]? = some y → Re i y B2) → Q (.ref D) H2) :
    ∃ Wt : Nat → Nat → Hp → Prop, (∃ m, Wt 0 m (upd H0 D (.lst []))) ∧ ∀ i m H, Wt i m H →
    (J.stop i H ∧ Q (.ref D) H) ∨ (J.go i H ∧ ∃ Nx : Hp → Prop, (∀ H', Nx H' → ∃ m', m' < m ∧ Wt (i + 1) m' H') ∧ ∀ x H', J.yld i H x H' → g x (wipe σ ws) H' fun σ2 H2 => wipe σ2 ws = wipe σ ws ∧ tYes σ2 H2 fun b H3 =>
        if b = true then te σ2 H3 fun y H4 => ∃ acc, H4 D = some (.lst acc) ∧ acc.length < sizeLine ∧ Nx (upd H4 D (.lst (acc ++ [y]))) else Nx H3) := by
  have hbig : (100000 : Nat) ≤ sizeLine := by decide
  have nL := Wld.off (I := I) w nD
  refine lc_it wk (fun i H' => ∃ B' vs, LcS ms W D B0 H0 Re i B' H' vs) ⟨B0, [], LcS.zero w nD⟩ ?_ ?_ ?_
  · rintro i H' _ ⟨B', vs, z⟩
    exact hG B' H' z.w
  · rintro i x H' H'' hi ⟨B', vs, z⟩ ⟨rfl, hx⟩
    obtain ⟨σi, h1, h2, h3⟩ := (he i x hx B' H'' z.st.base z.w).go
    refine h2 B' H'' (Ex.refl _) (I.e z.w) _ ⟨h1, yes_if ?_⟩
    refine h3 B' H'' (Ex.refl _) z.w _ fun v B3 H3 s3 w3 rv => ?_
    obtain ⟨a1, a2⟩ := z.more nL hm s3 w3 rv
    have hl := z.len
    exact ⟨vs, a1, by omega, B3, vs ++ [v], a2⟩
  · rintro H' ⟨B', vs, z⟩
    obtain ⟨a1, a2, a3⟩ := z.done w nD hm
    exact q vs _ H' a1 a2 upd_same (by rw [z.len, hn]) a3
/-- [.. for k in d], d a dict of the base -/
theorem gw_lockLc {ta : TE} {Re : Nat → V → Hp → Prop} (hd : B d = some (NDo P w d kvs)) (hv : ∀ B', Ev ta σ B' (.ref d)) (hz : kvs.length ≤ 100000) (hm : ∀ i v B1 B2, Ex B1 B2 → Re i v B1 → Re i v B2)
    (he : ∀ i e, kvs[i]? = some e → ∀ od B1, Ex (wo d B) B1 → LcE [d] (WF d (.frz od (NDo P w d kvs))) g te ws σ B1 (.ref e.2.1) (Re i))
    (r : ∀ D ys B1, Ex B B1 → B1 D = some (.lst ys) → ys.length = kvs.length → (∀ i y, ys[i]? = some y → Re i y B1) → R (.ref D) B1) : GW ms W (tLockE (tLc (iKeysN P w ta) g tYes te ws) σ) B R := gw_base fun B1 H1 e1 w1 Q q => by
  have hd1 := e1 _ _ hd
  have hH1 := w1 _ _ hd1
  refine ⟨d, _, hH1, trivial, fun od => ?_⟩
  generalize hX : HO.frz od (NDo P w d kvs) = X
  have wF : WF d X (wo d B1) (upd H1 d X) := ⟨Ex.mut (wo_ex.trans w1) wo_at, wo_at, upd_same⟩
  refine hv (upd H1 d X) _ (Ex.refl _) _ fun H2 e2 => ?_
  obtain ⟨s2, w2⟩ := Wld.ex (ms := [d]) wF e2
  have h2d : H2 d = some (HO.frz od (NDo P w d kvs)) := by rw [hX]; exact w2.2.2
  refine ⟨d, od, kvs, rfl, h2d, fun D nD => ?_⟩
  have wk : Walk (ItkN P w d od kvs) kvs.length (fun H => H d = some (.frz od (NDo P w d kvs))) (YAt (kvs.map fun e => V.ref e.2.1)) := walk_keysN.mono (fun _ h => h) fun i H x H' _ _ ⟨h1, en, h2, h3⟩ => ⟨h1, by rw [List.getElem?_map, h2, h3]; rfl⟩
  refine lc_worldW (ms := [d]) (W := WF d X) (Re := Re) (Q := fun v H' => H' d = some X ∧ Q v (upd H' d (NDo P w d kvs))) wk (by rw [List.length_map]) w2 (by rw [List.length_map]; exact hz) (fun B' H' h => (by show H' d = some (HO.frz od (NDo P w d kvs)); rw [hX]; exact h.2.2)) hm (fun i x hx B' H' e' _ => ?_) nD fun ys B3 H3 s3 w3 hD hyl hre => ?_
  · rw [List.getElem?_map] at hx
    obtain ⟨en, hen, rfl⟩ := Option.map_eq_some_iff.mp hx
    have := he i en hen od B' ((wo_mono e1).trans e')
    rw [hX] at this
    exact this
  · refine ⟨w3.2.2, ?_⟩
    have sA : Stp [] (wo d B1) (upd H1 d X) B3 H3 := Stp.same upd_same w3.2.2 (s2.trans s3)
    rw [← hX] at sA
    have sB : Stp [] (wo d B1) H1 B3 (upd H3 d (NDo P w d kvs)) := Stp.locked hH1 wo_at sA
    have sC := Stp.back hd1 upd_same sB w3.2.1
    have eU : Ex B3 (upd B3 d (NDo P w d kvs)) := Ex.new w3.2.1
    rw [List.length_map] at hyl
    exact q _ _ _ sC (r D ys _ (e1.trans sC.base) (eU _ _ hD) hyl fun i y hy => hm i y _ _ eU (hre i y hy))
end
/-! ### plans that are made -/
/-- Plan(list of entries), told in the base -/
theorem gw_mkPlan (T : Txt K mg) {ms : List Addr} {W : Hp → Hp → Prop} [I : Wld ms W] {σ : L2.St} {te : TE} {E : XK} {es : List Ent} (kz : Nat) (h : GW ms W (te σ) B (fun v B2 => ∃ l us, v = .ref l ∧ B2 l = some (.lst us) ∧ Paired (EinAt K B2 B2) us es)) (hl : es.length ≤ 1000) (hk : 1 ≤ kz ∧ kz ≤ 1000) (hz : ∀ e ∈ es, 1 + e.2.length * (kz + 1) ≤ 8000 ∧ ∀ q ∈ e.2, Sz kz q) (hb : planBad [] 0 es = none) :
    GW ms W (StX.tMakeR (ga K "Plan") (spPI w K) E (tCons te tNil) σ) B (fun v B2 => PlanAt w K B2 v es) :=
  gw_bind (k2 := fun (v : V) H Q => ∀ x dx, H x = none → H dx = none → dx ≠ x → spPI w K [.ref x, v] (upd (upd H dx (.own x)) x (.ins (ga K "Plan") dx [])) (fun u H2 => u = .non ∧ Q (V.ref x) H2) E) h fun v B1 e1 ⟨l, us, hv, h1, h2⟩ => by
    subst hv
    exact gw_base fun B2 H2 e2 w2 Q q => mk_planG T kz w2 (w2 _ _ (e2 _ _ h1)) (paired_mono h2 fun _ _ z => einb_mono z e2) hl hk hz hb fun x B3 H3 s3 h3 => q x B3 H3 s3 h3
def scMP : Scope := { kind := .function, names := [(".0", .local), ("_law_view", .local), ("_law_plan", .cell)], isGenerator := false, isCoroutine := false }
def spMadePlan (w : World) (K : PySem.W.Frag) : Sp := fun us H Q _ => ∃ (B : Hp) (pvv : V) (es : List Ent), us = [pvv] ∧ Ex B H ∧ LpAt w K B pvv es ∧ DrOk es ∧ es.length ≤ 401 ∧ ∀ v B2 H2, Stp [] B H B2 H2 → PlanAt w K B2 v es → Q v H2
theorem dr_bad {es : List Ent} (h : DrOk es) : planBad [] 0 es = none := planBad_none es [] 0 (fun e he => (h.e e he).2.1) h.nd fun _ _ z => nomatch z
theorem dr_sz {es : List Ent} (h : DrOk es) : ∀ e ∈ es, 1 + e.2.length * (20 + 1) ≤ 8000 ∧ ∀ q ∈ e.2, Sz 20 q := fun e he => by
  obtain ⟨h1, h2, h3⟩ := h.e e he
  exact ⟨by omega, fun q hq => lotq_sz (h1 q hq)⟩
theorem fn_l_made_plan (T : Txt K mg) : Fn P w K mg base 10 (ga K "_law_made_plan") (spMadePlan w K) := by
  refine fn_def T.d_l_made_plan sc_l_made_plan (fun _ _ _ _ _ _ us hl => match us, hl with | [_], _ => rfl) (fun vs H Q E h => ?_) (fun cdv A outer s H vs Q E hr h => ?_)
  · obtain ⟨_, _, _, rfl, _⟩ := h
    rfl
  obtain ⟨B, pvv, es, rfl, eB, ⟨d, kvs, rfl, hd, hkv⟩, dok, hel, k⟩ := h
  have nd := sc_l_made_plan.nd
  have hbig : (100000 : Nat) ≤ sizeLine := by decide
  refine ⟨_, pss_one (ps_ret (StX.pe_makeR T.m_Plan (fn_Plan_init T) (hr.mono (by decide)) rfl T.g_Plan pc (pa_cons (pe_lock (pe_lc (own := [("_law_view", 3)]) (g := gName 3) (tt := tYes) rfl nd (ND.pi_keysN (pv 0)) (blkOk_by (N := n_l_made_plan) (sc := defScope s_l_made_plan) (by decide +kernel)) (fun _ _ _ _ _ => pg_name (i := 3) nd rfl (by first | exact Or.inl rfl | exact Or.inr rfl)) (fun _ _ _ _ _ => pts_nil) (fun _ _ _ _ _ => pe_tup (pa_cons (pv 3) (pa_cons (pe_lc (own := [("_law_num", 1), ("_law_den", 2)]) (g := (gTup K 2 (gCons (gName 1) (gCons (gName 2) (gNil))))) (wi := iList K (ND.tGet P w K (tVar 0) (tVar 3))) (tt := tYes) rfl nd (pi_list (pek_nget (td := tVar 0) (ty := tVar 3) P w K rfl rfl rfl hr.units (pv 0) (pv 3) (fun _ _ => rfl))) (blkOk_by (N := n_l_made_plan) (sc := scMP) (by decide +kernel)) (fun _ _ _ _ _ => pg_tup (n := 2) rfl (pgs_cons (pg_name (i := 1) nd rfl (by first | exact Or.inl rfl | exact Or.inr rfl)) (pgs_cons (pg_name (i := 2) nd rfl (by first | exact Or.inl rfl | exact Or.inr rfl)) pgs_nil))) (fun _ _ _ _ _ => pts_nil) (fun _ _ _ _ _ => StX.pe_makeR T.m_Ratio (fn_RI2 T) (hr.mono (by decide)) rfl T.g_Ratio pcF (pa_cons (pv 1) (pa_cons (pv 2) pa_nil)))) pa_nil))))) pa_nil))), ?_⟩
  have hkl : kvs.length = es.length := Paired.length hkv
  refine gws_ret (ms := []) (W := W0) eB (gw_mkPlan T 20 ?_ (by omega) (by decide) (dr_sz dok) (dr_bad dok)) fun v B2 H2 s2 w2 hv => k v B2 H2 s2 hv
  have hkw := lt_wo hd hkv
  have hnd : (kvs.map (·.1)).Nodup := by rw [hkv.keys]; exact dok.nd
  refine gw_lockLc (Re := fun i v B2 => ∃ e, es[i]? = some e ∧ EinAt K B2 B2 v e) hd (fun B' => ev_var rfl) (by omega) (fun i v B1 B2 e ⟨en, h1, h2⟩ => ⟨en, h1, einb_mono h2 e⟩) (fun i e he od B1 e1 => ?_) fun D ys B1 e1 hD hyl hre => ⟨D, ys, rfl, hD, paired_of (by rw [hyl, hkl]) fun i y e hy he => ?_⟩
  · obtain ⟨en, hen, h1, h2, l, vs, hl, h4, h5⟩ := paired_get (hkw.mono e1) he
    have hks : KsAt K B1 kvs := (hkw.mono e1).ks
    refine LcE.name rfl ?_
    refine (gw_tup (S := fun vs2 B2 => ∃ l us, vs2 = [.ref e.2.1, .ref l] ∧ B2 l = some (.lst us) ∧ RatsAt K B2 us en.2) (gw_c1 (ev_var rfl) (gw_cons (R1 := fun v B2 => ∃ l us, v = .ref l ∧ B2 l = some (.lst us) ∧ RatsAt K B2 us en.2) ?_ fun x B2 e2 ⟨l2, us, hx, g1, g2⟩ => gw_nil fun B3 e3 => ⟨l2, us, by rw [hx], e3 _ _ g1, rats_mono g2 e3⟩)) fun vs2 B2 e2 ⟨l2, us, hv, g1, g2⟩ => ?_)
    · refine gw_lcL (gw_ngetF (.inr ⟨od, rfl⟩) (ev_var rfl) (ev_var rfl) hks h2 (nGet_mem hnd (List.mem_of_getElem? he))) fun u B2 e2 hu => ?_
      rw [hl] at hu
      subst hu
      have hvl := Paired.length h5
      have hlen5 := (dok.e en (List.mem_of_getElem? hen)).2.2
      refine ⟨l, vs, fun i v B3 => ∃ q, en.2[i]? = some q ∧ RatAt K B3 v q, rfl, sq_of (e2 _ _ h4), by omega, fun i v B1 B2 e ⟨q, h1, h2⟩ => ⟨q, h1, ratAt_mono e h2⟩, fun i y hy B3 e3 => ?_, fun D ys B3 e3 hD hyl hre => ⟨D, ys, rfl, hD, paired_of (by rw [hyl, hvl]) fun i y q hy hq => ?_⟩⟩
      · obtain ⟨q, hq, a, rfl, ha⟩ := paired_get h5 hy
        have dp := q.den_pos
        refine LcE.pair (st_of ((e2.trans e3) _ _ ha)) rfl ?_
        refine (gw_ratio2 (n := q.num) (d := (q.den : Int)) (gw_val (ev_var rfl)) (fun B4 e4 => gw_val (ev_var rfl)) (by omega) ?_).imp fun v B4 e4 r => ⟨q, hq, ?_⟩
        · rw [Int.natAbs_natCast]
          have := (lotq_sz ((dok.e en (List.mem_of_getElem? hen)).1 q (List.mem_of_getElem? hq))).2
          exact Nat.lt_trans this (by decide)
        · rw [Int.toNat_natCast, Rat.mkRat_self] at r
          exact r
      · obtain ⟨q2, h1, h2⟩ := hre i y hy
        rw [hq] at h1
        cases h1
        exact h2
    · subst hv
      exact ⟨(show 2 ≤ 100000 by decide), fun B3 a e3 ha => ⟨en, hen, a, _, l2, us, rfl, st_of ha, key_mono (h1 ▸ h2) (e2.trans e3), sq_of (e3 _ _ g1), rats_mono g2 e3⟩⟩
  · obtain ⟨en, h1, h2⟩ := hre i y hy
    rw [he] at h1
    cases h1
    exact h2
end
end LL
namespace LL
open PySem PySem.Spec PyProof.Rows L2 He Evl ND
section
variable {w : World} {K : PySem.W.Frag} {mg : Str → Option Value} {base : Heap}
/-- the entries of a plan: new pairs, told in the base -/
def spEntsB (w : World) (K : PySem.W.Frag) : Sp := fun us H Q _ => ∃ (B : Hp) (v : V) (es : List Ent), us = [v] ∧ Ex B H ∧ PlanAt w K B v es ∧ ∀ l Ts kvs B2 H2, Stp [] B H B2 H2 → B2 l = some (.lst (Ts.map V.ref)) → PrsAt B2 Ts kvs → TabAt K B2 kvs es → Q (.ref l) H2
theorem fn_Plan_entriesB (T : Txt K mg) : Fn P w K mg base 1 (ma K (ga K "Plan") "entries") (spEntsB w K) := by
  refine fn_def T.d_Plan_entries sc_Plan_entries (fun _ _ _ _ _ _ us hl => match us, hl with | [_], _ => rfl) (fun vs H Q E h => ?_) (fun cdv A outer s H vs Q E hr h => ?_)
  · obtain ⟨_, x, _, rfl, _⟩ := h
    rfl
  obtain ⟨B, v, es, rfl, eb, ⟨x, dx, t, kvs, rfl, hx, ht, htab⟩, k⟩ := h
  have nd := sc_Plan_entries.nd
  refine ⟨_, pss_one (ps_ret (pe_callTy (ND.call_list_items rfl) (by rfl) T.f_list (by decide +kernel) (pa_cons (ND.pe_items (pe_fld (pv 0) rfl)) pa_nil))), ?_⟩
  refine ⟨_, rfl, x, _, _, _, _, rfl, eb _ _ hx, T.c_Plan, T.a_Plan_table, rfl, t, kvs, rfl, .inl (eb _ _ ht), fun p np => ?_⟩
  have e1 : Ex H (upd H p (DX.itemsO p t)) := Ex.new np
  have s1 : Stp [] B H B (upd H p (DX.itemsO p t)) := Stp.ofEx eb e1
  refine ⟨p, t, kvs, rfl, upd_same, .inl (e1 _ _ (eb _ _ ht)), fun H2 l Ts x2 nl hl hfresh hnd hprs => ?_⟩
  obtain ⟨B2, s2, a1, a2⟩ := items_base (ms := []) s1.in_ x2 nl hl hfresh hprs
  exact k l Ts kvs B2 H2 (s1.trans s2) a1 a2 (htab.mono s2.base)
section
variable {ms : List Addr} {W : Hp → Hp → Prop} [I : Wld ms W] {B : Hp} {σ : L2.St} {te ta tb : TE} {E : XK}
theorem gw_entries {es : List Ent} (h : GW ms W (te σ) B (fun v B2 => PlanAt w K B2 v es)) : GW ms W (tMethR (ga K "Plan") "entries" (spEntsB w K) E te tNil σ) B (fun v B2 => ∃ l Ts kvs, v = .ref l ∧ B2 l = some (.lst (Ts.map V.ref)) ∧ PrsAt B2 Ts kvs ∧ TabAt K B2 kvs es) := by
  refine gw_meth h fun v B1 e1 hp => ?_
  obtain ⟨x, dx, t, kvs, rfl, hx, _, _⟩ := id hp
  exact ⟨⟨x, dx, _, rfl, hx, rfl⟩, gw_nil fun B2 e2 => gw_base fun B3 H3 e3 w3 Q q => ⟨B3, _, es, rfl, w3, hp.mono (e2.trans e3), fun l Ts kvs B4 H4 s4 h1 h2 h3 => q _ B4 H4 s4 ⟨l, Ts, kvs, rfl, h1, h2, h3⟩⟩⟩
theorem ev_planEq {x y : V} {es ds : List Ent} (h1 : Ev ta σ B x) (h2 : Ev tb σ B y) (hx : PlanAt w K B x es) (hy : PlanAt w K B y ds) : Ev (tOp (rOwnB (ga K "Plan") (spEqP w K) E) ta tb) σ B (.bl (decide (es = ds))) := ev_op h1 h2 fun H1 e1 Q q => by
  have hx1 := hx.mono e1
  have hy1 := hy.mono e1
  obtain ⟨a, dx, ta, ka, rfl, ha, _, _⟩ := id hx1
  obtain ⟨b, dy, tb, kb, rfl, hb, _, _⟩ := id hy1
  exact ⟨a, dx, _, b, dy, _, rfl, rfl, ha, hb, _, _, es, ds, rfl, hx1, hy1, fun H2 e2 => q H2 e2⟩
end
end
end LL
namespace LL
open PySem PySem.Spec PyProof.Rows L2 He Evl ND
/-! ### a comprehension over zip(tuple, tuple) with a test -/
section
variable {K : PySem.W.Frag} {ms : List Addr} {W : Hp → Hp → Prop} [I : Wld ms W] {B0 : Hp} {σ : L2.St} {te : TE} {tt : TT} {R : V → Hp → Prop} {ws : List Nat} {p q : Nat}
structure LzS (ms : List Addr) (W : Hp → Hp → Prop) (L : Addr) (B0 H0 : Hp) (Acc : Nat → List V → Hp → Prop) (i : Nat) (B' H' : Hp) (vs : List V) : Prop where
  st : Stp (L :: ms) B0 (upd H0 L (.lst [])) B' H'
  w : W B' H'
  hL : H' L = some (.lst vs)
  bL : B' L = none
  len : vs.length ≤ i
  acc : Acc i vs B'
theorem LzS.go {L : Addr} {B0 H0 B' H' B3 H3 : Hp} {Acc : Nat → List V → Hp → Prop} {i : Nat} {vs : List V} (z : LzS ms W L B0 H0 Acc i B' H' vs) (nL : L ∉ ms) (hm : ∀ i vs B1 B2, Ex B1 B2 → Acc i vs B1 → Acc i vs B2) (s3 : Stp ms B' H' B3 H3) (w3 : W B3 H3) : LzS ms W L B0 H0 Acc i B3 H3 vs :=
  ⟨z.st.trans (s3.wk fun x hx => .tail _ hx), w3, s3.fr L _ nL z.hL, s3.off z.bL z.hL, z.len, hm _ _ _ _ s3.base z.acc⟩
/-- [te for k in range(n) if tt] -/
theorem gw_lcRT {ta : TA} {n : Nat} (hz : n ≤ 100000) (f : Nat → Bool) (Acc : Nat → List V → Hp → Prop) (mono : ∀ i vs B1 B2, Ex B1 B2 → Acc i vs B1 → Acc i vs B2)
    (h : GW ms W (ta σ) B0 (fun vs _ => vs = [.int (n : Nat)])) (h0 : ∀ B1, Ex B0 B1 → Acc 0 [] B1) (hw : ∀ x : V, wipe ((wipe σ ws).set p (some x)) ws = wipe σ ws)
    (hs : ∀ (i : Nat) vs B1, i < n → Ex B0 B1 → Acc i vs B1 →
      GW ms W (tt ((wipe σ ws).set p (some (.int (i : Nat))))) B1 (fun c _ => c = f i) ∧ (f i = false → Acc (i + 1) vs B1) ∧ (f i = true → GW ms W (te ((wipe σ ws).set p (some (.int (i : Nat))))) B1 (fun v B2 => Acc (i + 1) (vs ++ [v]) B2)))
    (r : ∀ D vs B1, Ex B0 B1 → B1 D = some (.lst vs) → Acc n vs B1 → R (.ref D) B1) :
    GW ms W (tLc (iRng1 ta) (gName p) tt te ws σ) B0 R := fun B1 H1 e1 w1 Q qq =>
  h B1 H1 e1 w1 _ fun v B2 H2 s2 w2 hv => by
    subst hv
    have e2 := e1.trans s2.base
    have hbig : (100000 : Nat) ≤ sizeLine := by decide
    refine ⟨(n : Nat), rfl, by omega, by omega, fun D nD => ?_⟩
    have en : ((n : Nat) : Int).toNat = n := by omega
    rw [en]
    have nL := Wld.off (I := I) w2 nD
    refine lc_it walk_range (fun i H' => ∃ B' vs, LzS ms W D B2 H2 Acc i B' H' vs) ⟨B2, [], Stp.refl (I.e (Wld.cell (I := I) w2 nD)), Wld.cell (I := I) w2 nD, upd_same, ex_none (I.e w2) nD, Nat.le_refl _, h0 B2 e2⟩ (fun _ _ _ _ => trivial) ?_ ?_
    · rintro i x H' H'' hi ⟨B', vs, z⟩ ⟨rfl, hx⟩
      have hx : x = .int (i : Nat) := by
        rw [hx]
        show V.int (0 + (i : Nat)) = _
        rw [Int.zero_add]
      subst hx
      refine ⟨hw _, ?_⟩
      have e3 := e2.trans z.st.base
      obtain ⟨t1, _, _⟩ := hs i vs B' hi e3 z.acc
      refine t1 _ _ (Ex.refl _) z.w _ fun c B4 H4 s4 w4 hc => ?_
      subst hc
      have z4 := z.go nL mono s4 w4
      obtain ⟨_, t4, t5⟩ := hs i vs B4 hi (e3.trans s4.base) z4.acc
      have hlen := z4.len
      cases hf : f i with
      | false => exact iteF ⟨B4, vs, z4.st, z4.w, z4.hL, z4.bL, by omega, t4 hf⟩
      | true =>
        refine iteT (t5 hf B4 H4 (Ex.refl _) w4 _ fun v B5 H5 s5 w5 hv => ?_)
        have z5 := z4.go nL mono s5 w5
        exact ⟨vs, z5.hL, by omega, B5, vs ++ [v], z5.st.trans (Stp.put (I.e w5) z5.bL (.head _)), I.put w5 z5.bL nL, upd_same, z5.bL, by rw [List.length_append, List.length_singleton]; omega, hv⟩
    · rintro H' ⟨B', vs, z⟩
      have cl := Stp.close (I.e w2) nD z.st z.hL
      exact qq _ _ H' (s2.trans cl) (I.keep z.w z.bL z.hL nL) (r D vs _ (e2.trans cl.base) upd_same (mono _ _ _ _ (Ex.new z.bL) z.acc))
end
/-! ### a list of this def, beside the base -/
section
variable {K : PySem.W.Frag} {ms : List Addr} {W : Hp → Hp → Prop} [I : Wld ms W] {B H : Hp} {σ : L2.St} {te : TE} {L : Addr} {xs : List V} {R : V → Hp → Prop} {a b f : Nat}
theorem wx_mut {X X2 : HO} (h : WX ms W L X B H) : WX ms W L X2 B (upd H L X2) ∧ Stp (L :: ms) B H B (upd H L X2) :=
  ⟨⟨I.put h.1 h.2.1 h.2.2.2, h.2.1, upd_same, h.2.2.2⟩, Stp.put (I.e h.1) h.2.1 (.head _)⟩
theorem gw_lenLX (hi : σ[a]? = some (some (.ref L))) : GW (L :: ms) (WX ms W L (.lst xs)) (tCB (rLenS K) (tCons (tVar a) tNil) σ) B (fun v _ => v = .int (xs.length : Nat)) := fun B1 H1 e1 w1 Q q =>
  ⟨_, hi, L, xs, rfl, .inl (sq_of w1.2.2.1), q _ B1 H1 (Wld.refl w1) w1 rfl⟩
theorem gw_sumX {zs : List Int} (hi : σ[a]? = some (some (.ref L))) : GW (L :: ms) (WX ms W L (.lst (zs.map V.int))) (tCB (rSum K) (tCons (tVar a) tNil) σ) B (fun v _ => v = .int zs.sum) := fun B1 H1 e1 w1 Q q =>
  ⟨_, hi, L, zs, rfl, sq_of w1.2.2.1, q _ B1 H1 (Wld.refl w1) w1 rfl⟩
theorem gw_ixX (hi : σ[a]? = some (some (.ref L))) (hj : σ[b]? = some (some (.int (f : Nat)))) {x : V} (hx : xs[f]? = some x) : GW (L :: ms) (WX ms W L (.lst xs)) (tOp (rIxL K) (tVar a) (tVar b) σ) B (fun v _ => v = x) := fun B1 H1 e1 w1 Q q => by
  refine ⟨_, hi, _, hj, L, xs, (f : Nat), x, rfl, rfl, sq_of w1.2.2.1, ?_, q _ B1 H1 (Wld.refl w1) w1 rfl⟩
  obtain ⟨hf, _⟩ := List.getElem?_eq_some_iff.mp hx
  unfold atI
  rw [ixN_nat hf]
  exact hx
/-- ws[i] = e -/
theorem gws_setX {D : Ends} (hi : σ[a]? = some (some (.ref L))) (hj : σ[b]? = some (some (.int (f : Nat)))) (hf : f < xs.length) (w : WX ms W L (.lst xs) B H) (h : GW (L :: ms) (WX ms W L (.lst xs)) (te σ) B R)
    (k : ∀ v B2 H2, Stp (L :: ms) B H B2 H2 → WX ms W L (.lst (xs.set f v)) B2 H2 → R v B2 → D.nx σ H2) : tAsg te (gSub (tVar a) (tVar b) rSetL) D σ H :=
  h.go w fun v B2 H2 s2 w2 hv => by
    obtain ⟨w3, s3⟩ := wx_mut (X2 := .lst (xs.set f v)) w2
    exact ⟨_, hi, _, hj, L, xs, (f : Nat), f, rfl, rfl, w2.2.2.1, ixN_nat hf, k v B2 _ (s2.trans s3) w3 hv⟩
end
end LL
namespace LL
open PySem PySem.Spec PyProof.Rows L2 He Evl ND
/-! ### drawn weights and their sum, or another one -/
structure WtOk (ws : List Int) (wh : Int) : Prop where
  len : ws.length ≤ 5
  w : ∀ x ∈ ws, -60 ≤ x ∧ x ≤ 60
  h : 1 ≤ wh ∧ wh ≤ 30
  s : (∃ x ∈ ws, x < 0) ∨ ws.sum ≤ 12
/-- a negative weight is put in, and two others made greater -/
theorem neg_ok {ws : List Int} {at_ f g : Nat} {less part wh : Int} (hw : ∀ x ∈ ws, 0 ≤ x ∧ x ≤ 3) (hl : ws.length ≤ 4) (ha : at_ ≤ ws.length) (hl1 : 1 ≤ less ∧ less ≤ 24) (hp : 0 ≤ part ∧ part ≤ less) (hf : f ≠ at_) (hg : g ≠ at_) (hwh : 1 ≤ wh ∧ wh ≤ 12)
    {z1 z2 z3 : List Int} {x y : Int} (h1 : z1 = ws.take at_ ++ [0 - less] ++ ws.drop at_) (hx : z1[f]? = some x) (h2 : z2 = z1.set f (x + part)) (hy : z2[g]? = some y) (h3 : z3 = z2.set g (y + less - part)) : WtOk z3 wh := by
  have b1 : ∀ x ∈ z1, -24 ≤ x ∧ x ≤ 3 := fun x hx => by
    rw [h1] at hx
    rcases List.mem_append.mp hx with hx | hx
    · rcases List.mem_append.mp hx with hx | hx
      · have := hw x (List.mem_of_mem_take hx); omega
      · rw [List.mem_singleton.mp hx]; omega
    · have := hw x (List.mem_of_mem_drop hx); omega
  have bx := b1 x (List.mem_of_getElem? hx)
  have b2 : ∀ x ∈ z2, -24 ≤ x ∧ x ≤ 27 := fun v hv => by
    rw [h2] at hv
    rcases List.mem_or_eq_of_mem_set hv with hv | rfl
    · have := b1 v hv; omega
    · omega
  have by_ := b2 y (List.mem_of_getElem? hy)
  have at1 : z1[at_]? = some (0 - less) := by
    rw [h1, List.getElem?_append_left (by rw [List.length_append, List.length_take, List.length_singleton]; omega), List.getElem?_append_right (by rw [List.length_take]; omega)]
    rw [List.length_take, show at_ - min at_ ws.length = 0 by omega]
    rfl
  have at3 : z3[at_]? = some (0 - less) := by
    rw [h3, List.getElem?_set_ne hg, h2, List.getElem?_set_ne hf, at1]
  refine ⟨?_, fun v hv => ?_, by omega, .inl ⟨0 - less, List.mem_of_getElem? at3, by omega⟩⟩
  · rw [h3, List.length_set, h2, List.length_set, h1, List.length_append, List.length_append, List.length_take, List.length_drop, List.length_singleton]
    omega
  · rw [h3] at hv
    rcases List.mem_or_eq_of_mem_set hv with hv | rfl
    · have := b2 v hv; omega
    · omega
def spWts (K : PySem.W.Frag) : Sp := fun us H Q _ => ∃ (p : Addr) (u : Int) (B : Hp), us = [.ref p] ∧ Wd p u B H ∧ ∀ t L ws wh B2 H2, Stp [p] B H B2 H2 → Wd p u B2 H2 → SqT K B2 t [.ref L, .int wh] → B2 L = some (.lst (ws.map V.int)) → WtOk ws wh → Q (.ref t) H2
section
variable {w : World} {K : PySem.W.Frag} {mg : Str → Option Value} {base : Heap}
theorem fn_l_weights (T : Txt K mg) : Fn P w K mg base 8 (ga K "_law_weights") (spWts K) := by
  refine fn_def T.d_l_weights sc_l_weights (fun _ _ _ _ _ _ us hl => match us, hl with | [_], _ => rfl) (fun vs H Q E h => ?_) (fun cdv A outer s H vs Q E hr h => ?_)
  · obtain ⟨_, _, _, rfl, _⟩ := h
    rfl
  obtain ⟨p, u, B, rfl, w0, k⟩ := h
  have nd := sc_l_weights.nd
  have hbig : (100000 : Nat) ≤ sizeLine := by decide
  refine ⟨_, pss_cons (ps_setLc (i := 2) (own := [("_law_k", 1)]) (g := gName 1) (tt := tYes) rfl nd rfl rfl (sw_true rfl rfl rfl (by decide +kernel)) (pi_range1 rfl T.f_range (pa_cons (pe_op op_add (pe_int) (pe_fn T.d_l_draw (fn_l_draw T) (hr.mono (by decide)) T.g_l_draw pc (pa_cons (pv 0) (pa_cons (pe_int) pa_nil)))) pa_nil)) (blkOk_by (N := n_l_weights) (sc := defScope s_l_weights) (by decide +kernel)) (fun _ _ _ _ _ => pg_name (i := 1) nd rfl (by first | exact Or.inl rfl | exact Or.inr rfl)) (fun _ _ _ _ _ => pts_nil) (fun _ _ _ _ _ => pe_fn T.d_l_draw (fn_l_draw T) (hr.mono (by decide)) T.g_l_draw pcF (pa_cons (pv 0) (pa_cons (pe_int) pa_nil))))
      (pss_cons (ps_asg (pe_op op_add (pe_ix ix_list (pv 2) (pe_int) (fun _ _ => rfl)) (pe_callTy call_int1 (by rfl) T.f_int (by decide +kernel) (pa_cons (pe_cmpR op_eq (pe_callB (cr_sum rfl) (by rfl) T.f_sum (by decide +kernel) (pa_cons (pv 2) pa_nil)) (pe_int) (nomark _)) pa_nil))) (pg_sub (pv 2) (pe_int) set_list))
      (pss_cons (ps_set (i := 3) nd rfl (by first | exact Or.inl rfl | exact Or.inr rfl) (pe_callB (cr_sum rfl) (by rfl) T.f_sum (by decide +kernel) (pa_cons (pv 2) pa_nil)))
      (pss_cons (ps_set (i := 4) nd rfl (by first | exact Or.inl rfl | exact Or.inr rfl) (pe_fn T.d_l_draw (fn_l_draw T) (hr.mono (by decide)) T.g_l_draw pc (pa_cons (pv 0) (pa_cons (pe_int) pa_nil))))
      (pss_cons (ps_if (pt_cmpR op_eq (pv 4) (pe_int) (nomark _)) (pss_one (ps_ret (pe_tup (pa_cons (pe_lst pa_nil) (pa_cons (pe_int) pa_nil))))) (pss_nil))
      (Evl.pss_cut (ps_if (pt_cmpR op_eq (pv 4) (pe_int) (nomark _)) (pss_cons (ps_set (i := 5) nd rfl (by first | exact Or.inl rfl | exact Or.inr rfl) (pe_fn T.d_l_draw (fn_l_draw T) (hr.mono (by decide)) T.g_l_draw pc (pa_cons (pv 0) (pa_cons (pe_op op_add (pe_callB call_len_seq (by rfl) T.f_len PySem.boot_len (pa_cons (pv 2) pa_nil)) (pe_int)) pa_nil))))
      (pss_cons (ps_set (i := 6) nd rfl (by first | exact Or.inl rfl | exact Or.inr rfl) (pe_op op_add (pe_int) (pe_fn T.d_l_draw (fn_l_draw T) (hr.mono (by decide)) T.g_l_draw pc (pa_cons (pv 0) (pa_cons (pe_op op_mul (pe_int) (pv 3)) pa_nil)))))
      (pss_cons (ps_expr (pe_bm PySem.F.plainAttrs_list PySem.F.slot_list_insert PySem.F.type_list_insert mt_insert (pv 2) (pa_cons (pv 5) (pa_cons (pe_op op_sub (pe_int) (pv 6)) pa_nil))))
      (pss_cons (ps_setLc (i := 7) (own := [("_law_k", 1)]) (g := gName 1) rfl nd rfl rfl (sw_true rfl rfl rfl (by decide +kernel)) (pi_range1 rfl T.f_range (pa_cons (pe_callB call_len_seq (by rfl) T.f_len PySem.boot_len (pa_cons (pv 2) pa_nil)) pa_nil)) (blkOk_by (N := n_l_weights) (sc := defScope s_l_weights) (by decide +kernel)) (fun _ _ _ _ _ => pg_name (i := 1) nd rfl (by first | exact Or.inl rfl | exact Or.inr rfl)) (fun _ _ _ _ _ => pts_one (pt_cmpR op_ne (pv 1) (pv 5) (nomark _))) (fun _ _ _ _ _ => pv 1))
      (pss_cons (ps_set (i := 8) nd rfl (by first | exact Or.inl rfl | exact Or.inr rfl) (pe_fn T.d_l_draw (fn_l_draw T) (hr.mono (by decide)) T.g_l_draw pc (pa_cons (pv 0) (pa_cons (pe_op op_add (pv 6) (pe_int)) pa_nil))))
      (pss_cons (ps_set (i := 9) nd rfl (by first | exact Or.inl rfl | exact Or.inr rfl) (pe_ix ix_list (pv 7) (pe_fn T.d_l_draw (fn_l_draw T) (hr.mono (by decide)) T.g_l_draw pc (pa_cons (pv 0) (pa_cons (pe_callB call_len_seq (by rfl) T.f_len PySem.boot_len (pa_cons (pv 7) pa_nil)) pa_nil))) (fun _ _ => rfl)))
      (pss_cons (ps_asg (pe_op op_add (pe_ix ix_list (pv 2) (pv 9) (fun _ _ => rfl)) (pv 8)) (pg_sub (pv 2) (pv 9) set_list))
      (pss_cons (ps_set (i := 10) nd rfl (by first | exact Or.inl rfl | exact Or.inr rfl) (pe_ix ix_list (pv 7) (pe_fn T.d_l_draw (fn_l_draw T) (hr.mono (by decide)) T.g_l_draw pc (pa_cons (pv 0) (pa_cons (pe_callB call_len_seq (by rfl) T.f_len PySem.boot_len (pa_cons (pv 7) pa_nil)) pa_nil))) (fun _ _ => rfl)))
      (pss_one (ps_asg (pe_op op_sub (pe_op op_add (pe_ix ix_list (pv 2) (pv 10) (fun _ _ => rfl)) (pv 6)) (pv 8)) (pg_sub (pv 2) (pv 10) set_list))))))))))) (pss_nil))
      (Evl.pss_cut (ps_if (pt_cmpR op_eq (pv 4) (pe_int) (nomark _)) (pss_one (ps_set (i := 3) nd rfl (by first | exact Or.inl rfl | exact Or.inr rfl) (pe_callB (call_max2 rfl) (by rfl) T.f_max (by decide +kernel) (pa_cons (pe_int) (pa_cons (pe_op op_add (pv 3) (pe_ix ix_tup (pe_tup (pa_cons (pe_int) (pa_cons (pe_un un_neg (pe_int)) (pa_cons (pv 3) (pa_cons (pe_op op_sub (pe_int) (pe_op op_fdiv (pv 3) (pe_int))) pa_nil))))) (pe_fn T.d_l_draw (fn_l_draw T) (hr.mono (by decide)) T.g_l_draw pc (pa_cons (pv 0) (pa_cons (pe_int) pa_nil))) (fun _ _ => rfl))) pa_nil))))) (pss_nil))
      (pss_one (ps_ret (pe_tup (pa_cons (pv 2) (pa_cons (pv 3) pa_nil))))))))))), ?_⟩
  refine gwq_lcN (ms := [p]) (W := Wd p u) (B := B) (Rn := fun m => 1 ≤ m ∧ m ≤ 4) (Re := fun _ v _ => ∃ x : Int, v = .int x ∧ (0 ≤ x ∧ x ≤ 3)) w0 (gw_cons (R1 := fun v _ => ∃ m : Nat, v = .int (m : Nat) ∧ 1 ≤ m ∧ m ≤ 4) ?_ fun x B10 e10 ⟨m, hx, h1, h2⟩ => gw_nil fun _ _ => ⟨m, by rw [hx], h1, h2⟩) (fun m hm => by omega) (fun i v B1 B2 e h => h) (fun m i B10 hm hi e10 => LcE.name rfl ((gw_draw rfl ev_c (by decide) (by decide)).imp fun v B11 e11 ⟨r, h1, h2, h3⟩ => ⟨r, h1, by omega, by omega⟩)) fun m L ys B5 H5 hm s5 w5 bL hL nL hyl hre nL0 => ?_
  · exact gw_op (gw_val ev_c) fun x B10 e10 hx => (gw_draw rfl ev_c (by decide) (by decide)).imp fun y B11 e11 ⟨rr, hy, h1, h2⟩ => by
      subst hx hy
      exact gw_ex (v := .int (1 + rr)) (fun B12 H12 e12 w12 Q q => ⟨_, _, rfl, rfl, q H12 (Ex.refl _)⟩) fun _ _ => ⟨(1 + rr).toNat, by congr 1; omega, by omega, by omega⟩
  obtain ⟨zs, rfl, hz⟩ := ints_of hre
  rw [List.length_map] at hyl
  cases zs with
  | nil => rw [List.length_nil] at hyl; omega
  | cons x r =>
  have gw1 := goodW_first hz (by omega)
  refine ws_set rfl hL fun H6 e6 => ?_
  obtain ⟨s6, w6⟩ := Wld.ex (ms := [p]) w5 e6
  generalize hws : ((x + if decide (V.int (x :: r).sum = V.int 0) = true then 1 else 0) :: r) = ws at gw1
  have hwl : ws.length = m := by rw [← hws, ← hyl]; rfl
  have w7 : WX [p] (Wd p u) L (.lst (ws.map V.int)) B5 (upd H6 L (.lst (ws.map V.int))) := ⟨Wld.put (ms := [p]) w6 bL nL, bL, upd_same, nL⟩
  have s7 : Stp [L, p] B H B5 (upd H6 L (.lst (ws.map V.int))) := ((s5.trans s6).wk (fun y hy => .tail _ hy)).trans (Stp.put (Wld.e (ms := [p]) w6) bL (.head _))
  generalize upd H6 L (.lst (ws.map V.int)) = H7 at w7 s7
  clear hws hz hL w5 s5 s6 w6 e6 hre bL
  obtain ⟨z1, z2, z3⟩ := isum_nn gw1.w
  have gs := gw1.s
  refine gwq_asg (ms := [L, p]) (W := WX [p] (Wd p u) L (.lst (ws.map V.int))) w7 (gw_sumX rfl) fun v3 B8 H8 s8 w8 hv3 => ?_
  subst hv3
  refine gwq_asg (ms := [L, p]) (W := WX [p] (Wd p u) L (.lst (ws.map V.int))) w8 (gw_draw rfl ev_c (by decide) (by decide)) fun v4 B9 H9 s9 w9 ⟨way, hv4, _, _⟩ => ?_
  subst hv4
  have s79 := s7.trans (s8.trans s9)
  generalize hsum : ws.sum = wh at z1 z2 z3 gs
  have hwh : 1 ≤ wh ∧ wh ≤ 12 := by omega
  refine gwq_when (ms := [L, p]) (W := WX [p] (Wd p u) L (.lst (ws.map V.int))) (R := fun _ _ => True) w9 (gw_test (gw_ev (v := .bl (decide (V.int way = V.int 0))) (ev_op (ev_var rfl) ev_c fun H1 _ Q q => ⟨rfl, q H1 (Ex.refl _)⟩) fun _ _ => ⟨_, rfl, trivial⟩)) (fun B10 H10 s10 w10 _ => ?_) fun B10 H10 s10 w10 _ => ?_
  · refine gws_ret (ms := [L, p]) (W := WX [p] (Wd p u) L (.lst (ws.map V.int))) (R := fun v B1 => ∃ t l, v = .ref t ∧ SqT K B1 t [.ref l, .int 1] ∧ B1 l = some (.lst [])) w10 ?_ fun v B2 H2 s2 w2 ⟨t, l, hv, ht, hl⟩ => ?_
    · refine gw_tup (S := fun us B1 => ∃ l, us = [.ref l, .int 1] ∧ B1 l = some (.lst [])) (gw_cons (R1 := fun v B1 => ∃ l, v = .ref l ∧ B1 l = some (.lst [])) (gw_lst (S := fun us _ => us = []) (gw_nil fun _ _ => rfl) fun us B1 e1 hus => ⟨by rw [hus]; decide, fun B2 l e2 hl => ⟨l, rfl, by rw [hl, hus]⟩⟩) fun x B1 e1 ⟨l, hx, hl⟩ => gw_c1 (v := .int 1) ev_c (gw_nil fun B2 e2 => ⟨l, by rw [hx], e2 _ _ hl⟩)) fun us B1 e1 ⟨l, hus, hl⟩ => ?_
      subst hus
      exact ⟨(show 2 ≤ 100000 by decide), fun B2 t e2 ht => ⟨t, l, rfl, st_of ht, e2 _ _ hl⟩⟩
    · subst hv
      exact k t l [] 1 B2 H2 (Stp.drop (s79.trans (s10.trans s2)) nL0) w2.1 ht hl ⟨by decide, fun _ h => absurd h List.not_mem_nil, by decide, .inr (by decide)⟩
  have s710 := s79.trans s10
  have fin : ∀ (B' H' : Hp) (zs : List Int) (wh : Int) (σ : L2.St), Stp [L, p] B H B' H' → WX [p] (Wd p u) L (.lst (zs.map V.int)) B' H' → WtOk zs wh → σ[2]? = some (some (.ref L)) → σ[3]? = some (some (.int wh)) → tRet (tTup (tCons (tVar 2) (tCons (tVar 3) tNil))) ⟨fun _ H' => Q .non H', Q, fun _ _ => False, fun _ _ => False⟩ σ H' := fun B' H' zs wh σ s' w' ok h2 h3 => by
    have t' := (Stp.drop s' nL0).take nL0 w'.2.1 w'.2.2.1
    have k' : Wd p u (upd B' L (.lst (zs.map V.int))) H' := Wld.keep (ms := [p]) w'.1 w'.2.1 w'.2.2.1 nL
    have hL : upd B' L (.lst (zs.map V.int)) L = some (.lst (zs.map V.int)) := upd_same
    generalize upd B' L (.lst (zs.map V.int)) = B2 at t' k' hL
    refine gws_ret (ms := [p]) (W := Wd p u) (R := fun v B1 => ∃ t, v = .ref t ∧ SqT K B1 t [.ref L, .int wh]) k' ?_ fun v B3 H3 s3 w3 ⟨t, hv, ht⟩ => ?_
    · refine gw_tup (S := fun us B1 => us = [.ref L, .int wh]) (gw_c1 (ev_var h2) (gw_c1 (ev_var h3) (gw_nil fun _ _ => rfl))) fun us B1 e1 hus => ?_
      subst hus
      exact ⟨(show 2 ≤ 100000 by decide), fun B2 t e2 ht => ⟨t, rfl, st_of ht⟩⟩
    · subst hv
      exact k t L zs wh B3 H3 (t'.trans s3) w3 ht (s3.base _ _ hL) ok
  refine ⟨fun σ H' => ∃ (B' : Hp) (zs : List Int) (u1 u5 u6 u7 u8 u9 u10 : Option V), Stp [L, p] B H B' H' ∧ WX [p] (Wd p u) L (.lst (zs.map V.int)) B' H' ∧ WtOk zs wh ∧ σ = [some (.ref p), u1, some (.ref L), some (.int wh), some (.int way), u5, u6, u7, u8, u9, u10], ?_, ?_⟩
  · have wok : WtOk ws wh := ⟨by omega, fun x hx => by have := gw1.w x hx; omega, by omega, .inr (by omega)⟩
    refine gws_when (ms := [L, p]) (W := WX [p] (Wd p u) L (.lst (ws.map V.int))) (R := fun _ _ => True) w10 (gw_test (gw_ev (v := .bl (decide (V.int way = V.int 1))) (ev_op (ev_var rfl) ev_c fun H1 _ Q q => ⟨rfl, q H1 (Ex.refl _)⟩) fun _ _ => ⟨_, rfl, trivial⟩)) (fun B11 H11 s11 w11 _ => ?_) fun B11 H11 s11 w11 _ => ⟨B11, ws, _, _, _, _, _, _, _, s710.trans s11, w11, wok, rfl⟩
    -- at
    refine gwq_asg (ms := [L, p]) (W := WX [p] (Wd p u) L (.lst (ws.map V.int))) (R := fun v _ => ∃ a : Nat, v = .int (a : Nat) ∧ a ≤ ws.length) w11 ?_ fun v5 B12 H12 s12 w12 ⟨at_, hv5, hat⟩ => ?_
    · refine (gw_draw' (P := fun n => n = (ws.length : Nat) + 1) rfl ?_ (fun n hn => by omega)).imp fun v B1 e1 ⟨r, n, h1, h2, h3, h4⟩ => ⟨r.toNat, by rw [h1]; congr 1; omega, by omega⟩
      refine gw_op (R1 := fun v _ => v = .int (ws.length : Nat)) ((gw_lenLX rfl).imp fun v B1 e1 hv => by rw [hv, List.length_map]) fun x B1 e1 hx => (gw_val ev_c).imp fun y B2 e2 hy => ?_
      subst hx hy
      exact gw_ex (v := .int ((ws.length : Nat) + 1)) (fun B3 H3 e3 w3 Q q => ⟨_, _, rfl, rfl, q H3 (Ex.refl _)⟩) fun _ _ => ⟨_, rfl, rfl⟩
    subst hv5
    -- less
    refine gwq_asg (ms := [L, p]) (W := WX [p] (Wd p u) L (.lst (ws.map V.int))) (R := fun v _ => ∃ a : Int, v = .int a ∧ 1 ≤ a ∧ a ≤ 24) w12 ?_ fun v6 B13 H13 s13 w13 ⟨less, hv6, hle1, hle2⟩ => ?_
    · refine gw_op (gw_val ev_c) fun x B1 e1 hx => (gw_draw' (P := fun n => n = 2 * wh) rfl (gw_ev (v := .int (2 * wh)) (ev_op ev_c (ev_var rfl) (rv_I (.inl ⟨by decide, by decide⟩))) fun _ _ => ⟨_, rfl, rfl⟩) (fun n hn => by omega)).imp fun y B2 e2 ⟨r, n, hy, hn, h1, h2⟩ => ?_
      subst hx hy
      exact gw_ex (v := .int (1 + r)) (fun B3 H3 e3 w3 Q q => ⟨_, _, rfl, rfl, q H3 (Ex.refl _)⟩) fun _ _ => ⟨1 + r, rfl, by omega, by omega⟩
    subst hv6
    have s713 := s710.trans (s11.trans (s12.trans s13))
    refine ⟨_, rfl, .inl ⟨rfl, _, sq_of w13.2.2.1⟩, _, rfl, _, rfl, 0, less, rfl, rfl, L, ws.map V.int, (at_ : Nat), .int (0 - less), rfl, rfl, w13.2.2.1, by rw [List.length_map]; omega, by omega, by omega, ?_⟩
    obtain ⟨w14, s14⟩ := wx_mut (X2 := .lst ((ws.map V.int).take ((at_ : Nat) : Int).toNat ++ [V.int (0 - less)] ++ (ws.map V.int).drop ((at_ : Nat) : Int).toNat)) w13
    generalize upd H13 L (.lst ((ws.map V.int).take ((at_ : Nat) : Int).toNat ++ [V.int (0 - less)] ++ (ws.map V.int).drop ((at_ : Nat) : Int).toNat)) = H14 at w14 s14
    have hz1 : (ws.map V.int).take ((at_ : Nat) : Int).toNat ++ [V.int (0 - less)] ++ (ws.map V.int).drop ((at_ : Nat) : Int).toNat = (ws.take at_ ++ [0 - less] ++ ws.drop at_).map V.int := by
      rw [Int.toNat_natCast, List.map_append, List.map_append, List.map_take, List.map_drop]
      rfl
    rw [hz1] at w14
    obtain ⟨z1, hz⟩ : ∃ z1, z1 = ws.take at_ ++ [0 - less] ++ ws.drop at_ := ⟨_, rfl⟩
    rw [← hz] at w14
    have hl1 : z1.length = ws.length + 1 := by
      rw [hz, List.length_append, List.length_append, List.length_take, List.length_drop, List.length_singleton]; omega
    have s714 := s713.trans s14
    clear hz1 s13 s14 s12 s11 w13 w12 w11
    -- the others
    dsimp only
    refine gwq_asg (ms := [L, p]) (W := WX [p] (Wd p u) L (.lst (z1.map V.int))) (R := fun v B1 => ∃ D ks, v = .ref D ∧ B1 D = some (.lst ((ks : List Nat).map fun (k : Nat) => V.int (k : Nat))) ∧ ks ≠ [] ∧ ks.length ≤ z1.length ∧ ∀ k ∈ ks, k < z1.length ∧ k ≠ at_) w14 ?_ fun v7 B15 H15 s15 w15 ⟨D, ks, hv7, hD, hne, hkb, hks⟩ => ?_
    · refine gw_lcRT (n := z1.length) (by omega) (fun i => !decide (V.int (i : Nat) = V.int (at_ : Nat))) (fun i vs _ => ∃ ks : List Nat, vs = ks.map (fun (k : Nat) => V.int (k : Nat)) ∧ ks.length + (if at_ < i then 1 else 0) = i ∧ ∀ k ∈ ks, k < i ∧ k ≠ at_) (fun i vs B1 B2 e h => h) (gw_cons (R1 := fun v _ => v = .int (z1.length : Nat)) ((gw_lenLX rfl).imp fun v B1 e1 hv => by rw [hv, List.length_map]) fun x B1 e1 hx => gw_nil fun _ _ => by rw [hx]) (fun B1 e1 => ⟨[], rfl, by simp, fun _ h => absurd h List.not_mem_nil⟩) (fun _ => rfl) (fun i vs B1 hi e1 ⟨ks, h1, h2, h3⟩ => ⟨?_, fun hf => ?_, fun hf => ?_⟩) fun D vs B1 e1 hD ⟨ks, h1, h2, h3⟩ => ⟨D, ks, rfl, by rw [hD, h1], fun z => ?_, by split at h2 <;> omega, h3⟩
      · exact gw_test (gw_ev (v := .bl (!decide (V.int (i : Nat) = V.int (at_ : Nat)))) (ev_op (ev_var rfl) (ev_var rfl) (rv_ne rfl)) fun _ _ => ⟨_, rfl, rfl⟩)
      · have : i = at_ := by
          by_cases c : V.int (i : Nat) = V.int (at_ : Nat)
          · have := V.int.inj c; omega
          · rw [decide_eq_false c] at hf; cases hf
        refine ⟨ks, h1, ?_, fun k hk => ⟨Nat.lt_succ_of_lt (h3 k hk).1, (h3 k hk).2⟩⟩
        rw [if_neg (by omega)] at h2
        rw [if_pos (by omega)]
        omega
      · have hne : i ≠ at_ := fun z => by
          rw [z, decide_eq_true rfl] at hf; cases hf
        refine gw_val (ev_var rfl) |>.imp fun v B2 e2 hv => ⟨ks ++ [i], by rw [hv, h1, List.map_append]; rfl, ?_, fun k hk => ?_⟩
        · rw [List.length_append, List.length_singleton]
          by_cases c : at_ < i
          · rw [if_pos c] at h2; rw [if_pos (by omega)]; omega
          · rw [if_neg c] at h2; rw [if_neg (by omega)]; omega
        · rcases List.mem_append.mp hk with hk | hk
          · exact ⟨Nat.lt_succ_of_lt (h3 k hk).1, (h3 k hk).2⟩
          · rw [List.mem_singleton.mp hk]; exact ⟨Nat.lt_succ_self _, hne⟩
      · rw [z, List.length_nil] at h2
        split at h2 <;> omega
    subst hv7
    have hkl : 0 < ks.length := List.length_pos_iff.mpr hne
    have pick : ∀ {B1 : Hp} {σ : L2.St} {X : HO}, Ex B15 B1 → σ[0]? = some (some (.ref p)) → σ[7]? = some (some (.ref D)) → GW [L, p] (WX [p] (Wd p u) L X) (tOp (rIxL K) (tVar 7) (fun σ H_1 Q => tCons (tVar 0) (tCons (tCB (rLenS K) (tCons (tVar 7) tNil)) tNil) σ H_1 fun vs H1 => spDraw vs H1 Q E) σ) B1 (fun v _ => ∃ k : Nat, v = .int (k : Nat) ∧ k < z1.length ∧ k ≠ at_) := fun {B1 σ X} e1 h0 h7 => by
      refine gw_op (R1 := fun v _ => v = .ref D) (gw_val (ev_var h7)) fun x B2 e2 hx => (gw_draw' (P := fun n => n = (ks.length : Nat)) h0 (gw_ev (v := .int (ks.length : Nat)) ?_ fun _ _ => ⟨_, rfl, rfl⟩) (fun n hn => by omega)).imp fun y B3 e3 ⟨r, n, hy, hn, h1, h2⟩ => ?_
      · have := ev_lenS (K := K) (ev_var h7) (.inl (sq_of ((e1.trans e2) _ _ hD)))
        rwa [List.length_map] at this
      · subst hx hy hn
        obtain ⟨m, rfl⟩ : ∃ m : Nat, r = (m : Nat) := ⟨r.toNat, by omega⟩
        have hr : m < ks.length := by omega
        refine gw_ex (v := .int (ks[m] : Nat)) (fun B4 H4 e4 w4 Q q => ⟨D, _, (m : Nat), _, rfl, rfl, sq_of (w4 _ _ (e4 _ _ ((e1.trans (e2.trans e3)) _ _ hD))), ?_, q H4 (Ex.refl _)⟩) fun _ _ => ⟨_, rfl, hks _ (List.getElem_mem hr)⟩
        unfold atI
        rw [ixN_nat (by rw [List.length_map]; exact hr)]
        show (ks.map fun (k : Nat) => V.int (k : Nat))[m]? = _
        rw [List.getElem?_map, List.getElem?_eq_getElem hr]
        rfl
    refine gwq_asg (ms := [L, p]) (W := WX [p] (Wd p u) L (.lst (z1.map V.int))) (R := fun v _ => ∃ a : Int, v = .int a ∧ 0 ≤ a ∧ a ≤ less) w15 ?_ fun v8 B16 H16 s16 w16 ⟨part, hv8, hp1, hp2⟩ => ?_
    · exact (gw_draw' (P := fun n => n = less + 1) rfl (gw_ev (v := .int (less + 1)) (ev_op (ev_var rfl) ev_c rv_I0) fun _ _ => ⟨_, rfl, rfl⟩) (fun n hn => by omega)).imp fun v B1 e1 ⟨r, n, h1, h2, h3, h4⟩ => ⟨r, h1, h3, by omega⟩
    subst hv8
    refine gwq_asg (ms := [L, p]) (W := WX [p] (Wd p u) L (.lst (z1.map V.int))) w16 (pick s16.base rfl rfl) fun v9 B17 H17 s17 w17 ⟨f, hv9, hf1, hf2⟩ => ?_
    subst hv9
    obtain ⟨x, hx⟩ : ∃ x, z1[f]? = some x := ⟨_, List.getElem?_eq_getElem hf1⟩
    refine gws_setX (D := _) (R := fun v _ => v = .int (x + part)) rfl rfl (by rw [List.length_map]; exact hf1) w17 (gw_op (gw_ixX rfl rfl (x := .int x) (by rw [List.getElem?_map, hx]; rfl)) fun a B1 e1 ha => (gw_val (ev_var rfl)).imp fun b B2 e2 hb => ?_) fun v B18 H18 s18 w18 hv => ?_
    · subst ha hb
      exact gw_ex (v := .int (x + part)) (fun B3 H3 e3 w3 Q q => ⟨_, _, rfl, rfl, q H3 (Ex.refl _)⟩) fun _ _ => rfl
    subst hv
    rw [← List.map_set] at w18
    obtain ⟨z2, hz2⟩ : ∃ z2, z2 = z1.set f (x + part) := ⟨_, rfl⟩
    rw [← hz2] at w18
    have hl2 : z2.length = z1.length := by rw [hz2, List.length_set]
    dsimp only
    refine gwq_asg (ms := [L, p]) (W := WX [p] (Wd p u) L (.lst (z2.map V.int))) w18 (pick (s16.base.trans (s17.base.trans s18.base)) rfl rfl) fun v10 B19 H19 s19 w19 ⟨g, hv10, hg1, hg2⟩ => ?_
    subst hv10
    obtain ⟨y, hy⟩ : ∃ y, z2[g]? = some y := ⟨_, List.getElem?_eq_getElem (by omega)⟩
    refine gws_setX (D := _) (R := fun v _ => v = .int (y + less - part)) rfl rfl (by rw [List.length_map]; omega) w19 (gw_op (R1 := fun v _ => v = .int (y + less)) (gw_op (gw_ixX rfl rfl (x := .int y) (by rw [List.getElem?_map, hy]; rfl)) fun a B1 e1 ha => (gw_val (ev_var rfl)).imp fun b B2 e2 hb => ?_) fun a B1 e1 ha => (gw_val (ev_var rfl)).imp fun b B2 e2 hb => ?_) fun v B20 H20 s20 w20 hv => ?_
    · subst ha hb
      exact gw_ex (v := .int (y + less)) (fun B3 H3 e3 w3 Q q => ⟨_, _, rfl, rfl, q H3 (Ex.refl _)⟩) fun _ _ => rfl
    · subst ha hb
      exact gw_ex (v := .int (y + less - part)) (fun B3 H3 e3 w3 Q q => ⟨_, _, rfl, rfl, q H3 (Ex.refl _)⟩) fun _ _ => rfl
    subst hv
    rw [← List.map_set] at w20
    exact ⟨B20, _, _, _, _, _, _, _, _, s714.trans (s15.trans (s16.trans (s17.trans (s18.trans (s19.trans s20))))), w20, neg_ok gw1.w (by omega) hat ⟨hle1, hle2⟩ ⟨hp1, hp2⟩ hf2 hg2 hwh hz hx hz2 hy rfl, rfl⟩
  rintro σ H11 ⟨B11, zs, u1, u5, u6, u7, u8, u9, u10, s11, w11, ok, rfl⟩
  refine ⟨fun σ H' => ∃ (B' : Hp) (wh2 : Int) (u1 u5 u6 u7 u8 u9 u10 : Option V), Stp [L, p] B H B' H' ∧ WX [p] (Wd p u) L (.lst (zs.map V.int)) B' H' ∧ WtOk zs wh2 ∧ σ = [some (.ref p), u1, some (.ref L), some (.int wh2), some (.int way), u5, u6, u7, u8, u9, u10], ?_, ?_⟩
  · refine gws_when (ms := [L, p]) (W := WX [p] (Wd p u) L (.lst (zs.map V.int))) (R := fun _ _ => True) w11 (gw_test (gw_ev (v := .bl (decide (V.int way = V.int 2))) (ev_op (ev_var rfl) ev_c fun H1 _ Q q => ⟨rfl, q H1 (Ex.refl _)⟩) fun _ _ => ⟨_, rfl, trivial⟩)) (fun B12 H12 s12 w12 _ => ?_) fun B12 H12 s12 w12 _ => ⟨B12, wh, _, _, _, _, _, _, _, s11.trans s12, w12, ok, rfl⟩
    refine gws_asg (ms := [L, p]) (W := WX [p] (Wd p u) L (.lst (zs.map V.int))) (R := fun v _ => ∃ y : Int, v = .int y ∧ 1 ≤ y ∧ y ≤ 30) w12 ?_ fun v B13 H13 s13 w13 ⟨y, hv, h1, h2⟩ => by
      subst hv
      exact ⟨B13, y, _, _, _, _, _, _, _, s11.trans (s12.trans s13), w13, ⟨ok.len, ok.w, ⟨h1, h2⟩, ok.s⟩, rfl⟩
    refine gw_cb (S := fun vs _ => ∃ y : Int, vs = [.int 1, .int y] ∧ y ≤ 24) (gw_c1 (v := .int 1) ev_c (gw_cons (R1 := fun v _ => ∃ y : Int, v = .int y ∧ y ≤ 24) ?_ fun x B1 e1 ⟨y, hx, h1⟩ => gw_nil fun _ _ => ⟨y, by rw [hx], h1⟩)) fun vs B1 e1 ⟨y, hv, h1⟩ => ?_
    · refine gw_op (R1 := fun v _ => v = .int wh) (gw_val (ev_var rfl)) fun x B1 e1 hx => GW.imp (R := fun v _ => ∃ z : Int, v = .int z ∧ z ≤ 12) ?_ fun y B2 e2 ⟨z, hy, hz⟩ => ?_
      · refine gw_op (R1 := fun v B' => ∃ t, v = .ref t ∧ SqT K B' t [.int 1, .int (-1), .int wh, .int (0 - wh / 2)]) ?_ fun x B2 e2 ⟨t, hx, ht⟩ => (gw_draw rfl ev_c (by decide) (by decide)).imp fun y B3 e3 ⟨r, hy, h1, h2⟩ => ?_
        · refine gw_tup (S := fun us _ => us = [.int 1, .int (-1), .int wh, .int (0 - wh / 2)]) (gw_c1 (v := .int 1) ev_c (gw_c1 (v := .int (-1)) (ev_un ev_c ru_neg) (gw_c1 (v := .int wh) (ev_var rfl) (gw_c1 (v := .int (0 - wh / 2)) (ev_op ev_c (ev_op (ev_var rfl) ev_c (rv_I ⟨by decide, by decide⟩)) rv_I0) (gw_nil fun _ _ => rfl))))) fun us B2 e2 hus => ?_
          subst hus
          exact ⟨(show 4 ≤ 100000 by decide), fun B3 t e3 ht => ⟨t, rfl, st_of ht⟩⟩
        · subst hx hy
          have ht3 := ex_t e3 ht
          have h0123 : r = 0 ∨ r = 1 ∨ r = 2 ∨ r = 3 := by omega
          rcases h0123 with rfl | rfl | rfl | rfl
          · exact gw_ex (v := .int 1) (fun B4 H4 e4 w4 Q q => ⟨t, _, 0, .int 1, rfl, rfl, ex_t (e4.trans w4) ht3, rfl, q H4 (Ex.refl _)⟩) fun _ _ => ⟨1, rfl, by decide⟩
          · exact gw_ex (v := .int (-1)) (fun B4 H4 e4 w4 Q q => ⟨t, _, 1, .int (-1), rfl, rfl, ex_t (e4.trans w4) ht3, rfl, q H4 (Ex.refl _)⟩) fun _ _ => ⟨-1, rfl, by decide⟩
          · exact gw_ex (v := .int wh) (fun B4 H4 e4 w4 Q q => ⟨t, _, 2, .int wh, rfl, rfl, ex_t (e4.trans w4) ht3, rfl, q H4 (Ex.refl _)⟩) fun _ _ => ⟨wh, rfl, hwh.2⟩
          · exact gw_ex (v := .int (0 - wh / 2)) (fun B4 H4 e4 w4 Q q => ⟨t, _, 3, .int (0 - wh / 2), rfl, rfl, ex_t (e4.trans w4) ht3, rfl, q H4 (Ex.refl _)⟩) fun _ _ => ⟨0 - wh / 2, rfl, by omega⟩
      · subst hx hy
        exact gw_ex (v := .int (wh + z)) (fun B3 H3 e3 w3 Q q => ⟨wh, z, rfl, rfl, q H3 (Ex.refl _)⟩) fun _ _ => ⟨wh + z, rfl, by omega⟩
    · subst hv
      refine gw_ex (v := .int (if y > 1 then y else 1)) (fun B3 H3 e3 w3 Q q => ⟨1, y, rfl, q H3 (Ex.refl _)⟩) fun _ _ => ⟨_, rfl, ?_, ?_⟩
      · split <;> omega
      · split <;> omega
  rintro σ H12 ⟨B12, wh2, u1, u5, u6, u7, u8, u9, u10, s12, w12, ok2, rfl⟩
  exact fin B12 H12 zs wh2 _ s12 w12 ok2 rfl rfl
end
end LL
namespace LL
open PySem PySem.Spec PyProof.Rows L2 He Evl ND
/-! ### private cells of one best answer -/
/-- a cell that neither stood ahead nor stands in the base -/
structure Prv (ms : List Addr) (H0 B H : Hp) (a : Addr) (o : HO) : Prop where
  n0 : H0 a = none
  b : B a = none
  h : H a = some o
  nf : a ∉ ms
section
variable {ms : List Addr} {B0 H0 B H B2 H2 : Hp} {a c : Addr} {o o2 : HO}
theorem Prv.stp (p : Prv ms H0 B H a o) (s : Stp ms B H B2 H2) : Prv ms H0 B2 H2 a o := ⟨p.n0, s.off p.b p.h, s.fr _ _ p.nf p.h, p.nf⟩
theorem Prv.self (p : Prv ms H0 B H a o) : Prv ms H0 B (upd H a o2) a o2 := ⟨p.n0, p.b, upd_same, p.nf⟩
theorem Prv.other (p : Prv ms H0 B H a o) (n : a ≠ c) : Prv ms H0 B (upd H c o2) a o := ⟨p.n0, p.b, by rw [upd_ne n]; exact p.h, p.nf⟩
theorem Prv.base (p : Prv ms H0 B H a o) (n : a ≠ c) : Prv ms H0 (upd B c o2) H a o := ⟨p.n0, by rw [upd_ne n]; exact p.b, p.h, p.nf⟩
theorem Stp.mut (s : Stp ms B0 H0 B H) (p : Prv ms H0 B H a o) : Stp ms B0 H0 B (upd H a o2) where
  base := s.base
  in_ := Ex.mut s.in_ p.b
  nw := s.nw
  fr b u hm hb := by
    rw [upd_ne (fun z => by rw [z, p.n0] at hb; cases hb)]
    exact s.fr b u hm hb
  al b h := by
    by_cases z : b = a
    · rw [z, upd_same]; nofun
    · rw [upd_ne z]; exact s.al b h
theorem Stp.prv (s : Stp ms B0 H0 B H) (n : H a = none) (h0 : ∀ m ∈ ms, H m ≠ none) : Prv ms H0 B (upd H a o) a o ∧ Stp ms B0 H0 B (upd H a o) := by
  have n0 : H0 a = none := by
    cases hh : H0 a with
    | none => rfl
    | some u => exact absurd n (s.al a (by rw [hh]; nofun))
  exact ⟨⟨n0, ex_none s.in_ n, upd_same, fun z => h0 a z n⟩, s.trans (Stp.cell s.in_ n)⟩
end
/-! ### items and rows in the heap -/
section
variable {w : World} {K : PySem.W.Frag} {mg : Str → Option Value} {base : Heap}
/-! ### the asked views: a dict whose values are private lists -/
variable {ms : List Addr} {B0 H0 B H B2 H2 : Hp} {L : Addr} {kvs : List NE} {ask : Asked}
end
end LL
namespace LL
open PySem PySem.Spec PyProof.Rows L2 He Evl
/-! ### the law's own arithmetic of pairs -/
section
variable {w : World} {K : PySem.W.Frag} {mg : Str → Option Value} {base : Heap}
/-- a pair, in the base -/
abbrev PR_ (q : Rat) : V → Hp → Prop := fun v B => PairAt B v q.num q.den
variable {ms : List Addr} {W : Hp → Hp → Prop} [I : Wld ms W] {B : Hp} {σ : L2.St} {te ta tb : TE} {E : XK}
/-- a pair that is written -/
theorem gw_pair {n d : Int} {q : Rat} (h1 : GW ms W (ta σ) B (fun v _ => v = .int n)) (h2 : ∀ B1, Ex B B1 → GW ms W (tb σ) B1 (fun v _ => v = .int d)) (hn : n = q.num) (hd : d = q.den) : GW ms W (tTup (tCons ta (tCons tb tNil)) σ) B (PR_ q) := by
  subst hn hd
  refine gw_tup (S := fun vs _ => vs = [.int q.num, .int (q.den : Int)]) (gw_cons h1 fun x B1 e1 r1 => gw_cons (h2 B1 e1) fun y B2 e2 r2 => gw_nil fun B3 e3 => by rw [r1, r2]) fun vs B1 e1 hv => ?_
  subst hv
  exact ⟨(show 2 ≤ 100000 by decide), fun B2 a e2 ha => ⟨a, rfl, ha⟩⟩
end
end LL
namespace LL
open PySem PySem.Spec PyProof.Rows L2 He Evl ND
/-! ### rows of plans -/
section
variable {w : World} {K : PySem.W.Frag} {mg : Str → Option Value} {base : Heap}
section
variable {ms : List Addr} {W : Hp → Hp → Prop} [I : Wld ms W] {B : Hp} {σ : L2.St} {te ta tb : TE} {E : XK}
/-- tests that fail -/
theorem gw_orF {t1 t2 : TT} (h1 : GW ms W (t1 σ) B (fun (b : Bool) _ => b = false)) (h2 : ∀ B1, Ex B B1 → GW ms W (t2 σ) B1 (fun (b : Bool) _ => b = false)) : GW ms W (tOr t1 t2 σ) B (fun (b : Bool) _ => b = false) :=
  gw_bind (k2 := fun (c : Bool) H (Q : Bool → Hp → Prop) => if c = true then Q true H else t2 σ H Q) h1 fun c B1 e1 hc => by
    subst hc
    exact h2 B1 e1
theorem gw_notF {t1 : TT} (h1 : GW ms W (t1 σ) B (fun (b : Bool) _ => b = true)) : GW ms W (tNot t1 σ) B (fun (b : Bool) _ => b = false) :=
  gw_bind (k2 := fun (c : Bool) H (Q : Bool → Hp → Prop) => Q (!c) H) h1 fun c B1 e1 hc => by
    subst hc
    exact gw_pure fun _ _ => rfl
theorem gw_isT (h : GW ms W (te σ) B (fun v _ => v = .bl true)) : GW ms W (tB te σ) B (fun (b : Bool) _ => b = true) := gw_test (te := te) (h.imp fun v B1 e1 hv => ⟨true, hv, rfl⟩)
end
end
end LL
namespace LL
open PySem PySem.Spec PyProof.Rows L2 He Evl ND
/-! ### the law's own tree -/
section
variable {w : World} {K : PySem.W.Frag} {mg : Str → Option Value} {base : Heap}
theorem dpa_appB {H : Hp} : ∀ {vs us : List V} {a b : List PyData}, DpAll K H vs a → DpAll K H us b → DpAll K H (vs ++ us) (a ++ b)
  | _, _, _, _, .nil, h => h
  | _, _, _, _, .cons h1 h2, h => .cons h1 (dpa_appB h2 h)
end
end LL
namespace LL
open PySem PySem.Spec PyProof.Rows L2 He Evl ND
variable {K : PySem.W.Frag}
theorem dpa_len {H : Hp} : ∀ {vs : List V} {ds : List PyData}, DpAll K H vs ds → vs.length = ds.length
  | _, _, .nil => rfl
  | _, _, .cons _ h => by rw [List.length_cons, List.length_cons, dpa_len h]
/-- all items told one by one -/
theorem dpa_of {H : Hp} : ∀ {vs : List V} {ds : List PyData}, vs.length = ds.length → (∀ (i : Nat) v d, vs[i]? = some v → ds[i]? = some d → Dp K H v d) → DpAll K H vs ds
  | [], [], _, _ => .nil
  | [], _ :: _, h, _ => by cases h
  | _ :: _, [], h, _ => by cases h
  | v :: vs, d :: ds, h, f => .cons (f 0 v d rfl rfl) (dpa_of (Nat.succ.inj h) fun i v d h1 h2 => f (i + 1) v d (by simpa using h1) (by simpa using h2))
end LL
namespace LL
open PySem PySem.Spec PyProof.Rows L2 He Evl ND
/-! ### a plan told as data -/
def ratD (q : Rat) : PyData := .tuple [.int q.num, .int (q.den : Int)]
def rowD (e : Ent) : PyData := .tuple [e.1.data, .tuple (e.2.map ratD)]
def spToldD (w : World) (K : PySem.W.Frag) : Sp := fun us H Q _ => ∃ (B : Hp) (v : V) (es : List Ent), us = [v] ∧ Ex B H ∧ PlanAt w K B v es ∧ es.length ≤ 1000 ∧ (∀ e ∈ es, e.2.length ≤ 1000) ∧ ∀ u B2 H2, Stp [] B H B2 H2 → Dp K B2 u (.list (es.map rowD)) → Q u H2
section
variable {w : World} {K : PySem.W.Frag} {mg : Str → Option Value} {base : Heap}
theorem ty_tup {H : Hp} {a : Addr} {xs : List V} (h : SqT K H a xs) : TyX K H (.ref a) (.type "tuple") := by
  rcases h with (h | ⟨o, h⟩) | ⟨o, its, n, h, c, _⟩
  · exact .base (.tup h)
  · exact .fTuple h
  · exact .kTuple h c
theorem ty_lst {H : Hp} {a : Addr} {xs : List V} (h : SqL K H a xs) : TyX K H (.ref a) (.type "list") := by
  rcases h with (h | ⟨o, h⟩) | ⟨o, its, n, h, c, _⟩
  · exact .base (.lst h)
  · exact .base (.frz h)
  · exact .kList h c
theorem kit_lstT : PySem.W.kitOne K (.type "list") (.type "list") = some true := kit_lst (.list [])
theorem kit_tupT : PySem.W.kitOne K (.type "tuple") (.type "tuple") = some true := kit_tup (.tuple [])
/-- isinstance(x, list) and isinstance(x, tuple) that hold -/
theorem ev_isL {σ : L2.St} {te : TE} {B : Hp} {a : Addr} {xs : List V} (h : Ev te σ B (.ref a)) (ha : SqL K B a xs) : Ev (tCB (rIsi K) (tCons te (tCons (tC (.ty "list")) tNil))) σ B (.bl true) := fun H1 e Q q =>
  h H1 e _ fun H2 e2 => ⟨_, _, _, _, true, rfl, ClsV.ty _, ty_lst (ex_l (e.trans e2) ha), kit_lstT, q H2 e2⟩
theorem ev_isTp {σ : L2.St} {te : TE} {B : Hp} {a : Addr} {xs : List V} (h : Ev te σ B (.ref a)) (ha : SqT K B a xs) : Ev (tCB (rIsi K) (tCons te (tCons (tC (.ty "tuple")) tNil))) σ B (.bl true) := fun H1 e Q q =>
  h H1 e _ fun H2 e2 => ⟨_, _, _, _, true, rfl, ClsV.ty _, ty_tup (ex_t (e.trans e2) ha), kit_tupT, q H2 e2⟩
theorem fn_l_told (T : Txt K mg) : Fn P w K mg base 8 (ga K "_law_told") (spToldD w K) := by
  refine fn_def T.d_l_told sc_l_told (fun _ _ _ _ _ _ us hl => match us, hl with | [_], _ => rfl) (fun vs H Q E h => ?_) (fun cdv A outer s H vs Q E hr h => ?_)
  · obtain ⟨_, _, _, rfl, _⟩ := h
    rfl
  obtain ⟨B, v, es, rfl, eB, hv, hl, hz, k⟩ := h
  have nd := sc_l_told.nd
  have hbig : (100000 : Nat) ≤ sizeLine := by decide
  refine ⟨_, pss_cons (ps_set (i := 1) nd rfl (by first | exact Or.inl rfl | exact Or.inr rfl) (pe_methR0 (pv 0) T.c_Plan T.t_Plan_entries (fn_Plan_entriesB T) (hr.mono (by decide)) pc))
      (pss_cons (ps_if (pt_not (pt_val (pe_callB call_isi (by rfl) T.f_isinstance (by decide +kernel) (pa_cons (pv 1) (pa_cons (pe_bltn (v := .ty "list") rfl T.f_list (by decide +kernel) rfl) pa_nil))))) (pss_one (ps_ret (pe_non))) (pss_nil))
      (pss_cons (ps_set (i := 2) nd rfl (by first | exact Or.inl rfl | exact Or.inr rfl) (pe_lst pa_nil))
      (pss_cons (ps_for (passes_of rfl) rfl (pi_list (pv 1)) (pg_name (i := 3) nd rfl (by first | exact Or.inl rfl | exact Or.inr rfl)) (pss_cons (ps_if (PW.pt (pw_or (pt_not (pt_val (pe_callB call_isi (by rfl) T.f_isinstance (by decide +kernel) (pa_cons (pv 3) (pa_cons (pe_bltn (v := .ty "tuple") rfl T.f_tuple (by decide +kernel) rfl) pa_nil))))) (pw_or1 (pt_not (pt_val (pe_callB call_isi (by rfl) T.f_isinstance (by decide +kernel) (pa_cons (pe_ix ix_tup (pv 3) (pe_int) (fun _ _ => rfl)) (pa_cons (pe_bltn (v := .ty "tuple") rfl T.f_tuple (by decide +kernel) rfl) pa_nil)))))))) (pss_one (ps_ret (pe_non))) (pss_nil))
      (pss_one (ps_expr (pe_bm PySem.F.plainAttrs_list PySem.F.slot_list_append PySem.F.type_list_append mt_append (pv 2) (pa_cons (pe_tup (pa_cons (pe_ix ix_tup (pv 3) (pe_int) (fun _ _ => rfl)) (pa_cons (pe_callTy call_tuple_of (by rfl) T.f_tuple (by decide +kernel) (pa_cons (pe_lc (own := [("_law_lot", 4)]) (g := gName 4) (tt := tYes) rfl nd (pi_tup (pe_ix ix_tup (pv 3) (pe_int) (fun _ _ => rfl))) (blkOk_by (N := n_l_told) (sc := defScope s_l_told) (by decide +kernel)) (fun _ _ _ _ _ => pg_name (i := 4) nd rfl (by first | exact Or.inl rfl | exact Or.inr rfl)) (fun _ _ _ _ _ => pts_nil) (fun _ _ _ _ _ => pe_tup (pa_cons (pek_fld K (pv 4) rfl) (pa_cons (pek_fld K (pv 4) rfl) pa_nil)))) pa_nil)) pa_nil))) pa_nil))))))
      (pss_one (ps_ret (pv 2)))))), ?_⟩
  refine gwq_asg (ms := []) (W := W0) (B := B) eB (gw_entries (gw_var (i := 0) rfl fun B1 e1 => hv.mono e1)) fun v1 B1 H1 s1 w1 ⟨l, Ts, kvs, hv1, hl1, hp, ht⟩ => ?_
  subst hv1
  refine gwq_when (ms := []) (W := W0) (R := fun (b : Bool) _ => b = false) w1 (gw_notF (gw_isT (gw_val (ev_isL (ev_var rfl) (sq_of hl1))))) (fun _ _ _ _ hb => Bool.noConfusion hb) fun B2 H2 s2 w2 _ => ?_
  have hl2 := s2.base _ _ hl1
  have hp2 : PrsAt B2 Ts kvs := paired_mono hp fun _ _ z => s2.base _ _ z
  have ht2 := ht.mono s2.base
  refine ⟨(show 0 ≤ sizeLine by omega), fun L nL => ?_⟩
  have s02 := s1.trans s2
  obtain ⟨pL, sL⟩ := (Stp.refl w2 : Stp [] B2 H2 B2 H2).prv (o := .lst []) nL (fun m hm => nomatch hm)
  have wL : W0 B2 (upd H2 L (.lst [])) := sL.in_
  generalize upd H2 L (.lst []) = H3 at pL sL wL
  dsimp only [gName]
  have hTl : Ts.length = kvs.length := Paired.length hp2
  have hkl : kvs.length = es.length := Paired.length ht2
  refine ⟨_, rfl, l, rfl, ⟨_, sq_of (wL _ _ hl2)⟩, for_it (walk_list (xs := Ts.map V.ref)) (fun j σ H' => ∃ (B' : Hp) (us : List V) (u3 : Option V), Stp [] B2 H2 B' H' ∧ Prv [] H2 B' H' L (.lst us) ∧ DpAll K B' us ((es.take j).map rowD) ∧ σ = [some v, some (.ref l), some (.ref L), u3, none]) ⟨B2, [], none, sL, pL, by rw [List.take_zero]; exact .nil, rfl⟩ (fun j σ H' _ ⟨B', us, u3, st, _⟩ => sq_of (st.in_ _ _ (st.base _ _ hl2))) ?_ ?_⟩
  · rintro j y σ H4 H5 hj ⟨B4, us, u3, st, pr, hd, rfl⟩ ⟨rfl, hy⟩
    rw [List.getElem?_map] at hy
    obtain ⟨TT, hTT, rfl⟩ := Option.map_eq_some_iff.mp hy
    obtain ⟨n, hn, hpx⟩ := paired_get hp2 hTT
    obtain ⟨en, hen, h1, h2, b, vs, h3, h4, h5⟩ := paired_get ht2 hn
    rw [h3] at hpx
    have hem := List.mem_of_getElem? hen
    have hvl : vs.length = en.2.length := Paired.length h5
    have hz2 := hz en hem
    have e4 := st.base
    have w4 : W0 B4 H5 := st.in_
    have hpx4 := e4 _ _ hpx
    have h44 := ex_t e4 h4
    have hlen := dpa_len hd
    rw [List.length_map, List.length_take] at hlen
    refine gwq_when (ms := []) (W := W0) (B := B4) (R := fun (b : Bool) _ => b = false) w4 (gw_orF (gw_notF (gw_isT (gw_val (ev_isTp (ev_var rfl) (st_of hpx4))))) fun B5 e5 => gw_notF (gw_isT (gw_val (ev_isTp (ev_ixT (ev_var rfl) ev_c (st_of (e5 _ _ hpx4)) rfl) (ex_t e5 h44))))) (fun _ _ _ _ hb => Bool.noConfusion hb) fun B5 H6 s5 w5 _ => ?_
    have pr5 := pr.stp s5
    have hpx5 := s5.base _ _ hpx4
    have h45 := ex_t s5.base h44
    have h55 := rats_mono h5 (e4.trans s5.base)
    have h25 := key_mono (key_mono h2 e4) s5.base
    refine ⟨_, rfl, .inl ⟨rfl, _, sq_of pr5.h⟩, ?_⟩
    refine (gw_tup (ms := []) (W := W0) (B := B5) (S := fun us B6 => ∃ x, us = [.ref n.2.1, x] ∧ Dp K B6 x (.tuple (en.2.map ratD))) (R := fun v B6 => Dp K B6 v (rowD en)) (gw_c1 (v := .ref n.2.1) (ev_ixT (ev_var rfl) ev_c (st_of hpx5) at0) (gw_cons (R1 := fun x B6 => Dp K B6 x (.tuple (en.2.map ratD))) ?_ fun x B6 e6 hx => gw_nil fun B7 e7 => ⟨x, rfl, dp_mono e7 hx⟩)) fun us2 B6 e6 ⟨x, hus, hx⟩ => ?_).go w5 fun v6 B6 H7 s6 w6 hv6 => ?_
    · refine gw_cb (S := fun vs2 B6 => ∃ D ys, vs2 = [.ref D] ∧ B6 D = some (.lst ys) ∧ DpAll K B6 ys (en.2.map ratD)) (gw_cons (R1 := fun v B6 => ∃ D ys, v = .ref D ∧ B6 D = some (.lst ys) ∧ DpAll K B6 ys (en.2.map ratD)) ?_ fun x B6 e6 ⟨D, ys, hx, hD, hys⟩ => gw_nil fun B7 e7 => ⟨D, ys, by rw [hx], e7 _ _ hD, dpa_mono e7 hys⟩) fun vs2 B6 e6 ⟨D, ys, hv2, hD, hys⟩ => ?_
      · refine gw_lcT (Rl := fun u _ => u = .ref b) (gw_val (ev_ixT (ev_var rfl) ev_c (st_of hpx5) rfl)) fun u B6 e6 hu => ?_
        subst hu
        refine ⟨b, vs, fun i v B7 => ∃ q, en.2[i]? = some q ∧ Dp K B7 v (ratD q), rfl, ex_t e6 h45, by omega, fun i v B1 B2 e ⟨q, g1, g2⟩ => ⟨q, g1, dp_mono e g2⟩, fun i y hy B7 e7 => ?_, fun D ys B7 e7 hD hyl hre => ⟨D, ys, rfl, hD, ?_⟩⟩
        · obtain ⟨q, hq, hyq⟩ := paired_get h55 hy
          obtain ⟨a, dx, rfl, ha⟩ := ratAt_mono (e6.trans e7) hyq
          exact LcE.name rfl ((gw_pair (gw_val (ev_fldI (ev_var rfl) ha T.c_Ratio T.a_Ratio_num (rf_num _ _))) (fun B8 e8 => gw_val (ev_fldI (ev_var rfl) (e8 _ _ ha) T.c_Ratio T.a_Ratio_den (rf_den _ _))) rfl rfl).imp fun v B8 e8 ⟨c, hv, hc⟩ => ⟨q, hq, by rw [hv]; exact .tup (st_of hc) (.cons (.int _) (.cons (.int _) .nil))⟩)
        · refine dpa_of (by rw [List.length_map]; omega) fun i y d hy hd => ?_
          obtain ⟨q, g1, g2⟩ := hre i y hy
          rw [List.getElem?_map, g1] at hd
          cases hd
          exact g2
      · subst hv2
        intro B7 H7 e7 w7 Q q
        refine ⟨D, ys, rfl, .inl ⟨sq_of (w7 _ _ (e7 _ _ hD)), fun l2 nl2 => ?_⟩⟩
        obtain ⟨s8, w8⟩ := Wld.new (ms := []) (W := W0) (o := .tup ys) w7 nl2
        exact q _ _ _ s8 w8 (.tup (st_of upd_same) (dpa_mono (e7.trans s8.base) hys))
    · subst hus
      exact ⟨(show 2 ≤ 100000 by decide), fun B7 t e7 ht => .tup (st_of ht) (.cons (h1 ▸ dp_mono (e6.trans e7) h25.2.2) (.cons (dp_mono e7 hx) .nil))⟩
    · have pr6 := pr5.stp s6
      refine ⟨L, us, v6, rfl, rfl, pr6.h, by omega, B6, us ++ [v6], _, (st.trans (s5.trans s6)).mut pr6, pr6.self, ?_, rfl⟩
      rw [List.take_add_one, hen, Option.toList_some, List.map_append]
      exact dpa_appB (dpa_mono (s5.base.trans s6.base) hd) (.cons hv6 .nil)
  · rintro σ H4 ⟨B4, us, u3, st, pr, hd, rfl⟩
    rw [List.length_map, hTl, hkl, List.take_length] at hd
    have bL := pr.b
    have tk := st.take nL bL pr.h
    have eN : Ex B4 (upd B4 L (.lst us)) := Ex.new bL
    refine ⟨_, rfl, k _ _ _ (s02.trans tk) ?_⟩
    exact .lst (sq_of upd_same) (dpa_mono eN hd)
end
end LL
/-! defs called within an except suite that raise nothing; isinstance of a caught error that has a dict of its own -/
namespace LL
open PySem PySem.Spec PyProof.Rows L2 He Evl
/-- what a def promises wherever it is called: nothing leaves it but its value -/
def FnRC (P : Program) (w : World) (K : PySem.W.Frag) (mg : Str → Option Value) (base : Heap) (k : Nat) (f : Addr) (sp : Sp) : Prop :=
  ∀ (A : Around) (outer : List Env) (s : Shared) (H : Hp) (us : List Value) (vs : List V) (Q : VK) (E : XK), L2H.RoomH k A → Env0 P w K mg base A outer s H → Vals vs us → sp vs H Q E →
    codeAny (model P w) A (.call (.ref f) ⟨us, []⟩) (CR CX0 outer P w H s Q E) s
def cxC (P : Program) (w : World) (K : PySem.W.Frag) (mg : Str → Option Value) (base : Heap) (N : List Str) (qual : Str) (scope : Scope) (f : Addr) (cd : Value) (A : Around) (outer : List Env) (s : Shared) (H : Hp) (E : XK) : Cx :=
  { cxOf CX0 P w K mg base N qual scope f cd A outer s H E with calm := false }
theorem inv_startC {P : Program} {w : World} {K : PySem.W.Frag} {mg : Str → Option Value} {base : Heap} {N ps : List Str} {qual : Str} {scope : Scope} {f : Addr} {cd : Value} {A : Around} {outer : List Env} {s s1 : Shared} {H : Hp} {E : XK} {us : List Value} {vs : List V}
    (S : FnScope N ps scope) (e0 : Env0 P w K mg base A outer s H) (hl : vs.length = ps.length) (r : Vals vs us)
    (x : InCallC s s.heap.objs.size (bindL (envOfC qual scope s.heap.objs.size f cd).kindOf (ps.zip us) fun _ => none) (cellsFrom (s.heap.objs.size + 1) scope.names []) (bindC (envOfC qual scope s.heap.objs.size f cd).kindOf (ps.zip us) fun _ => none) s1) :
    Inv (cxC P w K mg base N qual scope f cd A outer s H E) [] (L2.start N vs) H s1 := by
  have hpl : ps.length ≤ N.length := by have := congrArg List.length S.pre; rw [List.length_take] at this; omega
  obtain ⟨h1, tk, rfl, hk⟩ := x.done
  have noA : ∀ b : Addr, b ∉ (cxC P w K mg base N qual scope f cd A outer s H E).ex := fun b z => absurd (show b ∈ ([] : List Addr) from z) (by simp)
  refine ⟨⟨e0.mod, S.kind, rfl, rfl, Nat.le_refl _, fun y z c h1 h2 => ?_, fun y hy => ?_, fun y c _ h => ?_, (fun z => Bool.noConfusion (show false = true from z)), Around.frames_deeper e0.frames, .inr ⟨rfl, rfl⟩, fun b z => absurd z (noA b), e0.bs, e0.bsz, fun b _ _ => noA b, fun b z => absurd z (noA b), e0.funs, e0.frf⟩,
    rfl, e0.bare, Un.kept hk, ⟨_, x.toInCall.ns, fun i y v h1 h2 h3 => ?_⟩, fun y c h => ⟨_, x.cell y c h⟩, e0.hok.fresh (Nat.le_refl _), fun y c h => ?_, fun q hq => ?_, e0.hok.kept hk, ?_⟩
  · exact name_of_addr x.apart (PySem.mem_of_lookup h1) (PySem.mem_of_lookup h2)
  · have hy : scope.names.lookup y = some .cell ∨ scope.names.lookup y = some .free := hy
    rcases hy with hy | hy
    · exact cell_has hy
    · exact absurd rfl (S.nofree _ (PySem.mem_of_lookup hy))
  · exact Nat.le_of_lt (x.above y c (PySem.mem_of_lookup h))
  · have hi : i < vs.length := by
      unfold L2.start at h2
      by_cases hi : i < vs.length
      · exact hi
      · rw [List.getElem?_append_right (by simpa using hi)] at h2
        rw [List.getElem?_replicate] at h2
        split at h2 <;> cases h2
    have ha : vs[i]? = some v := by
      unfold L2.start at h2
      rw [List.getElem?_append_left (by simpa using hi), List.getElem?_map] at h2
      cases e : vs[i]? with
      | none => rw [e] at h2; cases h2
      | some a => rw [e] at h2; cases h2; rfl
    obtain ⟨u, hu, rv⟩ := r.get ha
    have hp : ps[i]? = some y := by
      rw [← S.pre, List.getElem?_take_of_lt (by omega)]; exact h1
    have ndP : ps.Nodup := by rw [← S.pre]; exact S.nd.sublist (List.take_sublist _ _)
    refine ⟨u, rv, ?_⟩
    rcases S.par y (List.mem_of_getElem? hp) with k | k
    · exact .inl ⟨k, bindL_get ndP hp hu k⟩
    · obtain ⟨c, e⟩ := cell_has (n := s.heap.objs.size + 1) k
      refine .inr ⟨.inl k, c, e, ?_⟩
      have q := x.cell y c e
      rw [bindC_get ndP hp hu (by show scope.names.lookup y ≠ _; rw [k]; decide)] at q
      exact q
  · exact e0.hok.fresh (Nat.le_of_lt (x.above y c (PySem.mem_of_lookup h)))
  · exact absurd (show q ∈ ([] ++ [] : List (Addr × Obj)) from hq) (by simp)
  · unfold L2.start
    show _ = N.length
    rw [List.length_append, List.length_map, List.length_replicate]
    omega
theorem fn_defC {P : Program} {w : World} {K : PySem.W.Frag} {mg : Str → Option Value} {base : Heap} {x qual : Str} {st : Stmt} {f : Addr} {N ps : List Str} {k : Nat} {sp : Sp} (D : ∃ fd, FunD K x qual (defArgs st) (defBody st) (defScope st) [] [] f fd) (S : FnScope N ps (defScope st))
    (hb : ∀ (kV doc pm : Value) (an : Option Addr) (cdv ct : Value) (us : List Value), us.length = ps.length → bindArgs (PySem.W.fnOf x qual (defArgs st) (defBody st) (defScope st) .none kV doc pm an cdv ct) ⟨us, []⟩ = pure (ps.zip us))
    (len : ∀ vs H Q E, sp vs H Q E → vs.length = ps.length)
    (hbody : ∀ (cdv : Value) (A : Around) (outer : List Env) (s : Shared) (H : Hp) (vs : List V) (Q : VK) (E : XK), L2H.RoomH k (A.deeper (envOfC qual (defScope st) s.heap.objs.size f cdv)) → sp vs H Q E →
      ∃ t, PSs (cxC P w K mg base N qual (defScope st) f cdv A outer s H E) (defBody st) t ∧ t { nx := fun _ H' => Q .non H', rt := Q } (start N vs) H) : FnRC P w K mg base (k + 1) f sp := by
  obtain ⟨fd, F⟩ := D
  have bn := F.bindsN hb
  obtain ⟨oc, od, dV, kV, doc, pm, an, cdv, ct, osl, rfl, lk, hcd, _, _⟩ := F.ex
  intro A outer s H us vs Q E hr e0 r hsp
  have hl := len _ _ _ _ hsp
  have KX : K.In s.heap := e0.mod.kin.keeps fun b o e => (e0.bs b o e).1
  have lim : s.heap.NoLimit := e0.mod.nolimit.keeps fun b o e => (e0.bs b o e).1
  have hkind : ∀ y ∈ ps.zip us, (defScope st).names.lookup y.1 = some .local ∨ ((defScope st).names.lookup y.1 = some .cell ∧ ((cellsFrom (s.heap.objs.size + 1) (defScope st).names []).lookup y.1).isSome = true) := fun ⟨n, v⟩ hy => by
    rcases S.par n (List.of_mem_zip hy).1 with q | q
    · exact .inl q
    · exact .inr ⟨q, PySem.W.cellsFrom_some _ _ _ (.inl q)⟩
  have hb2 := bn s us KX (by rw [List.append_nil, ← r.length, hl])
  rw [List.append_nil] at hb2
  refine codeAny_call_function hr.depth (KX _ _ lk) rfl S.co S.gen rfl (PySem.W.codeRec_of KX hcd) (hb2 _ _ _ _ ?_)
  refine wpAny_newFunctionEnv_cells S.kind hkind fun env he s1 x => ?_
  subst he
  refine ⟨lim.keeps x.toInCall.keep, codeAny_func ?_⟩
  obtain ⟨t, ht, hq⟩ := hbody cdv A outer s H vs Q E (hr.deeper _) hsp
  have I : Inv (cxC P w K mg base N qual (defScope st) f cdv A outer s H E) [] (L2.start N vs) H s1 := inv_startC S e0 hl r x
  refine wpAny_mono (ht.run [] s1 (L2.start N vs) H _ I hq) (fun fl s' hs => ?_) fun e s' hs => hs
  have fin : ∀ {σ' : L2.St} {H' : Hp} {v : V} {u : Value}, Inv (cxC P w K mg base N qual (defScope st) f cdv A outer s H E) [] σ' H' s' → RelV v u → Q v H' → CE outer P w H s Q u s' :=
    fun {σ' H' v u} J rv q => ⟨v, H', J.os, J.bare, J.base, J.hok, rv, q⟩
  cases fl with
  | ret u =>
    obtain ⟨v, σ', H', J, rv, q⟩ := hs
    exact fin J rv q
  | next =>
    obtain ⟨σ', H', J, q⟩ := hs
    exact fin (v := V.non) (u := Value.none) J rfl q
  | brk =>
    obtain ⟨_, _, _, q⟩ := hs
    exact False.elim q
  | cont =>
    obtain ⟨_, _, _, q⟩ := hs
    exact False.elim q
theorem pe_fnC {X : Cx} {k : Nat} {f : Addr} {sp : Sp} {x x' qual : Str} {st : Stmt} {dvs : List V} {e : Expr} {es : List Expr} {t : TA} {p pos : Pos} (D : ∃ fd, FunD X.K x' qual (defArgs st) (defBody st) (defScope st) dvs [] f fd)
    (F : FnRC X.prog X.w X.K X.mg X.base k f sp) (hr : L2H.RoomH k X.A) (hm : X.mg x = some (.ref f)) (ha : PA X (e :: es) t) (hg : Gl X x := by rfl) (hdb : (x == ("__debug__" : Str)) = false := by decide)
    (he : starEach (e :: es) X.env = (false, eval e X.env) :: starEach es X.env := by rfl) (hpl : (backTo pos (starEach es X.env)).any (·.1) = false := by rfl) :
    L2.PE X (.Call (.Name x p) (e :: es) [] pos) (fun σ H Q => t σ H fun vs H1 => sp vs H1 Q fun _ _ _ => False) := by
  refine ⟨fun pins s σ H Q I h => ?_⟩
  refine wpAny_Call_Name_kw (ld_glob I hg hm ?_ hdb)
  refine PySem.W.callWith_K (h₀ := X.base) I.ok.mod.kin (kp_of D) (thn (ha.run pos pins s σ H _ I h) fun us s1 ⟨vs, H1, I1, r, q⟩ => ⟨I1.kIn, ?_⟩) he hpl
  refine wpAny_call (codeAny_mono (F X.A X.stack s1 H1 us vs Q _ hr I1.env0 r q) fun r s' hq => ?_)
  cases r with
  | error e => exact False.elim hq
  | ok fl =>
    cases fl with
    | ret u => exact I1.after hq
    | next => exact False.elim hq
    | brk => exact False.elim hq
    | cont => exact False.elim hq
/-- a call in a try's body -/
theorem pe_fnS {X : Cx} {CX : CXT} {k : Nat} {f : Addr} {sp : Sp} {E : L2.St → XK} {x x' qual : Str} {st : Stmt} {dvs : List V} {e : Expr} {es : List Expr} {t : TA} {p pos : Pos} (D : ∃ fd, FunD X.K x' qual (defArgs st) (defBody st) (defScope st) dvs [] f fd)
    (F : FnR X.prog X.w X.K X.mg X.base CX k f sp) (hr : Room k X.A) (hm : X.mg x = some (.ref f)) (hx : ∀ σ, PassesAt CX X σ (E σ)) (ha : PA X (e :: es) t) (hg : Gl X x := by rfl) (hdb : (x == ("__debug__" : Str)) = false := by decide)
    (he : starEach (e :: es) X.env = (false, eval e X.env) :: starEach es X.env := by rfl) (hpl : (backTo pos (starEach es X.env)).any (·.1) = false := by rfl) :
    L2.PE X (.Call (.Name x p) (e :: es) [] pos) (fun σ H Q => t σ H fun vs H1 => sp vs H1 Q (E σ)) := by
  refine ⟨fun pins s σ H Q I h => ?_⟩
  refine wpAny_Call_Name_kw (ld_glob I hg hm ?_ hdb)
  refine PySem.W.callWith_K (h₀ := X.base) I.ok.mod.kin (kp_of D) (thn (ha.run pos pins s σ H _ I h) fun us s1 ⟨vs, H1, I1, r, q⟩ => ⟨I1.kIn, ?_⟩) he hpl
  exact wpAny_call (run_fnRS F hr (hx σ) I1 r q)
/-! ### isinstance of an error with a dict -/
def rIsEd (K : PySem.W.Frag) (D a dd : Addr) : List V → Hp → VK → Prop := fun xs H Q => ∃ (c : V) (cv : Value) (b : Bool) (fs : List (Str × V)), xs = [.ref a, c] ∧ H dd = some (.xd fs) ∧ (∀ u, RelV c u → u = cv) ∧ PySem.W.kitOne K (.ref D) cv = some b ∧ Q (.bl b) H
def rIsEdT (K : PySem.W.Frag) (D a dd : Addr) : List V → Hp → VK → Prop := fun xs H Q => ∃ (tp : Addr) (cs : List V) (us : List Value) (b : Bool) (fs : List (Str × V)), xs = [.ref a, .ref tp] ∧ H dd = some (.xd fs) ∧ H tp = some (.tup cs) ∧ Paired ClsV cs us ∧ PySem.W.kitAny K (.ref D) us = some b ∧ Q (.bl b) H
theorem exc_inst {X : Cx} {pins : List (Addr × Obj)} {σ : L2.St} {H : Hp} {s : Shared} {a D dd : Addr} {oe : Obj} {pn : List (Addr × Obj)} {fs : List (Str × V)} (I : Inv (X.suite a ((a, oe) :: pn)) pins σ H s) (hz : Zc (.ref D) (some dd) oe) (hf : ∃ vs, oe.data = .fields vs) (ea : H dd = some (.xd fs)) :
    ∃ od, PySem.W.InstAt s.heap a oe D (some od) := by
  obtain ⟨ha, _⟩ := I.pin (a, oe) (List.mem_append_left _ List.mem_cons_self)
  obtain ⟨vs, hd⟩ := hf
  have hx : ObjOk X.prog X.w H s.heap dd (.xd fs) := I.hok dd _ ea
  obtain ⟨mA, hns, hr⟩ := hx
  obtain ⟨od, ho, hl⟩ := lookIn_ns hns
  exact ⟨od, ha, hz.1, by unfold PySem.W.notCls; rw [hd] <;> rfl, by rw [hz.2]; exact ho⟩
theorem cls_some {K : PySem.W.Frag} {D : Addr} (h : PySem.W.hasDictIn K D = true) : (PySem.W.clsIn K D).isSome = true := by
  obtain ⟨cd, hc, _⟩ := PySem.W.any_some h
  rw [hc]
  rfl
theorem call_isEd {X : Cx} {a D dd : Addr} {oe : Obj} {pn : List (Addr × Obj)} (C : ExcC X.K D) (hz : Zc (.ref D) (some dd) oe) (hf : ∃ vs, oe.data = .fields vs) : CallR (X.suite a ((a, oe) :: pn)) (.builtin "isinstance") (rIsEd X.K D a dd) := by
  intro pins s σ H xs us Q I r h
  obtain ⟨c, cv, b, fs, rfl, hdd, hcv, e, q⟩ := h
  obtain ⟨u1, u2, rfl, r1, r2⟩ := vals2 r
  cases (show u1 = Value.ref a from r1)
  have ec := hcv _ r2
  subst ec
  obtain ⟨od, J⟩ := exc_inst I hz hf hdd
  exact PySem.W.kia_one (PySem.W.kitx_exc (cls_some C.hd) C.hg C.hk C.hs C.ha C.hn C.ht C.hm) I.kIn J e (fun z => nomatch z) fun tk => ⟨.bl b, H, I.kept (t' := tk) fun _ _ z => z, rfl, q⟩
theorem call_isEdT {X : Cx} {a D dd : Addr} {oe : Obj} {pn : List (Addr × Obj)} (C : ExcC X.K D) (hz : Zc (.ref D) (some dd) oe) (hf : ∃ vs, oe.data = .fields vs) : CallR (X.suite a ((a, oe) :: pn)) (.builtin "isinstance") (rIsEdT X.K D a dd) := by
  intro pins s σ H xs us Q I r h
  obtain ⟨tp, cs, ws, b, fs, rfl, hdd, hT, k, e, q⟩ := h
  obtain ⟨u1, u2, rfl, r1, r2⟩ := vals2 r
  cases (show u1 = Value.ref a from r1)
  cases (show u2 = Value.ref tp from r2)
  obtain ⟨_, its, rv, o, h1, h2, n, h3⟩ := (show ObjOk X.prog X.w H s.heap tp (.tup cs) from I.hok tp _ hT)
  have e3 := ClsV.all k rv
  subst e3
  obtain ⟨oc, od', dt, sl⟩ := o
  simp only at h2 h3
  subst h2 h3
  obtain ⟨od, J⟩ := exc_inst I hz hf hdd
  exact PySem.W.kia_tup (PySem.W.kitx_exc (cls_some C.hd) C.hg C.hk C.hs C.ha C.hn C.ht C.hm) I.kIn J h1 e (fun z => nomatch z) fun tk => ⟨.bl b, H, I.kept (t' := tk) fun _ _ z => z, rfl, q⟩
theorem callk_isEd (K : PySem.W.Frag) {X : Cx} {a D dd : Addr} {oe : Obj} {pn : List (Addr × Obj)} (C : ExcC K D) (hz : Zc (.ref D) (some dd) oe) (hf : ∃ vs, oe.data = .fields vs) (h : X.K = K := by rfl) : CallR (X.suite a ((a, oe) :: pn)) (.builtin "isinstance") (rIsEd K D a dd) := by subst h; exact call_isEd C hz hf
theorem callk_isEdT (K : PySem.W.Frag) {X : Cx} {a D dd : Addr} {oe : Obj} {pn : List (Addr × Obj)} (C : ExcC K D) (hz : Zc (.ref D) (some dd) oe) (hf : ∃ vs, oe.data = .fields vs) (h : X.K = K := by rfl) : CallR (X.suite a ((a, oe) :: pn)) (.builtin "isinstance") (rIsEdT K D a dd) := by subst h; exact call_isEdT C hz hf
theorem pek_xf (K : PySem.W.Frag) {X : Cx} {a C : Addr} {oe : Obj} {cls : Value} {d : Option Addr} {pn : List (Addr × Obj)} {e : Expr} {te : TE} {pos : Pos} {n : Str} (T : XfC K C) (hno : PySem.W.findIn K (.ref C) n = some none)
    (hz : Zc cls d oe) (hf : ∃ vs, oe.data = .fields vs) (he : L2.PE (X.suite a ((a, oe) :: pn)) e te) (hb : attributeBase e n X.env (eval e X.env) = eval e X.env := by rfl) (h : X.K = K := by rfl) :
    L2.PE (X.suite a ((a, oe) :: pn)) (.Attribute e n pos) (tXf a cls d C n te) := by subst h; exact pe_xf T hno hz hf he hb
theorem callk_list_of (K : PySem.W.Frag) {X : Cx} (h : X.K = K := by rfl) : CallR X (.type "list") (fun xs H Q => ∃ p ys, xs = [.ref p] ∧ (SqL K H p ys ∨ SqT K H p ys) ∧ ∀ l, H l = none → Q (.ref l) (upd H l (.lst ys))) := by subst h; exact call_list_of
end LL
/-! lists and pairs that are walked while an error is handled: the end of a walk is itself an error, chained to the handled one -/
namespace LH
open PySem PySem.Spec PyProof.Rows L2 L2H HotX
/-! ### the end of an iterator -/
section
variable {prog : Program} {w : World} {A : Around} {E : Value → Shared → Prop} {s : Shared}
theorem hot_but {x1 it : Addr} {h h' : Heap} (hot : HotAt A x1 h) (n : x1 ≠ it) (e : Heap.ExtBut it h h') : HotAt A x1 h' := by
  obtain ⟨a, o, vs, b, c, d⟩ := hot
  exact ⟨a, o, vs, e x1 o n b, c, d⟩
theorem ext_upd {it : Addr} {h0 h : Heap} {o : Obj} {f : Obj → Obj} (ex : Heap.ExtBut it h0 h) : Heap.ExtBut it h0 ((h.push o).update h.objs.size f) := fun b o2 hb e => by
  have e2 := ex b o2 hb e
  rw [Heap.get?_update_other _ _ (Nat.ne_of_gt (Heap.lt_size e2))]
  exact Heap.get?_push_of_some _ e2
theorem ext_size {x1 it : Addr} {h0 h : Heap} {A : Around} (hot : HotAt A x1 h0) (hn : x1 ≠ it) (ex : Heap.ExtBut it h0 h) : x1 ≠ h.objs.size := by
  obtain ⟨_, o1, _, h1, _⟩ := hot
  exact Nat.ne_of_lt (Heap.lt_size (ex x1 o1 hn h1))
theorem list_end_hot {x1 it l : Addr} {i : Nat} {items} {Q : Option Value → Shared → Prop} (hot : HotAt A x1 s.heap) (hn : x1 ≠ it)
    (hit : s.heap.IsListIter it l i) (hl : s.heap.IsList l items) (hx : items[i]? = none)
    (hQ : ∀ h', Heap.ExtBut it s.heap h' → Q none { s with heap := h' }) : wpAny (model prog w) A (pyNext (.ref it)) Q E s := by
  obtain ⟨o, ho, hc, hd⟩ := id hit
  obtain ⟨ol, hol, _, nl, hdl⟩ := hl
  unfold pyNext
  refine wpAny_bind (wpAny_attempt (wpAny_callSpecial?_slot (name := Str.ofString "__next__") hit.typeIs slot_listiter_next
    (wpAny_call_entry slot_listiter_next hit.typeIs entry_listiter_next ?_ (args_listiter_next _))))
  show wpAny _ _ (field (.ref it) 0 >>= _) _ _ s
  refine wpAny_bind (wpAny_field ho hd (x := .ref l) rfl ?_)
  show wpAny _ _ (if (Value.ref l == Value.none) = true then _ else _) _ _ s
  rw [if_neg (show ¬ ((Value.ref l == Value.none) = true) from Bool.false_ne_true)]
  show wpAny _ _ (field (.ref it) 1 >>= _) _ _ s
  refine wpAny_bind (wpAny_field ho hd (x := .int i 0) rfl ?_)
  show wpAny _ _ (seqItems? (.ref l) >>= _) _ _ s
  refine wpAny_bind (wpAny_seqItems hol hdl ?_)
  simp only [Int.toNat_natCast, hx]
  refine wpAny_bind (wpAny_rule (wpAny_bind (wpAny_setField ho hd (by simp) ?_)))
  show wpAny _ _ (newExc (.type "StopIteration") [] >>= _) _ _ _
  refine wpAny_bind ?_
  simp only [newExc, newTuple]
  refine wpAny_bind (wpAny_newObj_type ?_ (by size_fits))
  refine wpAny_bind (m := firstArgMember _ _) (wpAny_of_eq (a := Value.none) (by first | rfl | (simp only [firstArgMember]; rfl)) ?_)
  refine wpAny_newObj_type ?_ (by size_fits)
  refine raiseNew_hot (hot_but hot hn (((Heap.SameBut.update ..).extBut.push _).push _)) (ext_size hot hn ((Heap.SameBut.update ..).extBut.push _)) (Heap.get?_push_size _ rfl) rfl (by first | (simp; done) | (simp; omega) | (simp only [Array.size_append]; simp; omega)) ?_
  refine wpAny_bind (wpAny_isInstance (T := "StopIteration") (b := true) ⟨_, Heap.get?_update_self _ (Heap.get?_push_size _ rfl) rfl, rfl⟩ isSubtype_stop ?_)
  exact wpAny_pure (hQ _ (ext_upd ((Heap.SameBut.update ..).extBut.push _)))
theorem tuple_end_hot {x1 it l : Addr} {i : Nat} {items} {Q : Option Value → Shared → Prop} (hot : HotAt A x1 s.heap) (hn : x1 ≠ it)
    (hit : IsTupIter s.heap it l i) (hl : IsTup s.heap l items) (hx : items[i]? = none)
    (hQ : ∀ h', Heap.ExtBut it s.heap h' → Q none { s with heap := h' }) : wpAny (model prog w) A (pyNext (.ref it)) Q E s := by
  obtain ⟨o, ho, hc, hd⟩ := id hit
  obtain ⟨ol, hol, _, nl, hdl⟩ := hl
  unfold pyNext
  refine wpAny_bind (wpAny_attempt (wpAny_callSpecial?_slot (name := Str.ofString "__next__") hit.typeIs slot_tupleiter_next
    (wpAny_call_entry slot_tupleiter_next hit.typeIs entry_tupleiter_next ?_ (args_tupleiter_next _))))
  show wpAny _ _ (field (.ref it) 0 >>= _) _ _ s
  refine wpAny_bind (wpAny_field ho hd (x := .ref l) rfl ?_)
  show wpAny _ _ (if (Value.ref l == Value.none) = true then _ else _) _ _ s
  rw [if_neg (show ¬ ((Value.ref l == Value.none) = true) from Bool.false_ne_true)]
  show wpAny _ _ (field (.ref it) 1 >>= _) _ _ s
  refine wpAny_bind (wpAny_field ho hd (x := .int i 0) rfl ?_)
  show wpAny _ _ (seqItems? (.ref l) >>= _) _ _ s
  refine wpAny_bind (wpAny_seqItems hol hdl ?_)
  simp only [Int.toNat_natCast, hx]
  refine wpAny_bind (wpAny_rule (wpAny_bind (wpAny_setField ho hd (by simp) ?_)))
  show wpAny _ _ (newExc (.type "StopIteration") [] >>= _) _ _ _
  refine wpAny_bind ?_
  simp only [newExc, newTuple]
  refine wpAny_bind (wpAny_newObj_type ?_ (by size_fits))
  refine wpAny_bind (m := firstArgMember _ _) (wpAny_of_eq (a := Value.none) (by first | rfl | (simp only [firstArgMember]; rfl)) ?_)
  refine wpAny_newObj_type ?_ (by size_fits)
  refine raiseNew_hot (hot_but hot hn (((Heap.SameBut.update ..).extBut.push _).push _)) (ext_size hot hn ((Heap.SameBut.update ..).extBut.push _)) (Heap.get?_push_size _ rfl) rfl (by first | (simp; done) | (simp; omega) | (simp only [Array.size_append]; simp; omega)) ?_
  refine wpAny_bind (wpAny_isInstance (T := "StopIteration") (b := true) ⟨_, Heap.get?_update_self _ (Heap.get?_push_size _ rfl) rfl, rfl⟩ isSubtype_stop ?_)
  exact wpAny_pure (hQ _ (ext_upd ((Heap.SameBut.update ..).extBut.push _)))
/-- x, y = a tuple -/
theorem items_hot {x1 t : Addr} {items : Array Value} {Q : List Value → Shared → Prop} (hot : HotAt A x1 s.heap) (ht : IsTup s.heap t items)
    (hQ : ∀ h', Heap.ExtBut s.heap.objs.size s.heap h' → Q items.toList { s with heap := h' }) : wpAny (model prog w) A (unpackItems (.ref t) items.size none) Q E s := by
  have hx : x1 ≠ s.heap.objs.size := by
    obtain ⟨_, o1, _, h1, _⟩ := hot
    exact Nat.ne_of_lt (Heap.lt_size h1)
  have hlt : t ≠ s.heap.objs.size := by
    obtain ⟨o, ho, _⟩ := ht
    exact Nat.ne_of_lt (Heap.lt_size ho)
  unfold unpackItems
  refine wpAny_bind ?_
  unfold notIterableAtAll
  refine wpAny_bind (wpAny_specialOf ht.typeIs slot_tuple_iter.lookup (wpAny_pure ?_))
  simp only [Bool.false_eq_true, if_false]
  refine wpAny_bind (wpAny_holding (iter_tuple ht ?_))
  refine wpAny_bind (wpAny_holding (draw_tuple hlt items.size 0 _ _ ⟨_, Heap.get?_push_size _ rfl, rfl, rfl⟩ (ht.push _) (by omega) fun h1 hit1 sb1 => ?_))
  have all : (items.toList.drop 0).take items.size = items.toList := by
    rw [List.drop_zero]
    exact List.take_of_length_le (by simp)
  rw [all, if_neg (by simp)]
  have e1 : Heap.ExtBut s.heap.objs.size s.heap h1 := fun b o hb e => sb1.extBut b o hb (Heap.get?_push_of_some _ e)
  refine wpAny_bind (wpAny_holding (tuple_end_hot (hot_but hot hx e1) hx hit1 ((ht.push _).extBut sb1.extBut hlt) (by simp) fun h2 e2 => ?_))
  simp only [Option.isSome_none, Bool.false_eq_true, if_false]
  exact wpAny_pure (hQ h2 fun b o hb e => e2 b o hb (e1 b o hb e))
theorem assign_hot {env : Env} {elts : List Expr} {c} {pos : Pos} {x1 t : Addr} {items : Array Value} {Q : Unit → Shared → Prop} (hot : HotAt A x1 s.heap) (ht : IsTup s.heap t items)
    (hn : (assignEach elts env).length = items.size) (hstar : (assignEach elts env).findIdx? (·.1) = none)
    (h : ∀ h', Heap.ExtBut s.heap.objs.size s.heap h' → wpAny (model prog w) A (assignInOrder ((assignEach elts env).map (·.2)) items.toList) Q E { s with heap := h' }) :
    wpAny (model prog w) A (assign (.Tuple elts c pos) env (.ref t)) Q E s := by
  rw [assign_Tuple]
  refine wpAny_bind (wpAny_standAt ?_)
  unfold unpack
  rw [hn, hstar]
  exact wpAny_bind (wpAny_holding (items_hot hot ht h))
end
/-! ### pairs and lists in a context that bears the handled error -/
section
variable {X : Cx} {tg : Expr}
theorem HotC.at2 {pins : List (Addr × Obj)} {σ : L2.St} {H : Hp} {s : Shared} (c : HotC X) (I : Inv X pins σ H s) : ∃ x1, HotAt X.A x1 s.heap ∧ ∀ b, (∀ p ∈ X.pn ++ pins, p.1 ≠ b) → x1 ≠ b := by
  obtain ⟨p, ⟨hh, v1, e1, c1⟩, hp⟩ := c
  have hm := List.mem_append_left pins hp
  exact ⟨p.1, ⟨hh, p.2, v1, (I.pin p hm).1, e1, c1⟩, fun b h => h p hm⟩
theorem pg_tupH {es : List Expr} {k : Nat} {t : TGs} {n : Nat} {pos : Pos} (hc : HotC X) (h : PGs X es t)
    (hn : (assignEach es X.env).length = n := by rfl) (hst : (assignEach es X.env).findIdx? (·.1) = none := by rfl) : PG X (.Tuple es k pos) (gTup X.K n t) := by
  refine ⟨fun pins s σ H v u Q I r hw => ?_⟩
  obtain ⟨a, xs, rfl, hq, hl, hw⟩ := hw
  cases r
  obtain ⟨its, rv, ht, _⟩ := I.tuple hq
  obtain ⟨x1, hot, _⟩ := HotC.at2 hc I
  refine assign_hot hot ht (by simp [hn, ← hl, rv.length]) hst fun h' hx => ?_
  exact h.run pins _ σ H xs _ Q (I.kept (t' := s.toks) fun b o e => hx b o (Nat.ne_of_lt (Heap.lt_size e)) e) (by simpa using rv) hw
theorem turn_listH {P : Program} {w : World} {K : PySem.W.Frag} {tg : Expr} (a it : Addr) : TurnH P w K tg (Itl K a) [it] it (fun i h => h.IsListIter it a i) where
  mem := List.mem_singleton.mpr rfl
  obj := (turn_list (P := P) (w := w) (K := K) (tg := tg) a it).obj
  keep := (turn_list (P := P) (w := w) (K := K) (tg := tg) a it).keep
  self := (turn_list (P := P) (w := w) (K := K) (tg := tg) a it).self
  item := by
    rintro X rfl rfl rfl _ i pins s σ H E I hf st ⟨xs, x, hq, hx⟩
    obtain ⟨its, rv, p, _⟩ := I.list hq
    obtain ⟨u, hu, ru⟩ := rv.get hx
    obtain ⟨f0, f1, f2, f3, f4, f5⟩ := hf it (List.mem_singleton.mpr rfl)
    refine wpAny_pyNext_list_item st p.isList (x := u) (by simpa using hu) fun h' st' sb => ?_
    obtain ⟨o, e, c, d⟩ := id st'
    refine ⟨u, rfl, go_of (s := { s with heap := h' }) e c d (by decide) ⟨x, H, I.turned (t' := s.toks) (fun b o hb e => (sb.2 b hb).trans e) f0 f1 f3 f4 f5, ru, ⟨rfl, fun ys hy => ?_⟩, st', fun b hb => (hf b hb).1⟩⟩
    rw [I.list_inj hy hq]
    exact hx
  done := by
    rintro X rfl rfl rfl hc i pins s σ H E I hf st ⟨xs, hq, hx⟩
    obtain ⟨its, rv, p, _⟩ := I.list hq
    obtain ⟨f0, f1, f2, f3, f4, f5⟩ := hf it (List.mem_singleton.mpr rfl)
    obtain ⟨x1, hot, hne⟩ := HotC.at2 hc I
    have hl := rv.length
    exact list_end_hot hot (hne it f5) st p.isList (by simp; omega) fun h' eb => ⟨rfl, I.turned (t' := s.toks) (fun b o hb e => eb b o hb e) f0 f1 f3 f4 f5⟩
theorem pi_listH {l : Expr} {tl : TE} (hl : PE X l tl) : PIH X tg l (iList X.K tl) := by
  refine ⟨fun pins s σ H R I h => ?_⟩
  refine thn (hl.run pins s σ H _ I h) fun v s1 ⟨x, H1, I1, r1, a, hx, ⟨xs, hq⟩, q⟩ => ?_
  subst hx
  cases r1
  obtain ⟨its, rv, p, _⟩ := I1.list hq
  refine wpAny_pyIter_list p.isList ⟨s1.heap.objs.size, [s1.heap.objs.size], _, _, H1, rfl, I1.kept (t' := s1.toks) fun b o e => Heap.get?_push_of_some _ e, turn_listH a _, ⟨_, Heap.get?_push_size _ rfl, rfl, rfl⟩, fun b hb => ?_, q⟩
  rw [List.mem_singleton.mp hb]
  exact I1.fpOk (Nat.le_refl _) (I1.hok.fresh (Nat.le_refl _))
end
/-! ### a list comprehension there: its block bears the pins of the def -/
abbrev blkH (X : Cx) (s : Shared) (H : Hp) (scope : Scope) (cenv : Env) (fp : List Addr) : Cx := { X.blk s H scope cenv fp with pn := X.pn }
section
variable {X : Cx}
theorem HotC.blk (c : HotC X) {s : Shared} {H : Hp} {scope : Scope} {cenv : Env} {fp : List Addr} : HotC (blkH X s H scope cenv fp) := c
theorem ok_pn {pn : List (Addr × Obj)} (k : X.Ok) : ({ X with pn := pn } : Cx).Ok := ⟨k.mod, k.kind, k.glob, k.blt, k.above, k.inj, k.has, k.cab, k.hd, k.frames, k.stk, k.exf, k.bs, k.bsz, k.noex, k.exfs, k.funs, k.frf⟩
theorem inv_pn {pn : List (Addr × Obj)} {σ : L2.St} {H : Hp} {s : Shared} (I : Inv X [] σ H s) (h : ∀ p ∈ pn, s.heap.get? p.1 = some p.2 ∧ H p.1 = none ∧ p.1 ≠ X.env.locals ∧ p.1 ∉ X.fs ∧ ∀ v, p.2.data ≠ .cell v) : Inv { X with pn := pn } [] σ H s :=
  ⟨ok_pn I.ok, I.os, I.bare, I.base, I.loc, I.cell, I.free, I.freeC, fun p hp => h p (by simpa using hp), I.hok, I.len⟩
theorem not_frs {pins : List (Addr × Obj)} {σ : L2.St} {H : Hp} {s : Shared} (I : Inv X pins σ H s) {p : Addr × Obj} (hp : p ∈ X.pn ++ pins) : p.1 ∉ frs X.stack := by
  obtain ⟨_, _, h1, h2, _⟩ := I.pin p hp
  rcases I.ok.stk with e | ⟨e, hf⟩
  · rw [e]; exact h2
  · rw [e]
    intro hm
    obtain ⟨env, he, hq⟩ := List.mem_filterMap.mp hm
    rcases List.mem_cons.mp he with rfl | he
    · rw [hf] at hq
      exact h1 (Option.some.inj hq).symm
    · exact h2 (List.mem_filterMap.mpr ⟨env, he, hq⟩)
/-- the block begun, with the pins -/
theorem startH {pins : List (Addr × Obj)} {σ : L2.St} {H : Hp} {s : Shared} {scope : Scope} {own : List (Str × Nat)} {fp : List Addr} (I : Inv X pins σ H s) (ok : BlkOk X.N X.env.scope scope own) (hN : X.N.Nodup) (hfp : ∀ b ∈ fp, FpOk X pins H b ∧ b < s.heap.objs.size) :
    Inv (blkH X s H scope (compEnvC scope (cellsFrom (s.heap.objs.size + 1) scope.names (cloFrom X.env.cells scope.names [])) s.heap.objs.size X.env) fp) [] (wipe σ (own.map (·.2))) H { s with heap := pushCells (s.heap.push { cls := .type "dict", data := .dict #[] }) scope.names } := by
  refine inv_pn (block_start I ok hN hfp) fun p hp => ?_
  obtain ⟨h1, h2, h3, h4, h5⟩ := I.pin p (List.mem_append_left _ hp)
  exact ⟨pushCells_keeps _ _ _ _ (Heap.get?_push_of_some _ h1), h2, Nat.ne_of_lt (Heap.lt_size h1), not_frs I (List.mem_append_left _ hp), h5⟩
/-- the walk of the block: from a turn's end to the next turn -/
theorem lc_coreH {pins : List (Addr × Obj)} {s : Shared} {σ : L2.St} {H : Hp} {Q : VK} {elt tg iter : Expr} {ifs : List Expr} {scope : Scope} {own : List (Str × Nat)} {pos pos' : Pos} {wi : TI} {g : TG} {tt : TT} {te : TE} {Qf : Value → Shared → Prop}
    (hc : HotC X) (hN : X.N.Nodup) (I : Inv X pins σ H s) (hi : PIH X tg iter wi) (ok : BlkOk X.N X.env.scope scope own)
    (hg : ∀ (s : Shared) (H : Hp) (C : Addr) (cl : List (Str × Addr)) (fp : List Addr), PG (blkH X s H scope (compEnvC scope cl C X.env) fp) tg g) (ht : ∀ (s : Shared) (H : Hp) (C : Addr) (cl : List (Str × Addr)) (fp : List Addr), PTs (blkH X s H scope (compEnvC scope cl C X.env) fp) ifs tt)
    (he : ∀ (s : Shared) (H : Hp) (C : Addr) (cl : List (Str × Addr)) (fp : List Addr), PE (blkH X s H scope (compEnvC scope cl C X.env) fp) elt te) (hs : ∀ x, foldedSetIterable iter X.env x = pure x)
    (h : tLc wi g tt te (own.map (·.2)) σ H Q)
    (hRR : ∀ D C s' m H', Inv X pins σ H' s' → Q (.ref D) H' → s'.heap.Ns C m → FpOk X pins H' C → compPost (model X.prog X.w) X.A X.xe none Qf (.ref D) C (.ok .next) s') :
    wpAny (model X.prog X.w) X.A (comprehension (.ListComp elt [⟨tg, iter, ifs, 0⟩] scope pos) scope X.env pos' (newList []) false (eval iter X.env) none) Qf X.xe s := by
  have cells : ∀ y ∈ scope.names, y.2 = .free → ∃ c, X.env.cells.lookup y.1 = some c := fun y hy e => I.ok.has _ (ok.free y hy e)
  refine wpAny_comprehension_free rfl hs (closure_ok cells) ok.kind (fun y hy e => by rw [ok.uniq y hy, e]) (thn (hi.run pins s σ H _ I h) fun xv s1 hx => thn hx fun itv s2 h2 => ?_)
  obtain ⟨it, fp, tn, J, H2, rfl, I2, T, st2, f2, q⟩ := h2
  refine wpAny_newObj_type (newEnv_comp ?_) (by show 0 ≤ sizeLine; decide)
  -- the list that grows
  obtain ⟨W, ⟨m0, w0⟩, turn⟩ := q s2.heap.objs.size (I2.hok.fresh (Nat.le_refl _))
  obtain ⟨s3, hs3⟩ : ∃ s3 : Shared, s3 = { s2 with heap := s2.heap.push { cls := .type "list", data := .seq ([] : List Value).toArray } } := ⟨_, rfl⟩
  rw [← hs3]
  have I3 : Inv X pins σ (upd H2 s2.heap.objs.size (.lst [])) s3 := by
    rw [hs3]
    exact I2.laid (t' := s2.toks) (fun b o e => Heap.get?_push_of_some _ e) (Nat.le_refl _) ⟨Nat.zero_le _, [], 0, .nil, Heap.get?_push_size _ rfl⟩
  have f3 : ∀ b ∈ fp, FpOk X pins (upd H2 s2.heap.objs.size (.lst [])) b ∧ b < s3.heap.objs.size := fun b hb => by
    obtain ⟨o, e, _⟩ := T.obj _ _ st2 b hb
    have hlt := Heap.lt_size e
    rw [hs3]
    exact ⟨⟨(upd_ne (Nat.ne_of_lt hlt)).trans (f2 b hb).1, (f2 b hb).2⟩, Nat.lt_trans hlt (by rw [Heap.size_push]; exact Nat.lt_succ_self _)⟩
  have st3 : tn 0 s3.heap := T.keep _ _ _ st2 fun b _ o e => by rw [hs3]; exact Heap.get?_push_of_some _ e
  clear hs3 I2 st2 f2 q
  generalize s2.heap.objs.size = D at *
  generalize upd H2 D (.lst []) = H3 at *
  have I4 := startH I3 ok hN f3
  obtain ⟨cl, hcl⟩ : ∃ cl, cl = cellsFrom (s3.heap.objs.size + 1) scope.names (cloFrom X.env.cells scope.names []) := ⟨_, rfl⟩
  rw [← hcl] at I4
  have pg := hg s3 H3 s3.heap.objs.size cl fp
  have pt := ht s3 H3 s3.heap.objs.size cl fp
  have pe := he s3 H3 s3.heap.objs.size cl fp
  have cB : HotC (blkH X s3 H3 scope (compEnvC scope cl s3.heap.objs.size X.env) fp) := hc
  show codeAny _ _ (.compStart (.ListComp elt [⟨tg, iter, ifs, 0⟩] scope pos) 0 (.ref it) (.ref D) (compEnvC scope (cellsFrom (s3.heap.objs.size + 1) scope.names (cloFrom X.env.cells scope.names [])) s3.heap.objs.size X.env)) (compPost (model X.prog X.w) X.A X.xe none Qf (.ref D) s3.heap.objs.size) { s3 with heap := pushCells (s3.heap.push { cls := .type "dict", data := .dict #[] }) scope.names }
  rw [← hcl]
  have cL : (compEnvC scope cl s3.heap.objs.size X.env).locals = s3.heap.objs.size := rfl
  generalize compEnvC scope cl s3.heap.objs.size X.env = ce at *
  obtain ⟨s4, hs4⟩ : ∃ s4 : Shared, s4 = { s3 with heap := pushCells (s3.heap.push { cls := .type "dict", data := .dict #[] }) scope.names } := ⟨_, rfl⟩
  have st4 : tn 0 s4.heap := T.keep _ _ _ st3 fun b _ o e => by rw [hs4]; exact pushCells_keeps _ _ _ _ (Heap.get?_push_of_some _ e)
  rw [← hs4] at I4 ⊢
  clear hs4
  have walk : ∀ {σ' : L2.St} {H' : Hp} {s' : Shared}, Inv (blkH X s3 H3 scope ce fp) [] σ' H' s' → (∀ b ∈ fp, H' b = none) → ∀ b ∈ fp, FpOk (blkH X s3 H3 scope ce fp) [] H' b := fun I' hn b hb =>
    ⟨hn b hb, (I'.ok.exf b hb).1, I'.ok.exfs b hb, .inl hb, (I'.ok.exf b hb).2, fun p hp => (f3 b hb).1.2.2.2.2.2 p (List.mem_append_left _ (by simpa using hp))⟩
  have loop : codeAny (model X.prog X.w) X.A (.compLoop (.ListComp elt [⟨tg, iter, ifs, 0⟩] scope pos) 0 (.ref it) (.ref D) ce) (compPost (model X.prog X.w) X.A X.xe none Qf (.ref D) s3.heap.objs.size) s4 := by
    refine compLoop_any (fun n s' => ∃ i H', Inv (blkH X s3 H3 scope ce fp) [] (wipe σ (own.map (·.2))) H' s' ∧ tn i s'.heap ∧ (∀ b ∈ fp, H' b = none) ∧ W i n H') ?_ m0 ⟨0, H3, I4, st4, fun b hb => (f3 b hb).1.1, w0⟩
    rintro n s5 ⟨i, H5, I5, st5, n5, w5⟩
    have f5 := walk I5 n5
    rcases turn i n H5 w5 with ⟨stop, qq⟩ | ⟨go, Nx, hNx, step⟩
    · -- no turn more: the def goes on with the list
      refine thnF (T.done (blkH X s3 H3 scope ce fp) rfl rfl rfl cB i [] s5 _ H5 (fun _ _ => False) I5 f5 st5 stop) fun r s6 ⟨hr, I6⟩ => ?_
      subst hr
      obtain ⟨m, hm, _⟩ := I6.loc
      have nC : H5 s3.heap.objs.size = none := by
        rw [← cL]
        exact I6.free
      have hm : s6.heap.Ns ce.locals m := hm
      rw [cL] at hm
      refine hRR D s3.heap.objs.size s6 m H5 (I3.call' (ch := fp) I6.os I6.base I6.hok I6.bare fun b hb => ?_) qq hm (I3.fpOk (Nat.le_refl _) nC)
      obtain ⟨_, a1, _, a3, a4, a5⟩ := (f3 b hb).1
      exact ⟨a3, a1, a4, a5⟩
    · refine thnF (T.item (blkH X s3 H3 scope ce fp) rfl rfl rfl cB i [] s5 _ H5 (fun _ _ => False) I5 f5 st5 go) fun r s6 ⟨u, hr, h6⟩ => ?_
      subst hr
      refine thnF h6 fun _ s7 ⟨x, H7, I7, r7, y7, st7, n7⟩ => ?_
      refine thnF (pg.run _ s7 _ H7 x u _ (I7.pinned (walk I7 n7) (T.obj _ _ st7)) r7 (step x H7 y7)) fun _ s8 ⟨σ8, H8, I8, hw8, q8⟩ => ?_
      refine thnF (pt.run _ s8 σ8 H8 _ I8 q8) fun b s9 ⟨H9, I9, q9⟩ => ?_
      have next : ∀ {s' : Shared} {H' : Hp}, Inv (blkH X s3 H3 scope ce fp) ([] ++ pinsAt fp s7.heap) σ8 H' s' → Nx H' → ∃ m, m < n ∧ ∃ i H', Inv (blkH X s3 H3 scope ce fp) [] (wipe σ (own.map (·.2))) H' s' ∧ tn i s'.heap ∧ (∀ b ∈ fp, H' b = none) ∧ W i m H' := fun {s' H'} I' nx => by
        obtain ⟨m', hm, w'⟩ := hNx H' nx
        have held : ∀ b ∈ fp, ∀ o, s7.heap.get? b = some o → s'.heap.get? b = some o ∧ H' b = none := fun b hb o e =>
          let z := I'.pin (b, o) (List.mem_append_right _ (List.mem_append_right _ (mem_pinsAt hb e)))
          ⟨z.1, z.2.1⟩
        refine ⟨m', hm, i + 1, H', (I'.unpinned (pins := [])).weak (by rw [← hw8, wipe_length]) (fun j v e => ?_), T.keep _ _ _ st7 fun b hb o e => (held b hb o e).1, fun b hb => ?_, w'⟩
        · rw [← hw8] at e
          exact (wipe_some e).1
        · obtain ⟨o, e, _⟩ := T.obj _ _ st7 b hb
          exact (held b hb o e).2
      cases b with
      | false => exact next I9 q9
      | true =>
        refine thnF (pe.run _ s9 σ8 H9 _ I9 q9) fun z s10 ⟨yv, H10, I10, r10, acc, hD10, hz10, nx⟩ => ?_
        exact app_ok (X := blkH X s3 H3 scope ce fp) I10 hD10 hz10 r10 fun s11 I11 => next I11 nx
  exact codeAny_compStart_list loop (T.self X.A 0 _ _ _ st4 loop)
/-- [elt for tg in iter if ..] while an error is handled -/
theorem pe_lcH {elt tg iter : Expr} {ifs : List Expr} {scope : Scope} {own : List (Str × Nat)} {pos : Pos} {wi : TI} {g : TG} {tt : TT} {te : TE} (hc : HotC X) (hN : X.N.Nodup) (hi : PIH X tg iter wi) (ok : BlkOk X.N X.env.scope scope own)
    (hg : ∀ (s : Shared) (H : Hp) (C : Addr) (cl : List (Str × Addr)) (fp : List Addr), PG (blkH X s H scope (compEnvC scope cl C X.env) fp) tg g) (ht : ∀ (s : Shared) (H : Hp) (C : Addr) (cl : List (Str × Addr)) (fp : List Addr), PTs (blkH X s H scope (compEnvC scope cl C X.env) fp) ifs tt)
    (he : ∀ (s : Shared) (H : Hp) (C : Addr) (cl : List (Str × Addr)) (fp : List Addr), PE (blkH X s H scope (compEnvC scope cl C X.env) fp) elt te) (hs : ∀ x, foldedSetIterable iter X.env x = pure x := by intro _; rfl) :
    PE X (.ListComp elt [⟨tg, iter, ifs, 0⟩] scope pos) (tLc wi g tt te (own.map (·.2))) := by
  refine ⟨fun pins s σ H Q I h => ?_⟩
  rw [eval_ListComp]
  refine lc_coreH hc hN I hi ok hg ht he hs h fun D C s' m H' I' q hn ⟨f0, f1, f2, f3, f4, f5⟩ => ⟨m, hn, fun h'' sb => ?_⟩
  exact ⟨.ref D, H', I'.turned (t' := s'.toks) (fun b o hb e => (sb.2 b hb).trans e) f0 f1 f3 f4 f5, rfl, q⟩
end
end LH
namespace LL
open PySem PySem.Spec PyProof.Rows L2 He Evl ND
/-! ### the entries kept as data -/
def rLof (K : PySem.W.Frag) : List V → Hp → VK → Prop := fun xs H Q => ∃ p ys, xs = [V.ref p] ∧ (SqL K H p ys ∨ SqT K H p ys) ∧ ∀ l, H l = none → Q (.ref l) (upd H l (.lst ys))
def keptD (e : Ent) : PyData := .tuple [e.1.data, .list (e.2.map ratD), .bool true]
def scKV : Scope := { kind := .function, names := [(".0", .local), ("_law_view", .local), ("_law_lots", .local), ("list", .globalImplicit), ("isinstance", .globalImplicit)], isGenerator := false, isCoroutine := false }
def spKept (K : PySem.W.Frag) : Sp := fun us H Q _ => ∃ (B : Hp) (a : Addr) (vs : List V) (es : List Ent), us = [.ref a] ∧ Ex B H ∧ SqL K B a vs ∧ Paired (EinAt K B B) vs es ∧ es.length ≤ 1000 ∧ (∀ e ∈ es, e.2.length ≤ 1000) ∧ ∀ u B2 H2, Stp [] B H B2 H2 → Dp K B2 u (.list (es.map keptD)) → Q u H2
section
variable {w : World} {K : PySem.W.Frag} {mg : Str → Option Value} {base : Heap}
abbrev tKept (K : PySem.W.Frag) : TE := tLc (iList K (tVar 0)) (gTup K 2 (gCons (gName 2) (gCons (gName 3) gNil))) tYes (tTup (tCons (tVar 2) (tCons (tLc (iList K (tCB (rLof K) (tCons (tVar 3) tNil))) (gName 1) tYes (tTup (tCons (tFld K (tVar 1) "num") (tCons (tFld K (tVar 1) "den") tNil))) [1]) (tCons (tCB (rIsi K) (tCons (tVar 3) (tCons (tC (V.ty "list")) tNil))) tNil)))) [2, 3]
theorem kept_ret (T : Txt K mg) {B H : Hp} {a : Addr} {vs : List V} {es : List Ent} {D : Ends} (eB : Ex B H) (ha : SqL K B a vs) (hv : Paired (EinAt K B B) vs es) (hl : es.length ≤ 1000) (hz : ∀ e ∈ es, e.2.length ≤ 1000) (k : ∀ u B2 H2, Stp [] B H B2 H2 → Dp K B2 u (.list (es.map keptD)) → D.rt u H2) :
    tRet (tKept K) D [some (.ref a), none, none, none] H := by
  have hvl : vs.length = es.length := Paired.length hv
  refine gws_ret (ms := []) (W := W0) (B := B) (R := fun u B2 => Dp K B2 u (.list (es.map keptD))) eB ?_ fun u B2 H2 s2 w2 hu => k u B2 H2 s2 hu
  refine gw_lcL (gw_val (ev_var rfl)) fun u1 B2 e2 hu => ?_
  subst hu
  refine ⟨a, vs, fun i v B3 => ∃ e, es[i]? = some e ∧ Dp K B3 v (keptD e), rfl, ex_l e2 ha, by omega, fun i v B1 B2 e ⟨en, g1, g2⟩ => ⟨en, g1, dp_mono e g2⟩, fun i y hy B3 e3 => ?_, fun D ys B3 e3 hD hyl hre => .lst (sq_of hD) (dpa_of (by rw [List.length_map]; omega) fun i y d hy hd => ?_)⟩
  · obtain ⟨en, hen, hin⟩ := paired_get hv hy
    have hz2 := hz en (List.mem_of_getElem? hen)
    have e23 := e2.trans e3
    obtain ⟨t, b, l, ws, rfl, h1, h2, h3, h4⟩ := einb_mono hin e23
    have hwl : ws.length = en.2.length := Paired.length h4
    refine LcE.pair h1 rfl ?_
    refine gw_tup (S := fun us B4 => ∃ x, us = [.ref b, x, .bl true] ∧ Dp K B4 x (.list (en.2.map ratD))) (gw_c1 (v := .ref b) (ev_var rfl) (gw_cons (R1 := fun x B4 => Dp K B4 x (.list (en.2.map ratD))) ?_ fun x B4 e4 hx => gw_c1 (v := .bl true) (ev_isL (ev_var rfl) (ex_l e4 h3)) (gw_nil fun B5 e5 => ⟨x, rfl, dp_mono e5 hx⟩))) fun us B4 e4 ⟨x, hus, hx⟩ => ?_
    · refine gw_lcL (Rl := fun u B4 => ∃ l2, u = .ref l2 ∧ B4 l2 = some (.lst ws)) ?_ fun u B4 e4 ⟨l2, hu, hl2⟩ => ?_
      · intro B4 H4 e4 w4 Q q
        refine ⟨_, rfl, l, ws, rfl, .inl (ex_l (e4.trans w4) h3), fun l2 nl2 => ?_⟩
        obtain ⟨s5, w5⟩ := Wld.new (ms := []) (W := W0) (o := .lst ws) w4 nl2
        exact q _ _ _ s5 w5 ⟨l2, rfl, upd_same⟩
      · subst hu
        refine ⟨l2, ws, fun j v B5 => ∃ q, en.2[j]? = some q ∧ Dp K B5 v (ratD q), rfl, sq_of hl2, by omega, fun i v B1 B2 e ⟨q, g1, g2⟩ => ⟨q, g1, dp_mono e g2⟩, fun j y hy B5 e5 => ?_, fun D ys B5 e5 hD hyl hre => .lst (sq_of hD) (dpa_of (by rw [List.length_map]; omega) fun i y d hy hd => ?_)⟩
        · obtain ⟨q, hq, hyq⟩ := paired_get h4 hy
          obtain ⟨c, dx, rfl, hc⟩ := ratAt_mono (e4.trans e5) hyq
          exact LcE.name rfl ((gw_pair (gw_val (ev_fldI (ev_var rfl) hc T.c_Ratio T.a_Ratio_num (rf_num _ _))) (fun B8 e8 => gw_val (ev_fldI (ev_var rfl) (e8 _ _ hc) T.c_Ratio T.a_Ratio_den (rf_den _ _))) rfl rfl).imp fun v B8 e8 ⟨c, hv, hc⟩ => ⟨q, hq, by rw [hv]; exact .tup (st_of hc) (.cons (.int _) (.cons (.int _) .nil))⟩)
        · obtain ⟨q, g1, g2⟩ := hre i y hy
          rw [List.getElem?_map, g1] at hd
          cases hd
          exact g2
    · subst hus
      exact ⟨(show 3 ≤ 100000 by decide), fun B5 t e5 ht => ⟨en, hen, .tup (st_of ht) (.cons (dp_mono (e4.trans e5) h2.2.2) (.cons (dp_mono e5 hx) (.cons (.bl _) .nil)))⟩⟩
  · obtain ⟨e, g1, g2⟩ := hre i y hy
    rw [List.getElem?_map, g1] at hd
    cases hd
    exact g2
theorem fn_l_kept (T : Txt K mg) : Fn P w K mg base 4 (ga K "_law_kept") (spKept K) := by
  refine fn_def T.d_l_kept sc_l_kept (fun _ _ _ _ _ _ us hl => match us, hl with | [_], _ => rfl) (fun vs H Q E h => ?_) (fun cdv A outer s H vs Q E hr h => ?_)
  · obtain ⟨_, _, _, _, rfl, _⟩ := h
    rfl
  obtain ⟨B, a, vs, es, rfl, eB, ha, hv, hl, hz, k⟩ := h
  have nd := sc_l_kept.nd
  have hbig : (100000 : Nat) ≤ sizeLine := by decide
  refine ⟨_, pss_one (ps_ret (pe_lc (own := [("_law_view", 2), ("_law_lots", 3)]) (g := (gTup K 2 (gCons (gName 2) (gCons (gName 3) (gNil))))) (tt := tYes) rfl nd (pi_list (pv 0)) (blkOk_by (N := n_l_kept) (sc := defScope s_l_kept) (by decide +kernel)) (fun _ _ _ _ _ => pg_tup (n := 2) rfl (pgs_cons (pg_name (i := 2) nd rfl (by first | exact Or.inl rfl | exact Or.inr rfl)) (pgs_cons (pg_name (i := 3) nd rfl (by first | exact Or.inl rfl | exact Or.inr rfl)) pgs_nil))) (fun _ _ _ _ _ => pts_nil) (fun _ _ _ _ _ => pe_tup (pa_cons (pv 2) (pa_cons (pe_lc (own := [("_law_lot", 1)]) (wi := iList K (tCB (rLof K) (tCons (tVar 3) tNil))) (g := gName 1) (tt := tYes) rfl nd (pi_list (pe_callTy (call_list_ofK K : CallR _ (.type "list") (rLof K)) (by rfl) T.f_list (by decide +kernel) (pa_cons (pv 3) pa_nil))) (blkOk_by (N := n_l_kept) (sc := scKV) (by decide +kernel)) (fun _ _ _ _ _ => pg_name (i := 1) nd rfl (by first | exact Or.inl rfl | exact Or.inr rfl)) (fun _ _ _ _ _ => pts_nil) (fun _ _ _ _ _ => pe_tup (pa_cons (pek_fld K (pv 1) rfl) (pa_cons (pek_fld K (pv 1) rfl) pa_nil)))) (pa_cons (pe_callB (callk_isi K) (by rfl) T.f_isinstance (by decide +kernel) (pa_cons (pv 3) (pa_cons (pe_bltn (v := .ty "list") rfl T.f_list (by decide +kernel) rfl) pa_nil))) pa_nil)))))), ?_⟩
  exact kept_ret T eB ha hv hl hz k
end
end LL
namespace LL
open PySem PySem.Spec PyProof.Rows L2 He Evl ND
/-! ### the entries kept, while an error is handled -/
section
variable {w : World} {K : PySem.W.Frag} {mg : Str → Option Value} {base : Heap}
theorem kept_len : ∀ vs H Q E, spKept K vs H Q E → vs.length = 1 := fun vs H Q E h => by
  obtain ⟨_, _, _, _, rfl, _⟩ := h
  rfl
theorem fn_keptH (T : Txt K mg) : ∃ fd, (∃ fd', FunD K "_law_kept" "_law_kept" (defArgs s_l_kept) (defBody s_l_kept) (defScope s_l_kept) (List.map (He.Dv.v K) []) [] (ga K "_law_kept") fd') ∧ Binds K fd ["_law_entries"] [] ∧ L2H.FnH P w K mg base CX0 4 (ga K "_law_kept") fd ["_law_entries"] (spKept K) := by
  obtain ⟨fd, F⟩ := T.d_l_kept
  have bn := FunD.bindsN (ps := ["_law_entries"]) F (fun _ _ _ _ _ _ us hl => match us, hl with | [_], _ => rfl)
  refine ⟨fd, ⟨fd, F⟩, bn, ?_⟩
  obtain ⟨oc, od, dV, kV, doc, pm, an, cdv, ct, osl, rfl, lk, hcd, _, _⟩ := F.ex
  refine L2H.fn_ofH lk hcd sc_l_kept kept_len fun A outer s H vs Q E p hp hr h => ?_
  obtain ⟨B, a, vs, es, rfl, eB, ha, hv, hl, hz, k⟩ := h
  have nd := sc_l_kept.nd
  have hot : L2H.HotC (L2H.cxH CX0 P w K mg base n_l_kept "_law_kept" (defScope s_l_kept) (ga K "_law_kept") cdv A outer s H E p) := ⟨p, hp, List.mem_singleton.mpr rfl⟩
  refine ⟨_, pss_one (ps_ret (LH.pe_lcH (own := [("_law_view", 2), ("_law_lots", 3)]) (g := (gTup K 2 (gCons (gName 2) (gCons (gName 3) (gNil))))) (tt := tYes) hot nd (LH.pi_listH (pv 0)) (blkOk_by (N := n_l_kept) (sc := defScope s_l_kept) (by decide +kernel)) (fun _ _ _ _ _ => LH.pg_tupH (n := 2) (LH.HotC.blk hot) (pgs_cons (pg_name (i := 2) nd rfl (by first | exact Or.inl rfl | exact Or.inr rfl)) (pgs_cons (pg_name (i := 3) nd rfl (by first | exact Or.inl rfl | exact Or.inr rfl)) pgs_nil))) (fun _ _ _ _ _ => pts_nil) (fun _ _ _ _ _ => pe_tup (pa_cons (pv 2) (pa_cons (LH.pe_lcH (own := [("_law_lot", 1)]) (wi := iList K (tCB (rLof K) (tCons (tVar 3) tNil))) (g := gName 1) (tt := tYes) (LH.HotC.blk hot) nd (LH.pi_listH (pe_callTy (call_list_ofK K : CallR _ (.type "list") (rLof K)) (by rfl) T.f_list (by decide +kernel) (pa_cons (pv 3) pa_nil))) (blkOk_by (N := n_l_kept) (sc := scKV) (by decide +kernel)) (fun _ _ _ _ _ => pg_name (i := 1) nd rfl (by first | exact Or.inl rfl | exact Or.inr rfl)) (fun _ _ _ _ _ => pts_nil) (fun _ _ _ _ _ => pe_tup (pa_cons (pek_fld K (pv 1) rfl) (pa_cons (pek_fld K (pv 1) rfl) pa_nil)))) (pa_cons (pe_callB (callk_isi K) (by rfl) T.f_isinstance (by decide +kernel) (pa_cons (pv 3) (pa_cons (pe_bltn (v := .ty "list") rfl T.f_list (by decide +kernel) rfl) pa_nil))) pa_nil)))))), ?_⟩
  exact kept_ret T eB ha hv hl hz k
/-- _law_kept(..) called there -/
theorem pe_keptH {K : PySem.W.Frag} {mg : Str → Option Value} {X : Cx} {e : Expr} {ta : TA} {p pos : Pos} (T : Txt K mg) (hr : L2H.RoomH 4 X.A) (hc : L2H.HotC X) (ha : PA X [e] ta) (hK : X.K = K := by rfl) (hM : X.mg = mg := by rfl) (hP : X.prog = P := by rfl) (hg : Gl X "_law_kept" := by rfl)
    (he : starEach [e] X.env = (false, eval e X.env) :: starEach [] X.env := by rfl) : L2.PE X (.Call (.Name "_law_kept" p) [e] [] pos) (fun σ H Q => ta σ H fun vs H1 => spKept K vs H1 Q fun _ _ _ => False) := by
  subst hK hM
  obtain ⟨fd, D, hb, F⟩ := fn_keptH (w := X.w) (base := X.base) T
  rw [← hP] at F
  exact L2H.pe_callH (E := fun _ _ _ _ => False) F hr hc hg T.g_l_kept (kp_of D) hb (fun σ pins H s e s' I hq => hq.elim) ha (by decide) he
end
end LL
namespace LL
open PySem PySem.Spec PyProof.Rows L2 He Evl ND
section
variable {w : World} {K : PySem.W.Frag} {mg : Str → Option Value} {base : Heap}
theorem mk_plan (T : Txt K mg) {B H : Hp} {D : Addr} {us : List V} {es : List Ent} {Q : VK} {E : XK} (eB : Ex B H) (hD : H D = some (.lst us)) (hu : Paired (EinAt K B B) us es) (hl : es.length ≤ 1000) (ok : EntsOk es) (hz : ∀ e ∈ es, e.2.length ≤ 100) (hb : planBad [] 0 es = none)
    (k : ∀ v B2 H2, Stp [] B H B2 H2 → PlanAt w K B2 v es → Q v H2) : ∀ x dx, H x = none → H dx = none → dx ≠ x → spPI w K [.ref x, .ref D] (upd (upd H dx (.own x)) x (.ins (ga K "Plan") dx [])) (fun v H2 => v = .non ∧ Q (.ref x) H2) E :=
  mk_planG T 20 eB hD hu hl (by decide) (fun e he => ⟨by
    have := hz e he
    have := Nat.mul_le_mul_right (20 + 1) this
    omega, fun q hq => lotq_sz (ok e he q hq)⟩) hb k
end
end LL
namespace LL
open PySem PySem.Spec PyProof.Rows L2 He Evl ND
/-! ### plans without lots -/
theorem sureE_ok (acc : List (List Evt × Nat)) (ms : List Nat) : EntsOk (sureE acc ms) := fun e he q hq => by
  unfold sureE at he
  obtain ⟨p, _, rfl⟩ := List.mem_map.mp he
  rcases sureL_mem hq with rfl | rfl
  · exact lotq_one
  · exact lotq_zero
end LL
/-! zip of a list and a tuple -/
namespace ZM
open PySem PySem.Spec PyProof.Rows L2
/-- a list at a, a tuple at b: at each turn their items in a new pair -/
def ItM (K : PySem.W.Frag) (a b : Addr) : It :=
  ⟨fun i H => ∃ xs ys x y, SqL K H a xs ∧ SqT K H b ys ∧ xs[i]? = some x ∧ ys[i]? = some y,
   fun i H v H' => ∃ T x y, v = .ref T ∧ H T = none ∧ H' = upd H T (.tup [x, y]) ∧ (∀ xs, SqL K H a xs → xs[i]? = some x) ∧ (∀ ys, SqT K H b ys → ys[i]? = some y),
   fun i H => ∃ xs ys : List V, SqL K H a xs ∧ SqT K H b ys ∧ min xs.length ys.length = i⟩
/-- the cells of the iterator, at turn i -/
def CellM (z TI TO i1 i2 a b : Addr) (i : Nat) (h : Heap) : Prop :=
  IsZip h z TI TO .none ∧ IsTupOf2 h TI (.ref i1) (.ref i2) ∧ (∃ u v, IsTupOf2 h TO u v) ∧ h.IsListIter i1 a i ∧ h.IsTupleIter i2 b i
theorem in5 {p : Addr → Prop} {z TI TO i1 i2 : Addr} (h1 : p z) (h2 : p TI) (h3 : p TO) (h4 : p i1) (h5 : p i2) : ∀ c ∈ [z, TI, TO, i1, i2], p c := by
  intro c hc
  simp only [List.mem_cons, List.not_mem_nil, or_false] at hc
  rcases hc with rfl | rfl | rfl | rfl | rfl <;> assumption
section
variable {P : Program} {w : World} {K : PySem.W.Frag} {elts : List Expr} {kk : Nat} {tpos : Pos} {a b z TI TO i1 i2 : Addr}
theorem turnM (S : ZipSep2 z TI TO i1 i2 [i1, a] [i2, b]) (na : a ≠ i1) (nb : b ≠ i2) : Turn P w K (.Tuple elts kk tpos) (ItM K a b) [z, TI, TO, i1, i2] z (CellM z TI TO i1 i2 a b) := by
  refine ⟨List.mem_cons_self, fun i h st => ?_, fun i h h' st k => ?_, ?_, ?_, fun A i s Q E st q => wpAny_pyIter_zip st.1 q⟩
  · obtain ⟨hz, hTI, ⟨u, v, hTO⟩, ⟨o1, e1, _, d1⟩, ⟨o2, e2, _, d2⟩⟩ := st
    exact in5 ⟨_, hz, nofun⟩ ⟨_, hTI, nofun⟩ ⟨_, hTO, nofun⟩ ⟨o1, e1, by rw [d1]; exact nofun⟩ ⟨o2, e2, by rw [d2]; exact nofun⟩
  · obtain ⟨hz, hTI, ⟨u, v, hTO⟩, h1, h2⟩ := st
    exact ⟨k z (by simp) _ hz, k TI (by simp) _ hTI, ⟨u, v, k TO (by simp) _ hTO⟩, h1.at (k i1 (by simp)), h2.at (k i2 (by simp))⟩
  · rintro X rfl rfl rfl hc i pins s σ H E I hf ⟨hz, hTI, hTO, h1, h2⟩ ⟨xs, ys, x, y, hqx, hqy, hx, hy⟩
    obtain ⟨us, ru, p1, _⟩ := I.list hqx
    obtain ⟨vs, rv, p2, _⟩ := I.tuple hqy
    obtain ⟨u, hu, rxu⟩ := ru.get hx
    obtain ⟨v, hv, ryv⟩ := rv.get hy
    have l1 : i < us.length := (List.getElem?_eq_some_iff.mp hu).1
    have l2 : i < vs.length := (List.getElem?_eq_some_iff.mp hv).1
    have hh : X.A.in1.handled = none := I.ok.hd hc
    have W := WalksT.zipD2 (prog := X.prog) (w := X.w) (A := X.A) S (Draws.list hh i1 a na us.toArray) (Draws.tuple hh i2 b nb vs.toArray)
    refine W.item i s _ E (by simp; omega) ⟨hz, hTI, hTO, ⟨h1, p1.isList⟩, ⟨h2, p2⟩⟩ fun T ws h' tk ⟨y1, y2, g1, g2, gw⟩ hT hTup mid kp => ⟨_, rfl, ?_⟩
    have e1 : y1 = u := by
      rw [List.getElem?_toArray, hu] at g1
      exact (Option.some.inj g1).symm
    have e2 : y2 = v := by
      rw [List.getElem?_toArray, hv] at g2
      exact (Option.some.inj g2).symm
    subst e1 e2 gw
    have nT := W.apart i T h' mid
    refine W.go elts kk tpos i T { s with heap := h', toks := tk } _ E mid fun h'' st kp2 => ?_
    have keep : ∀ c o, c ∉ [z, TI, TO, i1, i2] → s.heap.get? c = some o → h''.get? c = some o := fun c o hn hg => by
      have hn' : c ∉ [z, TO, i1, i2] := fun hm => hn (by
        simp only [List.mem_cons, List.not_mem_nil, or_false] at hm ⊢
        rcases hm with h | h | h | h
        · exact .inl h
        · exact .inr (.inr (.inl h))
        · exact .inr (.inr (.inr (.inl h)))
        · exact .inr (.inr (.inr (.inr h))))
      exact kp2 c o hn' (kp c o hn' hg)
    have new : ObjOk X.prog X.w (upd H T (.tup [x, y])) h'' T (.tup [x, y]) := by
      refine ⟨(by show 2 ≤ sizeLine; decide), [y1, y2], .cons rxu (.cons ryv .nil), ?_⟩
      obtain ⟨o, ho, hc', n, hd⟩ := hTup
      exact ⟨o, kp2 T o nT ho, hc', n, hd⟩
    have hfr : H T = none := I.hok.fresh hT
    refine ⟨.ref T, _, I.turnedNew (t' := tk) (ch := [z, TI, TO, i1, i2]) keep hf hT new, rfl, ⟨T, x, y, rfl, hfr, rfl, fun l hl => ?_, fun l hl => ?_⟩, ⟨st.1, st.2.1, st.2.2.1, st.2.2.2.1.1, st.2.2.2.2.1⟩, fun c hcm => ?_⟩
    · rw [I.list_inj hl hqx]; exact hx
    · rw [I.tuple_inj hl hqy]; exact hy
    · have hlt : ∃ o, s.heap.get? c = some o := by
        refine in5 (p := fun c => ∃ o, s.heap.get? c = some o) ⟨_, hz⟩ ⟨_, hTI⟩ ?_ ?_ ?_ c hcm
        · obtain ⟨_, _, h⟩ := hTO; exact ⟨_, h⟩
        · obtain ⟨o, h, _⟩ := h1; exact ⟨o, h⟩
        · obtain ⟨o, h, _⟩ := h2; exact ⟨o, h⟩
      obtain ⟨o, ho⟩ := hlt
      have : c < s.heap.objs.size := Heap.lt_size ho
      rw [upd_ne (Nat.ne_of_lt (Nat.lt_of_lt_of_le this hT))]
      exact (hf c hcm).1
  · rintro X rfl rfl rfl hc i pins s σ H E I hf ⟨hz, hTI, hTO, h1, h2⟩ ⟨xs, ys, hqx, hqy, he⟩
    obtain ⟨us, ru, p1, _⟩ := I.list hqx
    obtain ⟨vs, rv, p2, _⟩ := I.tuple hqy
    have hh : X.A.in1.handled = none := I.ok.hd hc
    have W := WalksT.zipD2 (prog := X.prog) (w := X.w) (A := X.A) S (Draws.list hh i1 a na us.toArray) (Draws.tuple hh i2 b nb vs.toArray)
    have hn : min us.toArray.size vs.toArray.size = i := by
      rw [List.size_toArray, List.size_toArray, ← ru.length, ← rv.length]; exact he
    refine W.done s _ E ?_ fun h' tk kp => ⟨rfl, I.turnedL (t' := tk) (ch := [z, TI, TO, i1, i2]) (fun c o hn hg => kp c o (fun hm => hn ?_) hg) hf⟩
    · rw [hn]; exact ⟨hz, hTI, hTO, ⟨h1, p1.isList⟩, ⟨h2, p2⟩⟩
    · simp only [List.mem_cons, List.not_mem_nil, or_false] at hm ⊢
      rcases hm with h | h | h | h
      · exact .inl h
      · exact .inr (.inr (.inl h))
      · exact .inr (.inr (.inr (.inl h)))
      · exact .inr (.inr (.inr (.inr h)))
end
/-- the walk over zip(list, tuple) -/
def iZipM (K : PySem.W.Frag) (ta : TA) : TI := fun σ H R => ta σ H fun vs H1 => ∃ a b xs ys, vs = [.ref a, .ref b] ∧ SqL K H1 a xs ∧ SqT K H1 b ys ∧ R (ItM K a b) H1
theorem pi_zipM {X : Cx} {e e2 : Expr} {ta : TA} {p pos tpos : Pos} {elts : List Expr} {kk : Nat} (hg : Gl X "zip") (hm : X.mg "zip" = none) (ha : PA X [e, e2] ta)
    (hs : starEach [e, e2] X.env = (false, eval e X.env) :: starEach [e2] X.env := by rfl) (hpl : (backTo pos (starEach [e2] X.env)).any (·.1) = false := by rfl) : PI X (.Tuple elts kk tpos) (.Call (.Name "zip" p) [e, e2] [] pos) (iZipM X.K ta) := by
  constructor
  intro pins s σ H R I h
  have go : ∀ us s1, (∃ vs H1, Inv X pins σ H1 s1 ∧ Vals vs us ∧ ∃ a b xs ys, vs = [.ref a, .ref b] ∧ SqL X.K H1 a xs ∧ SqT X.K H1 b ys ∧ R (ItM X.K a b) H1) → wpAny (model X.prog X.w) X.A (call (.type "zip") us) (fun v s' => wpAny (model X.prog X.w) X.A (pyIter v) (PIE X pins σ (.Tuple elts kk tpos) R) X.xe s') X.xe s1 := by
    rintro us s1 ⟨vs, H1, I1, r, a, b, xs, ys, rfl, hx, hy, q⟩
    obtain ⟨u1, u2, rfl, r1, r2⟩ := vals2 r
    cases (show u1 = Value.ref a from r1)
    cases (show u2 = Value.ref b from r2)
    obtain ⟨its, rv, p1, _⟩ := I1.list hx
    obtain ⟨its2, rv2, p2, _⟩ := I1.tuple hy
    have la : a < s1.heap.objs.size := p1.lt
    have lb : b < s1.heap.objs.size := by obtain ⟨o, ho, _⟩ := id p2; exact Heap.lt_size ho
    refine zip_begins2 (begins_list a its.toArray) (begins_tuple b its2.toArray) p1.isList p2 fun h' hz hTI hTO g1 g2 hsz hk => wpAny_pyIter_zip hz ?_
    have S := zip_sep2 (N := s1.heap.objs.size) (fp1 := [a]) (fp2 := [b]) (fun c hc => by rw [List.mem_singleton.mp hc]; exact la) (fun c hc => by rw [List.mem_singleton.mp hc]; exact lb)
    refine ⟨_, [s1.heap.objs.size + 4, s1.heap.objs.size + 2, s1.heap.objs.size + 3, s1.heap.objs.size, s1.heap.objs.size + 1], _, _, H1, rfl, I1.kept (t' := s1.toks) hk, turnM S (Nat.ne_of_lt la) (show b ≠ s1.heap.objs.size + 1 from Nat.ne_of_lt (Nat.lt_succ_of_lt lb)), ⟨hz, hTI, ⟨_, _, hTO⟩, ⟨_, g1, rfl, rfl⟩, ⟨_, g2, rfl, rfl⟩⟩, ?_, q⟩
    have new : ∀ n, FpOk X pins H1 (s1.heap.objs.size + n) := fun n => I1.fpOk (Nat.le_add_right _ _) (I1.hok.fresh (Nat.le_add_right _ _))
    exact in5 (new 4) (new 2) (new 3) (new 0) (new 1)
  exact Call_ (ld_blt I hg hm PyProof.Rows.boot_zip (PyProof.Rows.callWith_type1 (thn (ha.run pos pins s σ H _ I h) fun us s1 ⟨vs, H1, I1, r1, q1⟩ => go us s1 ⟨vs, H1, I1, r1, q1⟩) hs hpl))
theorem walk_zipM {K : PySem.W.Frag} {a b : Addr} {xs ys : List V} {n : Nat} (hn : n = min xs.length ys.length) : Walk (ItM K a b) n (fun H => SqL K H a xs ∧ SqT K H b ys) (YPair (fun i => xs[i]?) (fun i => ys[i]?)) := by
  subst hn
  refine ⟨fun i H hi q => ⟨xs, ys, xs[i]'(by omega), ys[i]'(by omega), q.1, q.2, by simp, by simp⟩, fun H q => ⟨xs, ys, q.1, q.2, rfl⟩, ?_⟩
  rintro i H v H' _ q ⟨T, x, y, h1, h2, h3, h4, h5⟩
  exact ⟨T, x, y, h1, h2, h3, h4 xs q.1, h5 ys q.2⟩
end ZM
namespace LL
open PySem PySem.Spec PyProof.Rows L2 He Evl ND
section
variable {w : World} {K : PySem.W.Frag} {mg : Str → Option Value} {base : Heap}
def spSure (w : World) (K : PySem.W.Frag) : Sp := fun us H Q _ => ∃ (B : Hp) (a b : Addr) (vs : List V) (acc : List VN) (ms : List Nat), us = [.ref a, .ref b] ∧ Ex B H ∧ SqL K B a vs ∧ PvAt K B vs acc ∧ SqL K B b (ms.map fun m => V.int (m : Nat)) ∧ acc.length = ms.length ∧ acc.length ≤ 1000 ∧ (acc.map (·.1)).Nodup ∧ (∀ p ∈ acc, p.2 ≤ 12) ∧ (∀ p ∈ acc.zip ms, p.2 < p.1.2) ∧
  ∀ v B2 H2, Stp [] B H B2 H2 → PlanAt w K B2 v (sureE acc ms) → Q v H2
theorem fn_sure (T : Txt K mg) : Fn P w K mg base 8 (ga K "sure") (spSure w K) := by
  refine fn_def T.d_sure sc_sure (fun _ _ _ _ _ _ us hl => match us, hl with | [_, _], _ => rfl) (fun vs H Q E h => ?_) (fun cdv A outer s H vs Q E hr h => ?_)
  · obtain ⟨_, _, _, _, _, _, rfl, _⟩ := h
    rfl
  obtain ⟨B, a, b, vs, acc, ms, rfl, eB, ha, hpv, hb, hlen, hal, hnd, h12, hlt, k⟩ := h
  have nd := sc_sure.nd
  have hbig : (100000 : Nat) ≤ sizeLine := by decide
  refine ⟨_, pss_cons (ps_set (i := 2) nd rfl (by first | exact Or.inl rfl | exact Or.inr rfl) (pe_lst pa_nil))
      (pss_cons (ps_for (passes_of rfl) rfl (pi_zip (by rfl) T.f_zip (pa_cons (pv 0) (pa_cons (pv 1) pa_nil))) (pg_tup rfl (pgs_cons (pg_name (i := 3) nd rfl (by first | exact Or.inl rfl | exact Or.inr rfl)) (pgs_cons (pg_name (i := 4) nd rfl (by first | exact Or.inl rfl | exact Or.inr rfl)) pgs_nil))) (pss_one (ps_expr (pe_bm PySem.F.plainAttrs_list PySem.F.slot_list_append PySem.F.type_list_append mt_append (pv 2) (pa_cons (pe_tup (pa_cons (pe_ix ix_tup (pv 3) (pe_int) (fun _ _ => rfl)) (pa_cons (pe_lc (own := [("part", 5)]) (g := gName 5) (tt := tYes) rfl nd (pi_range1 rfl T.f_range (pa_cons (pe_ix ix_tup (pv 3) (pe_int) (fun _ _ => rfl)) pa_nil)) (blkOk_by (N := n_sure) (sc := defScope s_sure) (by decide +kernel)) (fun _ _ _ _ _ => pg_name (i := 5) nd rfl (by first | exact Or.inl rfl | exact Or.inr rfl)) (fun _ _ _ _ _ => pts_nil) (fun _ _ _ _ _ => StX.pe_makeR T.m_Ratio (fn_RI1 T) (hr.mono (by decide)) rfl T.g_Ratio pcF (pa_cons (pe_callTy call_int1 (by rfl) T.f_int (by decide +kernel) (pa_cons (pe_cmpR op_eq (pv 5) (pv 4) (nomark _)) pa_nil)) pa_nil))) pa_nil))) pa_nil)))))
      (pss_one (ps_ret (StX.pe_makeR T.m_Plan (fn_Plan_init T) (hr.mono (by decide)) rfl T.g_Plan pc (pa_cons (pv 2) pa_nil))))), ?_⟩
  refine ⟨(show 0 ≤ sizeLine by omega), fun L nL => ?_⟩
  have exL : Ex B (upd H L (.lst [])) := Ex.mut eB (ex_none eB nL)
  have hvl : vs.length = acc.length := Paired.length hpv
  refine ⟨_, rfl, _, rfl, a, b, vs, _, rfl, ex_l exL ha, ex_l exL hb, ?_⟩
  refine for_it (walk_zip (xs := vs) (ys := ms.map fun m => V.int (m : Nat)) (n := vs.length) (by rw [List.length_map]; omega)) (fun i σ H' => ∃ (B' : Hp) (us : List V) (u3 u4 : Option V), Stp [L] B (upd H L (.lst [])) B' H' ∧ H' L = some (.lst us) ∧ Paired (EinAt K B' B') us (sureE (acc.take i) (ms.take i)) ∧ σ = [some (.ref a), some (.ref b), some (.ref L), u3, u4, none]) ⟨B, [], none, none, Stp.refl exL, upd_same, .nil, rfl⟩ ?_ ?_ ?_
  · rintro i σ H' _ ⟨B', us, u3, u4, st, _⟩
    exact ⟨ex_l st.in_ (ex_l st.base ha), ex_l st.in_ (ex_l st.base hb)⟩
  · rintro i x σ H1 H2 hi ⟨B', us, u3, u4, st, hL, hu, rfl⟩ ⟨TT, y, z, rfl, nT, rfl, hy, hz⟩
    dsimp only at hy hz
    obtain ⟨p, hp, tp, bk, rfl, htp, hkey⟩ := paired_get hpv hy
    rw [List.getElem?_map] at hz
    obtain ⟨m, hm, rfl⟩ := Option.map_eq_some_iff.mp hz
    have sT := Stp.cell (ms := [L]) (o := .tup [.ref tp, .int (m : Nat)]) st.in_ nT
    have hLT : L ≠ TT := fun e => by subst e; rw [hL] at nT; cases nT
    have hL2 : upd H1 TT (.tup [.ref tp, .int (m : Nat)]) L = some (.lst us) := (upd_ne hLT).trans hL
    have bL : B' L = none := st.off (ex_none eB nL) upd_same
    refine ⟨TT, _, rfl, SqT.of upd_same, rfl, _, _, rfl, _, _, rfl, rfl, ?_⟩
    refine ⟨_, rfl, .inl ⟨rfl, _, sq_of hL2⟩, ?_⟩
    generalize upd H1 TT (.tup [.ref tp, .int (m : Nat)]) = H3 at sT hL2
    have wT : W0 B' H3 := sT.in_
    have htp' := st.base _ _ htp
    have hkey' := hkey.mono st.base
    have hmem : (p, m) ∈ acc.zip ms := List.mem_of_getElem? (List.getElem?_zip_eq_some.mpr ⟨hp, hm⟩)
    have hp12 := h12 p (List.mem_of_getElem? hp)
    refine (gw_tup (ms := []) (W := W0) (R := fun v B4 => EinAt K B4 B4 v (viewK p.1, sureL p.2 m)) (S := fun vs B4 => ∃ l ys, vs = [.ref bk, .ref l] ∧ B4 l = some (.lst ys) ∧ RatsAt K B4 ys (sureL p.2 m)) (gw_c1 (v := .ref bk) (ev_ixT (ev_var rfl) ev_c (st_of htp') rfl) (gw_cons (R1 := fun v B4 => ∃ l ys, v = .ref l ∧ B4 l = some (.lst ys) ∧ RatsAt K B4 ys (sureL p.2 m)) ?_ fun v B4 e4 ⟨l, ys, hv, h1, h2⟩ => gw_nil fun B5 e5 => ⟨l, ys, by rw [hv], e5 _ _ h1, rats_mono h2 e5⟩)) fun vs4 B4 e4 ⟨l, ys, hv, h1, h2⟩ => ?_).go wT fun v B4 H4 s4 w4 hv => ?_
    · refine gw_lcR (Rn := fun n => n = p.2) (Re := fun i v B4 => RatAt K B4 v (if i = m then 1 else 0)) (gw_c1 (v := .int (p.2 : Nat)) (ev_ixT (ev_var rfl) ev_c (st_of htp') rfl) (gw_nil fun _ _ => ⟨p.2, rfl, rfl⟩)) (fun n hn => by omega) (fun i v B1 B2 e h => ratAt_mono e h) (fun n j B4 hn hj e4 => LcE.name rfl ?_) fun n D ys B4 e4 hn hyl hD hre => ⟨D, ys, rfl, hD, ?_⟩
      · refine (gw_ratio1 (gw_val (ev_intB (b := decide (V.int (j : Nat) = V.int (m : Nat))) (ev_op (ev_var rfl) (ev_var rfl) fun H1 _ Q q => ⟨rfl, q H1 (Ex.refl _)⟩)))).imp fun v B5 e5 r => ?_
        by_cases c : j = m
        · subst c
          rw [if_pos rfl]
          rw [decide_eq_true rfl] at r
          exact r
        · rw [if_neg c]
          rw [decide_eq_false (fun z => c (by have := V.int.inj z; omega))] at r
          exact r
      · subst hn
        refine paired_of (by rw [sureL_len, hyl]) fun j y q hy hq => ?_
        have := hre j y hy
        unfold sureL at hq
        rw [List.getElem?_map] at hq
        obtain ⟨j', hj', rfl⟩ := Option.map_eq_some_iff.mp hq
        have : j' = j := by
          obtain ⟨h1, h2⟩ := List.getElem?_eq_some_iff.mp hj'
          rw [List.getElem_range] at h2
          exact h2.symm
        subst this
        exact hre j' y hy
    · subst hv
      exact ⟨(show 2 ≤ 100000 by decide), fun B5 t e5 ht => ⟨t, bk, l, ys, rfl, st_of ht, hkey'.mono (e4.trans e5), sq_of (e5 _ _ h1), rats_mono h2 e5⟩⟩
    · have hL4 := s4.fr L _ (fun h => nomatch h) hL2
      have bL4 := s4.off bL hL2
      have hul := Paired.length hu
      have htl : (sureE (acc.take i) (ms.take i)).length ≤ 1000 := by
        rw [sureE_len (by rw [List.length_take, List.length_take, hlen]), List.length_take]; omega
      refine ⟨L, us, v, rfl, rfl, hL4, by omega, B4, us ++ [v], some (.ref tp), some (.int (m : Nat)), st.trans ((sT.trans s4.nil).trans (Stp.put s4.in_ bL4 (.head _))), upd_same, ?_, rfl⟩
      rw [sureE_take acc ms i p m hp hm]
      exact paired_app (paired_mono hu fun v e h => einb_mono h s4.base) (.cons hv .nil)
  · rintro σ H' ⟨B', us, u3, u4, st, hL, hu, rfl⟩
    rw [hvl, List.take_length, hlen, List.take_length] at hu
    have bL : B' L = none := st.off (ex_none eB nL) upd_same
    have cl := Stp.close eB nL st hL
    have hu2 := paired_mono hu fun v e h => einb_mono h (Ex.new (o := .lst us) bL)
    refine ⟨_, rfl, mk_plan T cl.in_ hL hu2 (by rw [sureE_len hlen]; exact hal) (sureE_ok acc ms) (fun e he => ?_) (planBad_none _ _ _ (sureE_good hlt) ?_ fun e he h => nomatch h) fun v B2 H2 s hv => k v B2 H2 (cl.trans s) hv⟩
    · unfold sureE at he
      obtain ⟨q, hq, rfl⟩ := List.mem_map.mp he
      have := h12 q.1 (List.of_mem_zip hq).1
      show (sureL q.1.2 q.2).length ≤ 100
      rw [sureL_len]; omega
    · rw [sureE_keys hlen]
      have e : (acc.map fun p => viewK p.1) = (acc.map (·.1)).map viewK := by rw [List.map_map]; rfl
      rw [e]
      exact List.Pairwise.map _ (fun a b h z => h (viewK_inj z)) hnd
end
end LL
namespace LL
open PySem PySem.Spec PyProof.Rows L2 He Evl ND
/-! ### the law -/
section

section

end
section

end
section

end
section

end
/-- for .. in range(n), n drawn -/
theorem for_rngG {ms : List Addr} {W : Hp → Hp → Prop} [I : Wld ms W] {ta : TA} {g : TG} {tb : TS} {D : Ends} {σ : L2.St} {B H : Hp} {R : Int → Prop} (w : W B H) (h : GW ms W (ta σ) B (fun vs _ => ∃ n : Int, vs = [.int n] ∧ R n)) (hb : ∀ n, R n → 0 ≤ n ∧ n ≤ 100000)
    (k : ∀ n B2 H2, Stp ms B H B2 H2 → W B2 H2 → R n → tFor (fun _ H R => R (Itr 0 n.toNat) H) g tb D σ H2) : tFor (iRng1 ta) g tb D σ H :=
  h.go w fun vs B2 H2 s w2 ⟨n, hv, hr⟩ => by
    subst hv
    have := hb n hr
    exact ⟨n, rfl, by omega, by omega, k n B2 H2 s w2 hr⟩


end
end LL
namespace LL
open PySem PySem.Spec PyProof.Rows L2 He Evl ND
/-! ### comparing, in a world -/
section
variable {w : World} {K : PySem.W.Frag} {mg : Str → Option Value} {base : Heap}
variable {ms : List Addr} {W : Hp → Hp → Prop} [I : Wld ms W] {B : Hp} {σ : L2.St} {te ta tb : TE} {E : XK}
/-- _law_same(x, y) of known data -/
theorem gw_same {n : Nat} {t : TA} {d e : PyData} (h : GW ms W (t σ) B (fun vs B2 => ∃ x y, vs = [x, y] ∧ Dp K B2 x d ∧ Dp K B2 y e)) (hn : Dep n e) : GW ms W ((fun σ H Q => t σ H fun vs H1 => spSame K n vs H1 Q E) σ) B (fun v _ => v = .bl (same d e)) :=
  gw_fn h fun vs B1 e1 ⟨x, y, hv, hd, he⟩ => by
    subst hv
    exact gw_ex (fun B2 H2 e2 w2 Q q => ⟨x, y, d, e, rfl, dp_mono (e2.trans w2) hd, dp_mono (e2.trans w2) he, hn, fun H' x => q H' x⟩) fun _ _ => rfl
/-- isinstance(x, Plan) of a Plan -/
theorem gw_isPlan (T : Txt K mg) {i : Nat} {v : V} {es : List Ent} (hi : σ[i]? = some (some v)) (hp : PlanAt w K B v es) : GW ms W (tCB (rIsi K) (tCons (tVar i) (tCons (tC (.ref (ga K "Plan"))) tNil)) σ) B (fun u _ => u = .bl true) := by
  obtain ⟨x, dx, t, kvs, rfl, hx, _, _⟩ := id hp
  exact gw_val fun H5 e5 Q q => ⟨_, hi, _, _, _, _, _, rfl, ClsV.own _, TyX.base (TyOf.ins (e5 _ _ hx) T.c_Plan T.oc_Plan T.og T.ot T.om_Plan), T.ki_Plan_Plan, q H5 (Ex.refl _)⟩
/-- list(x) of a list in the base -/
theorem gw_listOf {R : List V → Hp → Prop} (h : GW ms W (te σ) B (fun v B2 => ∃ l xs, v = .ref l ∧ SqL K B2 l xs ∧ R xs B2)) (hm : ∀ xs B1 B2, Ex B1 B2 → R xs B1 → R xs B2) : GW ms W (tCB (fun xs H Q => ∃ p ys, xs = [V.ref p] ∧ (SqL K H p ys ∨ SqT K H p ys) ∧ ∀ l, H l = none → Q (.ref l) (upd H l (.lst ys))) (tCons te tNil) σ) B (fun v B2 => ∃ l xs, v = .ref l ∧ B2 l = some (.lst xs) ∧ R xs B2) := by
  refine gw_cb (S := fun vs B2 => ∃ l xs, vs = [.ref l] ∧ SqL K B2 l xs ∧ R xs B2) (gw_cons h fun v B2 e2 ⟨l, xs, hv, h1, h2⟩ => gw_nil fun B3 e3 => ⟨l, xs, by rw [hv], ex_l e3 h1, hm _ _ _ e3 h2⟩) fun vs B2 e2 ⟨l, xs, hv, h1, h2⟩ => ?_
  subst hv
  intro B3 H3 e3 w3 Q q
  refine ⟨l, xs, rfl, .inl (ex_l (e3.trans (I.e w3)) h1), fun l2 nl => ?_⟩
  obtain ⟨s4, w4⟩ := Wld.new (I := I) (o := .lst xs) w3 nl
  exact q _ _ _ s4 w4 ⟨l2, xs, rfl, upd_same, hm _ _ _ (e3.trans s4.base) h2⟩
/-- x == y of known data -/
theorem gw_eqD {d e : PyData} (h1 : GW ms W (ta σ) B (fun v B2 => Dp K B2 v d)) (h2 : ∀ B1, Ex B B1 → GW ms W (tb σ) B1 (fun v B2 => Dp K B2 v e)) (s1 : SeqAt.shaped d = true) (s2 : SeqAt.shaped e = true) : GW ms W (tOp (rEqD K) ta tb σ) B (fun v _ => v = .bl (PyData.eqv d e)) :=
  gw_op h1 fun x B1 e1 r1 => (h2 B1 e1).imp fun y B2 e2 r2 => gw_ex (fun B3 H3 e3 w3 Q q => ⟨d, e, dp_mono (e2.trans (e3.trans w3)) r1, dp_mono (e3.trans w3) r2, s1, s2, q H3 (Ex.refl _)⟩) fun _ _ => rfl
theorem gw_dp {i : Nat} {v : V} {d : PyData} (hi : σ[i]? = some (some v)) (hd : Dp K B v d) : GW ms W (tVar i σ) B (fun u B2 => Dp K B2 u d) := (gw_val (ev_var hi)).imp fun u B2 e2 hu => by
  subst hu
  exact dp_mono e2 hd
end
/-! ### depths -/
theorem dep_nums : ∀ (ns : List Nat) (d : PyData), d ∈ NestedKey.datas (ns.map fun n => .num (n : Nat)) → Dep 0 d
  | [], d, h => by rw [List.map_nil, NestedKey.datas] at h; cases h
  | n :: ns, d, h => by
    rw [List.map_cons, NestedKey.datas, NestedKey.data] at h
    rcases List.mem_cons.mp h with rfl | h
    · trivial
    · exact dep_nums ns d h
theorem datas_len : ∀ ks : List NestedKey, (NestedKey.datas ks).length = ks.length
  | [] => by rw [NestedKey.datas]; rfl
  | k :: ks => by rw [NestedKey.datas, List.length_cons, List.length_cons, datas_len ks]
theorem dep_up : ∀ (n : Nat) (d : PyData), Dep n d → Dep (n + 1) d
  | 0, .list _, h => h.elim
  | 0, .tuple _, h => h.elim
  | n + 1, .list ds, h => ⟨h.1, fun d hd => dep_up n d (h.2 d hd)⟩
  | n + 1, .tuple ds, h => ⟨h.1, fun d hd => dep_up n d (h.2 d hd)⟩
  | 0, .none, _ => trivial
  | 0, .bool _, _ => trivial
  | 0, .int _, _ => trivial
  | 0, .str _, _ => trivial
  | n + 1, .none, _ => trivial
  | n + 1, .bool _, _ => trivial
  | n + 1, .int _, _ => trivial
  | n + 1, .str _, _ => trivial
  | 0, .dict _, h => h.elim
  | n + 1, .dict _, h => h.elim
theorem dep_ev {e : Evt} (h : e.2.length ≤ 1000) : Dep 1 (evK e).data := by
  unfold evK
  rw [NestedKey.data, NestedKey.datas, NestedKey.data]
  refine ⟨?_, fun d hd => ?_⟩
  · rw [List.length_cons, datas_len, List.length_map]; omega
  · rcases List.mem_cons.mp hd with rfl | hd
    · trivial
    · exact dep_nums _ _ hd
theorem dep_evs : ∀ {v : List Evt}, (∀ e ∈ v, e.2.length ≤ 1000) → ∀ d ∈ NestedKey.datas (v.map evK), Dep 1 d
  | [], _, d, h => by rw [List.map_nil, NestedKey.datas] at h; cases h
  | e :: v, he, d, h => by
    rw [List.map_cons, NestedKey.datas] at h
    rcases List.mem_cons.mp h with rfl | h
    · exact dep_ev (he e (.head _))
    · exact dep_evs (fun x hx => he x (.tail _ hx)) d h
theorem dep_view {v : List Evt} (hl : v.length ≤ 1000) (he : ∀ e ∈ v, e.2.length ≤ 1000) : Dep 2 (viewK v).data := by
  unfold viewK
  rw [NestedKey.data]
  refine ⟨?_, dep_evs he⟩
  rw [datas_len, List.length_map]; omega
theorem dep_ratD (q : Rat) : Dep 1 (ratD q) := ⟨(show 2 ≤ 100000 by decide), fun d hd => by
  rcases List.mem_cons.mp hd with rfl | hd
  · trivial
  · rw [List.mem_singleton.mp hd]; trivial⟩
theorem dep_rowD {e : Ent} (h1 : Dep 2 e.1.data) (h2 : e.2.length ≤ 1000) : Dep 3 (rowD e) := ⟨(show 2 ≤ 100000 by decide), fun d hd => by
  rcases List.mem_cons.mp hd with rfl | hd
  · exact h1
  · rw [List.mem_singleton.mp hd]
    refine ⟨by rw [List.length_map]; omega, fun d hd => ?_⟩
    obtain ⟨q, _, rfl⟩ := List.mem_map.mp hd
    exact dep_ratD q⟩
theorem dep_rows {es : List Ent} (hl : es.length ≤ 1000) (h : ∀ e ∈ es, Dep 2 e.1.data ∧ e.2.length ≤ 1000) : Dep 5 (.list (es.map rowD)) := dep_up _ _ ⟨by rw [List.length_map]; omega, fun d hd => by
  obtain ⟨e, he, rfl⟩ := List.mem_map.mp hd
  exact dep_rowD (h e he).1 (h e he).2⟩
theorem dep_bool (n : Nat) (b : Bool) : Dep n (.bool b) := by cases n <;> trivial
theorem dep_two (n : Nat) (a b : Bool) : Dep (n + 1) (.list [.bool a, .bool b]) := ⟨(show 2 ≤ 100000 by decide), fun d hd => by
  rcases List.mem_cons.mp hd with rfl | hd
  · exact dep_bool n a
  · rw [List.mem_singleton.mp hd]; exact dep_bool n b⟩
theorem nm_law : PyData.canLay0 (.str "asked") = true ∧ PyData.canLay0 (.str "shown") = true ∧ PyData.canLay0 (.str "did") = true := by decide +kernel
end LL
namespace LL
open PySem PySem.Spec PyProof.Rows L2 He Evl ND
/-! ### plans that make one move at each view -/
def scSU : Scope := { kind := .function, names := [(".0", .local), ("_law_view", .local), ("_law_lots", .local)], isGenerator := false, isCoroutine := false }
theorem nats_of : ∀ {P : Nat → Nat → Prop} {ys : List V}, (∀ (i : Nat) y, ys[i]? = some y → ∃ m : Nat, y = .int (m : Nat) ∧ P i m) → ∃ ms : List Nat, ys = ms.map (fun (m : Nat) => V.int (m : Nat)) ∧ ∀ (i m : Nat), ms[i]? = some m → P i m
  | _, [], _ => ⟨[], rfl, fun i m h => by cases h⟩
  | P, y :: ys, h => by
    obtain ⟨m, rfl, hm⟩ := h 0 y rfl
    obtain ⟨ms, rfl, hms⟩ := nats_of (P := fun i m => P (i + 1) m) (ys := ys) fun i y hy => h (i + 1) y (by simpa using hy)
    refine ⟨m :: ms, rfl, fun i k hk => ?_⟩
    cases i with
    | zero => cases hk; exact hm
    | succ i => exact hms i k (by simpa using hk)
/-- a drawn view and its moves: events that are shown, at last what is asked -/
def SuV (K : PySem.W.Frag) (B : Hp) (x : V) (i : Nat) (q : VN) : Prop := (∃ T b, x = .ref T ∧ B T = some (.tup [.ref b, .int (q.2 : Nat)]) ∧ KeyAt K B b (viewK q.1)) ∧ (∃ sh : List Evt, q.1 = sh ++ [(("asked", [i, q.2]) : Evt)] ∧ (∀ e ∈ sh, ∃ n : Nat, e = (("shown", [n]) : Evt)) ∧ sh.length ≤ 2) ∧ 1 ≤ q.2 ∧ q.2 ≤ 8
theorem SuV.mono {K : PySem.W.Frag} {B B2 : Hp} {x : V} {i : Nat} {q : VN} (h : SuV K B x i q) (e : Ex B B2) : SuV K B2 x i q := by
  obtain ⟨⟨T, b, h1, h2, h3⟩, h4⟩ := h
  exact ⟨⟨T, b, h1, e _ _ h2, key_mono h3 e⟩, h4⟩
/-- a row of the drawn views, as data -/
def vrowD (q : VN) : PyData := .tuple [(viewK q.1).data, .int (q.2 : Nat)]
theorem su_get {K : PySem.W.Frag} {B : Hp} {vs : List V} {acc : List VN} (hl : vs.length = acc.length) (h : ∀ (i : Nat) x q, vs[i]? = some x → acc[i]? = some q → SuV K B x i q) (i : Nat) (q : VN) (hq : acc[i]? = some q) : ∃ x, SuV K B x i q := by
  have hi := (List.getElem?_eq_some_iff.mp hq).1
  exact ⟨_, h i _ q (List.getElem?_eq_getElem (by omega)) hq⟩
theorem su_last {K : PySem.W.Frag} {B : Hp} {x : V} {i : Nat} {q : VN} (h : SuV K B x i q) : q.1.getLast? = some (("asked", [i, q.2]) : Evt) := by
  obtain ⟨_, ⟨sh, h1, _⟩, _⟩ := h
  rw [h1, List.getLast?_append]
  rfl
theorem su_nodup {K : PySem.W.Frag} {B : Hp} {vs : List V} {acc : List VN} (hl : vs.length = acc.length) (h : ∀ (i : Nat) x q, vs[i]? = some x → acc[i]? = some q → SuV K B x i q) : (acc.map (·.1)).Nodup := by
  rw [List.nodup_iff_pairwise_ne, List.pairwise_iff_getElem]
  intro i j hi hj hij e
  rw [List.length_map] at hi hj
  rw [List.getElem_map, List.getElem_map] at e
  obtain ⟨x, hx⟩ := su_get hl h i _ (List.getElem?_eq_getElem hi)
  obtain ⟨y, hy⟩ := su_get hl h j _ (List.getElem?_eq_getElem hj)
  have h1 := su_last hx
  have h2 := su_last hy
  rw [e, h2] at h1
  injection h1 with h1
  injection h1 with _ h1
  injection h1 with h1
  omega
theorem su_all {K : PySem.W.Frag} {B : Hp} {vs : List V} {acc : List VN} (hl : vs.length = acc.length) (h : ∀ (i : Nat) x q, vs[i]? = some x → acc[i]? = some q → SuV K B x i q) : ∀ q ∈ acc, q.2 ≤ 8 ∧ q.1.length ≤ 3 ∧ (∀ e ∈ q.1, e.2.length ≤ 2) ∧ NmV q.1 := fun q hq => by
  obtain ⟨i, hi⟩ := List.getElem?_of_mem hq
  obtain ⟨x, _, ⟨sh, h1, h2, h3⟩, h4, h5⟩ := su_get hl h i q hi
  refine ⟨h5, by rw [h1, List.length_append, List.length_singleton]; omega, fun e he => ?_, fun e he => ?_⟩
  · rw [h1] at he
    rcases List.mem_append.mp he with he | he
    · obtain ⟨n, rfl⟩ := h2 e he
      exact (show 1 ≤ 2 by decide)
    · rw [List.mem_singleton.mp he]
      exact Nat.le_refl 2
  · rw [h1] at he
    rcases List.mem_append.mp he with he | he
    · obtain ⟨n, rfl⟩ := h2 e he
      exact nm_law.2.1
    · rw [List.mem_singleton.mp he]
      exact nm_law.1
theorem su_shaped {acc : List VN} {ms : List Nat} (h : ∀ q ∈ acc, NmV q.1) : SeqAt.shaped (.list [.list (acc.map vrowD), .list (ms.map fun m => .int (m : Nat))]) = true := by
  refine list_shaped (k := 5) (fun d hd => ?_) (by decide)
  rcases List.mem_cons.mp hd with rfl | hd
  · obtain ⟨h1, h2⟩ := all_lay (k := 4) (ds := acc.map vrowD) fun d hd => by
      obtain ⟨q, hq, rfl⟩ := List.mem_map.mp hd
      obtain ⟨h3, h4⟩ := view_layK (h q hq)
      unfold vrowD
      constructor
      · rw [PyData.canLay0, PyData.canLayAll0, h3]; rfl
      · rw [PyData.depth, PyData.depthAll, PyData.depthAll, PyData.depthAll, PyData.depth]; omega
    exact ⟨by rw [PyData.canLay0]; exact h1, by rw [PyData.depth]; omega⟩
  · rw [List.mem_singleton.mp hd]
    exact ⟨by rw [PyData.canLay0]; exact nums_lay ms, by rw [PyData.depth, nums_depth]; decide⟩
theorem dpa_ints {K : PySem.W.Frag} {H : Hp} : ∀ ms : List Nat, DpAll K H (ms.map fun m => V.int (m : Nat)) (ms.map fun m => PyData.int (m : Nat))
  | [] => .nil
  | m :: ms => .cons (.int _) (dpa_ints ms)
theorem dpa_at {K : PySem.W.Frag} {H : Hp} : ∀ {vs : List V} {ds : List PyData} {i : Nat} {v : V} {d : PyData}, DpAll K H vs ds → vs[i]? = some v → ds[i]? = some d → Dp K H v d
  | _, _, 0, _, _, .cons h _, h1, h2 => by cases h1; cases h2; exact h
  | _, _, i + 1, _, _, .cons _ t, h1, h2 => dpa_at (i := i) t (by simpa using h1) (by simpa using h2)
  | _, _, _, _, _, .nil, h1, _ => by cases h1
theorem dpa_two {K : PySem.W.Frag} {H : Hp} {vs : List V} {a b : PyData} (h : DpAll K H vs [a, b]) : ∃ x y, vs = [x, y] ∧ Dp K H x a ∧ Dp K H y b := by
  cases h with
  | cons h1 h2 =>
    cases h2 with
    | cons h2 h3 =>
      cases h3
      exact ⟨_, _, rfl, h1, h2⟩
theorem key_ofD {K : PySem.W.Frag} {H : Hp} {x : V} {v : List Evt} (h : Dp K H x (viewK v).data) : ∃ b, x = .ref b ∧ KeyAt K H b (viewK v) := by
  unfold viewK at h
  rw [NestedKey.data] at h
  obtain ⟨a, xs, e, h1, h2⟩ := dp_tupK h
  exact ⟨a, e, view_key h1 (evs_dp.mp h2)⟩
theorem gw_andT {ms : List Addr} {W : Hp → Hp → Prop} [I : Wld ms W] {B : Hp} {σ : L2.St} {ta tb : TE} (h1 : GW ms W (ta σ) B (fun v _ => v = .bl true)) (h2 : ∀ B1, Ex B B1 → GW ms W (tb σ) B1 (fun v _ => v = .bl true)) : GW ms W (tAndV ta tb σ) B (fun v _ => v = .bl true) :=
  gw_bind (k2 := fun (x : V) H (Q : VK) => ∃ c, x = .bl c ∧ if c = true then tb σ H Q else Q (.bl false) H) h1 fun v B1 e1 hv => by
    subst hv
    exact fun B2 H2 e2 w2 Q q => ⟨true, rfl, by rw [if_pos rfl]; exact h2 B1 e1 B2 H2 e2 w2 Q q⟩
def spLSure : Sp := fun us H Q _ => ∃ (p : Addr) (u : Int) (B : Hp), us = [.ref p] ∧ Wd p u B H ∧ ∀ H2, Q (.bl true) H2
section
variable {K : PySem.W.Frag} {ms : List Addr} {W : Hp → Hp → Prop} [I : Wld ms W] {B : Hp} {σ : L2.St} {ta tb : TE}
/-- a + b, tuples that are not empty -/
theorem gw_catT2 {R S : List V → Hp → Prop} (h1 : GW ms W (ta σ) B (fun v B2 => ∃ a xs, v = .ref a ∧ SqT K B2 a xs ∧ xs ≠ [] ∧ xs.length ≤ 10000 ∧ R xs B2)) (h2 : ∀ B1, Ex B B1 → GW ms W (tb σ) B1 (fun v B2 => ∃ a xs, v = .ref a ∧ SqT K B2 a xs ∧ xs ≠ [] ∧ xs.length ≤ 10000 ∧ S xs B2))
    (hm : ∀ xs B1 B2, Ex B1 B2 → R xs B1 → R xs B2) (hs : ∀ xs B1 B2, Ex B1 B2 → S xs B1 → S xs B2) : GW ms W (tOp (rCatT K) ta tb σ) B (fun v B2 => ∃ c xs ys, v = .ref c ∧ SqT K B2 c (xs ++ ys) ∧ R xs B2 ∧ S ys B2) := by
  have hbig : (100000 : Nat) ≤ sizeLine := by decide
  refine gw_op h1 fun x B1 e1 ⟨a, xs, hx, ha, na, la, ra⟩ => (h2 B1 e1).imp fun y B2 e2 ⟨b, ys, hy, hb, nb, lb, rb⟩ => ?_
  subst hx hy
  intro B3 H3 e3 w3 Q q
  have e13 := (e2.trans e3)
  refine ⟨a, b, xs, ys, rfl, rfl, ex_t (e13.trans (I.e w3)) ha, ex_t (e3.trans (I.e w3)) hb, na, by omega, fun z => absurd z nb, fun _ c nc => ?_⟩
  obtain ⟨s4, w4⟩ := Wld.new (I := I) (o := .tup (xs ++ ys)) w3 nc
  exact q _ _ _ s4 w4 ⟨c, xs, ys, rfl, st_of upd_same, hm _ _ _ (e13.trans s4.base) ra, hs _ _ _ (e3.trans s4.base) rb⟩
end
section
variable {w : World} {K : PySem.W.Frag} {mg : Str → Option Value} {base : Heap}
theorem fn_l_sure (T : Txt K mg) : Fn P w K mg base 14 (ga K "_law_sure") (spLSure) := by
  refine fn_def T.d_l_sure sc_l_sure (fun _ _ _ _ _ _ us hl => match us, hl with | [_], _ => rfl) (fun vs H Q E h => ?_) (fun cdv A outer s H vs Q E hr h => ?_)
  · obtain ⟨_, _, _, rfl, _⟩ := h
    rfl
  obtain ⟨p, u, B, rfl, w0, k⟩ := h
  have nd := sc_l_sure.nd
  have hbig : (100000 : Nat) ≤ sizeLine := by decide
  refine ⟨_, pss_cons (ps_set (i := 1) nd rfl (by first | exact Or.inl rfl | exact Or.inr rfl) (pe_lst pa_nil))
      (Evl.pss_cut (ps_for (passes_of rfl) rfl (pi_range1 rfl T.f_range (pa_cons (pe_ix ix_tup (pe_tup (pa_cons (pe_fn T.d_l_draw (fn_l_draw T) (hr.mono (by decide)) T.g_l_draw pc (pa_cons (pv 0) (pa_cons (pe_int) pa_nil))) (pa_cons (pe_fn T.d_l_draw (fn_l_draw T) (hr.mono (by decide)) T.g_l_draw pc (pa_cons (pv 0) (pa_cons (pe_int) pa_nil))) pa_nil))) (pe_fn T.d_l_draw (fn_l_draw T) (hr.mono (by decide)) T.g_l_draw pc (pa_cons (pv 0) (pa_cons (pe_int) pa_nil))) (fun _ _ => rfl)) pa_nil)) (pg_name (i := 2) nd rfl (by first | exact Or.inl rfl | exact Or.inr rfl)) (pss_cons (ps_set (i := 3) nd rfl (by first | exact Or.inl rfl | exact Or.inr rfl) (pe_op op_add (pe_int) (pe_fn T.d_l_draw (fn_l_draw T) (hr.mono (by decide)) T.g_l_draw pc (pa_cons (pv 0) (pa_cons (pe_int) pa_nil)))))
      (pss_cons (ps_set (i := 4) nd rfl (by first | exact Or.inl rfl | exact Or.inr rfl) (pe_tup (pa_cons (pe_tup (pa_cons (pe_str) (pa_cons (pv 2) (pa_cons (pv 3) pa_nil)))) pa_nil)))
      (Evl.pss_cut (ps_for (passes_of rfl) rfl (pi_range1 rfl T.f_range (pa_cons (pe_fn T.d_l_draw (fn_l_draw T) (hr.mono (by decide)) T.g_l_draw pc (pa_cons (pv 0) (pa_cons (pe_int) pa_nil))) pa_nil)) (pg_name (i := 5) nd rfl (by first | exact Or.inl rfl | exact Or.inr rfl)) (pss_one (ps_set (i := 4) nd rfl (by first | exact Or.inl rfl | exact Or.inr rfl) (pe_op op_catT (pe_tup (pa_cons (pe_tup (pa_cons (pe_str) (pa_cons (pe_fn T.d_l_draw (fn_l_draw T) (hr.mono (by decide)) T.g_l_draw pc (pa_cons (pv 0) (pa_cons (pe_int) pa_nil))) pa_nil))) pa_nil)) (pv 4)))))
      (pss_one (ps_expr (pe_bm PySem.F.plainAttrs_list PySem.F.slot_list_append PySem.F.type_list_append mt_append (pv 1) (pa_cons (pe_tup (pa_cons (pv 4) (pa_cons (pv 3) pa_nil))) pa_nil))))))))
      (pss_cons (ps_set (i := 6) nd rfl (by first | exact Or.inl rfl | exact Or.inr rfl) (pe_lc (own := [("_law_view", 4), ("_law_count", 3)]) (g := (gTup K 2 (gCons (gName 4) (gCons (gName 3) (gNil))))) (tt := tYes) rfl nd (pi_list (pv 1)) (blkOk_by (N := n_l_sure) (sc := defScope s_l_sure) (by decide +kernel)) (fun _ _ _ _ _ => pg_tup (n := 2) rfl (pgs_cons (pg_name (i := 4) nd rfl (by first | exact Or.inl rfl | exact Or.inr rfl)) (pgs_cons (pg_name (i := 3) nd rfl (by first | exact Or.inl rfl | exact Or.inr rfl)) pgs_nil))) (fun _ _ _ _ _ => pts_nil) (fun _ _ _ _ _ => pe_fn T.d_l_draw (fn_l_draw T) (hr.mono (by decide)) T.g_l_draw pcF (pa_cons (pv 0) (pa_cons (pv 3) pa_nil)))))
      (pss_cons (ps_set (i := 7) nd rfl (by first | exact Or.inl rfl | exact Or.inr rfl) (pe_lst pa_nil))
      (Evl.pss_cut (ps_for (passes_of rfl) rfl (pi_range1 rfl T.f_range (pa_cons (pe_callB call_len_seq (by rfl) T.f_len PySem.boot_len (pa_cons (pv 1) pa_nil)) pa_nil)) (pg_name (i := 2) nd rfl (by first | exact Or.inl rfl | exact Or.inr rfl)) (pss_one (ps_expr (pe_bm PySem.F.plainAttrs_list PySem.F.slot_list_append PySem.F.type_list_append mt_append (pv 7) (pa_cons (pe_tup (pa_cons (pe_ix ix_tup (pe_ix ix_list (pv 1) (pv 2) (fun _ _ => rfl)) (pe_int) (fun _ _ => rfl)) (pa_cons (pe_callTy call_tuple_of (by rfl) T.f_tuple (by decide +kernel) (pa_cons (pe_lc (own := [("_law_part", 8)]) (g := gName 8) (tt := tYes) rfl nd (pi_range1 rfl T.f_range (pa_cons (pe_ix ix_tup (pe_ix ix_list (pv 1) (pv 2) (fun _ _ => rfl)) (pe_int) (fun _ _ => rfl)) pa_nil)) (blkOk_by (N := n_l_sure) (sc := defScope s_l_sure) (by decide +kernel)) (fun _ _ _ _ _ => pg_name (i := 8) nd rfl (by first | exact Or.inl rfl | exact Or.inr rfl)) (fun _ _ _ _ _ => pts_nil) (fun _ _ _ _ _ => pe_tup (pa_cons (pe_callTy call_int1 (by rfl) T.f_int (by decide +kernel) (pa_cons (pe_cmpR op_eq (pv 8) (pe_ix (ixk_list K) (pv 6) (pv 2) (fun _ _ => rfl)) (nomark _)) pa_nil)) (pa_cons (pe_int) pa_nil)))) pa_nil)) pa_nil))) pa_nil)))))
      (pss_cons (ps_set (i := 9) nd rfl (by first | exact Or.inl rfl | exact Or.inr rfl) (pe_lst (pa_cons (pe_callTy call_list_of (by rfl) T.f_list (by decide +kernel) (pa_cons (pv 1) pa_nil)) (pa_cons (pe_callTy call_list_of (by rfl) T.f_list (by decide +kernel) (pa_cons (pv 6) pa_nil)) pa_nil))))
      (pss_cons (ps_set (i := 10) nd rfl (by first | exact Or.inl rfl | exact Or.inr rfl) (pe_fn T.d_sure (fn_sure T) (hr.mono (by decide)) T.g_sure pc (pa_cons (pe_ix ix_list (pv 9) (pe_int) (fun _ _ => rfl)) (pa_cons (pe_ix ix_list (pv 9) (pe_int) (fun _ _ => rfl)) pa_nil))))
      (pss_cons (ps_set (i := 14) nd rfl (by first | exact Or.inl rfl | exact Or.inr rfl) (StX.pe_makeR T.m_Plan (fn_Plan_init T) (hr.mono (by decide)) rfl T.g_Plan pc (pa_cons (pe_lc (own := [("_law_view", 4), ("_law_lots", 13)]) (g := (gTup K 2 (gCons (gName 4) (gCons (gName 13) (gNil))))) (tt := tYes) rfl nd (pi_list (pv 7)) (blkOk_by (N := n_l_sure) (sc := defScope s_l_sure) (by decide +kernel)) (fun _ _ _ _ _ => pg_tup (n := 2) rfl (pgs_cons (pg_name (i := 4) nd rfl (by first | exact Or.inl rfl | exact Or.inr rfl)) (pgs_cons (pg_name (i := 13) nd rfl (by first | exact Or.inl rfl | exact Or.inr rfl)) pgs_nil))) (fun _ _ _ _ _ => pts_nil) (fun _ _ _ _ _ => pe_tup (pa_cons (pv 4) (pa_cons (pe_lc (own := [("_law_num", 11), ("_law_den", 12)]) (g := (gTup K 2 (gCons (gName 11) (gCons (gName 12) (gNil))))) (wi := iTup K (tVar 13)) (tt := tYes) rfl nd (pi_tup (pv 13)) (blkOk_by (N := n_l_sure) (sc := scSU) (by decide +kernel)) (fun _ _ _ _ _ => pg_tup (n := 2) rfl (pgs_cons (pg_name (i := 11) nd rfl (by first | exact Or.inl rfl | exact Or.inr rfl)) (pgs_cons (pg_name (i := 12) nd rfl (by first | exact Or.inl rfl | exact Or.inr rfl)) pgs_nil))) (fun _ _ _ _ _ => pts_nil) (fun _ _ _ _ _ => StX.pe_makeR T.m_Ratio (fn_RI2 T) (hr.mono (by decide)) rfl T.g_Ratio pcF (pa_cons (pv 11) (pa_cons (pv 12) pa_nil)))) pa_nil)))) pa_nil)))
      (pss_cons (ps_if (PW.pt (pw_or (pt_not (pt_val (pe_callB call_isi (by rfl) T.f_isinstance (by decide +kernel) (pa_cons (pv 10) (pa_cons (pe_gr T.g_Plan) pa_nil))))) (pw_or1 (pt_not (pt_val (pe_fn T.d_l_same (fn_l_same T 5) (hr.mono (by decide)) T.g_l_same pc (pa_cons (pe_lst (pa_cons (pe_cmpR (op_ownC (op := .Eq) (fun _ _ => rfl) T.nf_Plan T.t_Plan_eq.at_ T.t_Plan_eq.fn (fn_Plan_eq T) (hr.mono (by decide)) pc) (pv 10) (pv 14) (nomark _)) (pa_cons (pe_cmpR (op_ownC (op := .Eq) (fun _ _ => rfl) T.nf_Plan T.t_Plan_eq.at_ T.t_Plan_eq.fn (fn_Plan_eq T) (hr.mono (by decide)) pc) (pv 14) (pv 10) (nomark _)) pa_nil))) (pa_cons (pe_lst (pa_cons (pe_bl) (pa_cons (pe_bl) pa_nil))) pa_nil)))))))) (pss_one (ps_ret (pe_bl))) (pss_nil))
      (pss_one (ps_ret (pe_and (pe_fn T.d_l_same (fn_l_same T 5) (hr.mono (by decide)) T.g_l_same pc (pa_cons (pe_fn T.d_l_told (fn_l_told T) (hr.mono (by decide)) T.g_l_told pc (pa_cons (pv 10) pa_nil)) (pa_cons (pv 7) pa_nil))) (pe_one (pe_cmpR (op_eqD hr.units) (pv 9) (pe_lst (pa_cons (pv 1) (pa_cons (pv 6) pa_nil))) (nomark _)))))))))))))), ?_⟩
  refine ⟨(show 0 ≤ sizeLine by omega), fun L nL => ?_⟩
  obtain ⟨pL, sL⟩ := (Stp.refl w0.e : Stp [p] B H B H).prv (o := .lst []) nL (fun m hm => Wld.ne w0 hm)
  have wL : Wd p u B (upd H L (.lst [])) := Wd.cell w0 nL
  generalize upd H L (.lst []) = H1 at pL sL wL
  dsimp only [gName]
  refine ⟨fun σ H' => ∃ (B' : Hp) (vs : List V) (acc : List VN) (u2 u3 u4 u5 : Option V), Stp [p] B H B' H' ∧ Wd p u B' H' ∧ Prv [p] H B' H' L (.lst vs) ∧ (vs.length = acc.length ∧ acc.length ≤ 9 ∧ ∀ (i : Nat) x q, vs[i]? = some x → acc[i]? = some q → SuV K B' x i q) ∧ σ = [some (.ref p), some (.ref L), u2, u3, u4, u5] ++ List.replicate 9 none, ?_, ?_⟩
  · refine for_rngG (ms := [p]) (W := Wd p u) (B := B) (R := fun n => 0 ≤ n ∧ n ≤ 9) wL (gw_cons (R1 := fun v _ => ∃ n : Int, v = .int n ∧ 0 ≤ n ∧ n ≤ 9) ?_ fun x B10 e10 ⟨n, hx, h1, h2⟩ => gw_nil fun _ _ => ⟨n, by rw [hx], h1, h2⟩) (fun n hn => ⟨hn.1, by omega⟩) fun n B3 H3 s3 w3 ⟨hn0, hn9⟩ => ?_
    · refine gw_op (R1 := fun v B' => ∃ (a : Addr) (x y : Int), v = .ref a ∧ SqT K B' a [.int x, .int y] ∧ (0 ≤ x ∧ x ≤ 9) ∧ 0 ≤ y ∧ y ≤ 9) ?_ fun x B10 e10 ⟨ta, x1, x2, hx, hta, g1, g2⟩ => (gw_draw rfl ev_c (by decide) (by decide)).imp fun y B11 e11 ⟨r, hy, h1, h2⟩ => ?_
      · refine gw_tup (S := fun vs _ => ∃ x y : Int, vs = [.int x, .int y] ∧ (0 ≤ x ∧ x ≤ 9) ∧ 0 ≤ y ∧ y ≤ 9) (gw_cons (gw_draw rfl ev_c (by decide) (by decide)) fun x B10 e10 ⟨r, hx, h1, h2⟩ => gw_cons (gw_draw rfl ev_c (by decide) (by decide)) fun y B11 e11 ⟨r2, hy, h3, h4⟩ => gw_nil fun _ _ => ⟨r, r2, by rw [hx, hy], ⟨by omega, by omega⟩, by omega, by omega⟩) fun vs B10 e10 ⟨x, y, hv, g1, g2⟩ => ?_
        subst hv
        exact ⟨(show 2 ≤ 100000 by decide), fun B11 a e11 ha => ⟨a, x, y, rfl, st_of ha, g1, g2⟩⟩
      · subst hx hy
        have hta11 := ex_t e11 hta
        have h01 : r = 0 ∨ r = 1 := by omega
        rcases h01 with rfl | rfl
        · exact gw_ex (v := .int x1) (fun B13 H13 e13 w13 Q q => ⟨ta, _, 0, .int x1, rfl, rfl, ex_t (e13.trans w13) hta11, rfl, q H13 (Ex.refl _)⟩) fun _ _ => ⟨x1, rfl, g1⟩
        · exact gw_ex (v := .int x2) (fun B13 H13 e13 w13 Q q => ⟨ta, _, 1, .int x2, rfl, rfl, ex_t (e13.trans w13) hta11, rfl, q H13 (Ex.refl _)⟩) fun _ _ => ⟨x2, rfl, g2⟩
    · refine for_range (lo := 0) (n := n.toNat) (fun i σ H' => ∃ (B' : Hp) (vs : List V) (acc : List VN) (u2 u3 u4 u5 : Option V), Stp [p] B H B' H' ∧ Wd p u B' H' ∧ Prv [p] H B' H' L (.lst vs) ∧ (vs.length = acc.length ∧ acc.length = i ∧ ∀ (i : Nat) x q, vs[i]? = some x → acc[i]? = some q → SuV K B' x i q) ∧ σ = [some (.ref p), some (.ref L), u2, u3, u4, u5] ++ List.replicate 9 none) ⟨B3, [], [], none, none, none, none, sL.trans s3, w3, pL.stp s3, ⟨rfl, rfl, fun i x q h => by cases h⟩, rfl⟩ ?_ ?_
      · rintro i σ H' hi ⟨B', vs, acc, u2, u3, u4, u5, st, w', p', ⟨hvl, hal, hv⟩, rfl⟩
        dsimp only
        refine gwq_asg (ms := [p]) (W := Wd p u) (R := fun v _ => ∃ c : Nat, v = .int (c : Nat) ∧ 1 ≤ c ∧ c ≤ 8) w' ?_ fun v3 B4 H4 s4 w4 ⟨c, hv3, hc1, hc8⟩ => ?_
        · exact gw_op (gw_val ev_c) fun x B10 e10 hx => (gw_draw rfl ev_c (by decide) (by decide)).imp fun y B11 e11 ⟨rr, hy, h1, h2⟩ => by
            subst hx hy
            exact gw_ex (v := .int (1 + rr)) (fun B12 H12 e12 w12 Q q => ⟨_, _, rfl, rfl, q H12 (Ex.refl _)⟩) fun _ _ => ⟨(1 + rr).toNat, by congr 1; omega, by omega, by omega⟩
        subst hv3
        refine gwq_asg (ms := [p]) (W := Wd p u) (R := fun v B5 => ∃ b xs, v = .ref b ∧ SqT K B5 b xs ∧ Paired (EvAt K B5) xs [(("asked", [i, c]) : Evt)]) w4 ?_ fun v4 B5 H5 s5 w5 ⟨b, xs, hv4, hb, hxs⟩ => ?_
        · refine gw_tup (S := fun us B5 => ∃ t, us = [.ref t] ∧ SqT K B5 t [.str "asked", .int (0 + (i : Nat)), .int (c : Nat)]) (gw_cons (R1 := fun v B5 => ∃ t, v = .ref t ∧ SqT K B5 t [.str "asked", .int (0 + (i : Nat)), .int (c : Nat)]) (gw_tup (S := fun us _ => us = [.str "asked", .int (0 + (i : Nat)), .int (c : Nat)]) (gw_c1 ev_c (gw_c1 (ev_var rfl) (gw_c1 (ev_var rfl) (gw_nil fun _ _ => rfl)))) fun us B5 e5 hus => ⟨by rw [hus]; exact (show 3 ≤ 100000 by decide), fun B6 t e6 ht => ⟨t, rfl, by rw [hus] at ht; exact st_of ht⟩⟩) fun x B5 e5 ⟨t, hx, ht⟩ => gw_nil fun B6 e6 => ⟨t, by rw [hx], ex_t e6 ht⟩) fun us B5 e5 ⟨t, hus, ht⟩ => ?_
          subst hus
          refine ⟨(show 1 ≤ 100000 by decide), fun B6 b e6 hb => ⟨b, _, rfl, st_of hb, .cons ⟨t, rfl, ?_⟩ .nil⟩⟩
          have := ex_t e6 ht
          rw [Int.zero_add] at this
          exact this
        subst hv4
        have st5 := st.trans (s4.trans s5)
        have p5 := (p'.stp s4).stp s5
        have hv5 : ∀ (j : Nat) x q, vs[j]? = some x → acc[j]? = some q → SuV K B5 x j q := fun j x q h1 h2 => (hv j x q h1 h2).mono (s4.base.trans s5.base)
        refine ⟨fun σ H' => ∃ (B' : Hp) (b : Addr) (xs : List V) (sh : List Evt) (u5 : Option V), Stp [p] B5 H5 B' H' ∧ Wd p u B' H' ∧ SqT K B' b xs ∧ Paired (EvAt K B') xs (sh ++ [(("asked", [i, c]) : Evt)]) ∧ (∀ e ∈ sh, ∃ n : Nat, e = (("shown", [n]) : Evt)) ∧ sh.length ≤ 2 ∧ σ = [some (.ref p), some (.ref L), some (.int (0 + (i : Nat))), some (.int (c : Nat)), some (.ref b), u5] ++ List.replicate 9 none, ?_, ?_⟩
        · refine for_rngG (ms := [p]) (W := Wd p u) (B := B5) (R := fun n => 0 ≤ n ∧ n ≤ 2) w5 (gw_cons (gw_draw rfl ev_c (by decide) (by decide)) fun x B10 e10 ⟨r, hx, h1, h2⟩ => gw_nil fun _ _ => ⟨r, by rw [hx], h1, by omega⟩) (fun n hn => ⟨hn.1, by omega⟩) fun n2 B6 H6 s6 w6 ⟨hn0, hn2⟩ => ?_
          refine for_range (lo := 0) (n := n2.toNat) (fun j σ H' => ∃ (B' : Hp) (b : Addr) (xs : List V) (sh : List Evt) (u5 : Option V), Stp [p] B5 H5 B' H' ∧ Wd p u B' H' ∧ SqT K B' b xs ∧ Paired (EvAt K B') xs (sh ++ [(("asked", [i, c]) : Evt)]) ∧ (∀ e ∈ sh, ∃ n : Nat, e = (("shown", [n]) : Evt)) ∧ sh.length ≤ j ∧ σ = [some (.ref p), some (.ref L), some (.int (0 + (i : Nat))), some (.int (c : Nat)), some (.ref b), u5] ++ List.replicate 9 none) ⟨B6, b, xs, [], u5, s6, w6, ex_t s6.base hb, paired_mono hxs fun _ _ (z : EvAt K B5 _ _) => z.mono s6.base, fun _ h => absurd h List.not_mem_nil, Nat.le_refl _, rfl⟩ ?_ ?_
          · rintro j σ H7 hj ⟨B7, b, xs, sh, u5, s7, w7, hb, hxs, hsh, hshl, rfl⟩
            dsimp only
            have hxl : xs.length = sh.length + 1 := by rw [Paired.length hxs, List.length_append]; rfl
            refine gws_asg (ms := [p]) (W := Wd p u) (B := B7) (R := fun v B8 => ∃ b2 ys zs, v = .ref b2 ∧ SqT K B8 b2 (ys ++ zs) ∧ (∃ r : Nat, Paired (EvAt K B8) ys [(("shown", [r]) : Evt)]) ∧ Paired (EvAt K B8) zs (sh ++ [(("asked", [i, c]) : Evt)])) w7 ?_ fun v B8 H8 s8 w8 ⟨b2, ys, zs, hv8, hb2, ⟨r, hys⟩, hzs⟩ => ?_
            · refine gw_catT2 (R := fun ys B8 => ∃ r : Nat, Paired (EvAt K B8) ys [(("shown", [r]) : Evt)]) (S := fun zs B8 => Paired (EvAt K B8) zs (sh ++ [(("asked", [i, c]) : Evt)])) ?_ (fun B8 e8 => gw_val (ev_var rfl) |>.imp fun v B9 e9 hv => ⟨b, xs, hv, ex_t (e8.trans e9) hb, (by intro z; rw [z] at hxl; cases hxl), (by omega), paired_mono hxs fun _ _ (z : EvAt K B7 _ _) => z.mono (e8.trans e9)⟩) (fun ys B8 B9 e ⟨r, h⟩ => ⟨r, paired_mono h fun _ _ (z : EvAt K B8 _ _) => z.mono e⟩) (fun zs B8 B9 e h => paired_mono h fun _ _ (z : EvAt K B8 _ _) => z.mono e)
              refine gw_tup (S := fun us B8 => ∃ t, ∃ r : Nat, us = [.ref t] ∧ SqT K B8 t [.str "shown", .int (r : Nat)]) (gw_cons (R1 := fun v B8 => ∃ t, ∃ r : Nat, v = .ref t ∧ SqT K B8 t [.str "shown", .int (r : Nat)]) (gw_tup (S := fun us _ => ∃ r : Nat, us = [.str "shown", .int (r : Nat)]) (gw_c1 ev_c (gw_cons (gw_draw rfl ev_c (by decide) (by decide)) fun x B9 e9 ⟨r, hx, h1, h2⟩ => gw_nil fun _ _ => ⟨r.toNat, by rw [hx, Int.toNat_of_nonneg h1]⟩)) fun us B9 e9 ⟨r, hus⟩ => ⟨by rw [hus]; exact (show 2 ≤ 100000 by decide), fun B10 t e10 ht => ⟨t, r, rfl, by rw [hus] at ht; exact st_of ht⟩⟩) fun x B9 e9 ⟨t, r, hx, ht⟩ => gw_nil fun B10 e10 => ⟨t, r, by rw [hx], ex_t e10 ht⟩) fun us B9 e9 ⟨t, r, hus, ht⟩ => ?_
              subst hus
              exact ⟨(show 1 ≤ 100000 by decide), fun B10 b3 e10 hb3 => ⟨b3, [.ref t], rfl, st_of hb3, List.cons_ne_nil _ _, (show 1 ≤ 10000 by decide), r, .cons ⟨t, rfl, ex_t e10 ht⟩ .nil⟩⟩
            · subst hv8
              refine ⟨B8, b2, _, ("shown", [r]) :: sh, _, s7.trans s8, w8, hb2, ?_, fun e he => ?_, by rw [List.length_cons]; omega, rfl⟩
              · exact (paired_app hys hzs : Paired (EvAt K B8) (ys ++ zs) ([(("shown", [r]) : Evt)] ++ (sh ++ [(("asked", [i, c]) : Evt)])))
              · rcases List.mem_cons.mp he with rfl | he
                · exact ⟨r, rfl⟩
                · exact hsh e he
          · rintro σ H7 ⟨B7, b, xs, sh, u5, s7, w7, hb, hxs, hsh, hshl, rfl⟩
            exact ⟨B7, b, xs, sh, u5, s7, w7, hb, hxs, hsh, by omega, rfl⟩
        rintro σ H6 ⟨B6, b, xs, sh, u5, s6, w6, hb, hxs, hsh, hshl, rfl⟩
        have p6 := p5.stp s6
        refine ⟨_, rfl, .inl ⟨rfl, _, sq_of p6.h⟩, ?_⟩
        refine (gw_tup (ms := [p]) (W := Wd p u) (B := B6) (S := fun us _ => us = [.ref b, .int (c : Nat)]) (R := fun v B7 => SuV K B7 v i (sh ++ [(("asked", [i, c]) : Evt)], c)) (gw_c1 (ev_var rfl) (gw_c1 (ev_var rfl) (gw_nil fun _ _ => rfl))) fun us B7 e7 hus => ?_).go w6 fun v B7 H7 s7 w7 hv7 => ?_
        · subst hus
          exact ⟨(show 2 ≤ 100000 by decide), fun B8 t e8 ht => ⟨⟨t, b, rfl, ht, view_key (ex_t (e7.trans e8) hb) (paired_mono hxs fun _ _ (z : EvAt K B6 _ _) => z.mono (e7.trans e8))⟩, ⟨sh, rfl, hsh, hshl⟩, hc1, hc8⟩⟩
        · have p7 := p6.stp s7
          refine ⟨L, vs, v, rfl, rfl, p7.h, by omega, B7, vs ++ [v], acc ++ [(sh ++ [(("asked", [i, c]) : Evt)], c)], _, _, _, _, (st5.trans (s6.trans s7)).mut p7, Wld.put (ms := [p]) w7 p7.b p7.nf, p7.self, ⟨by rw [List.length_append, List.length_append, hvl]; rfl, by rw [List.length_append, hal]; rfl, fun j x q h1 h2 => ?_⟩, rfl⟩
          by_cases hj : j < vs.length
          · rw [List.getElem?_append_left hj] at h1
            rw [List.getElem?_append_left (by omega)] at h2
            exact (hv5 j x q h1 h2).mono (s6.base.trans s7.base)
          · have hj2 : j = vs.length := by
              have := (List.getElem?_eq_some_iff.mp h1).1
              rw [List.length_append, List.length_singleton] at this
              omega
            subst hj2
            rw [List.getElem?_append_right (Nat.le_refl _), Nat.sub_self] at h1
            rw [hvl, List.getElem?_append_right (Nat.le_refl _), Nat.sub_self] at h2
            cases h1
            cases h2
            rw [hvl, hal]
            exact hv7
      · rintro σ H' ⟨B', vs, acc, u2, u3, u4, u5, st, w', p', ⟨hvl, hal, hv⟩, rfl⟩
        exact ⟨B', vs, acc, u2, u3, u4, u5, st, w', p', ⟨hvl, by omega, hv⟩, rfl⟩
  rintro σ H2 ⟨B2, vs, acc, u2, u3, u4, u5, s2, w2, p2, ⟨hvl, hal, hv⟩, rfl⟩
  have wT : Wd p u (upd B2 L (.lst vs)) H2 := Wld.keep (ms := [p]) w2 p2.b p2.h p2.nf
  have hL : upd B2 L (.lst vs) L = some (.lst vs) := upd_same
  have hvT : ∀ (i : Nat) x q, vs[i]? = some x → acc[i]? = some q → SuV K (upd B2 L (.lst vs)) x i q := fun i x q h1 h2 => (hv i x q h1 h2).mono (Ex.new p2.b)
  generalize upd B2 L (.lst vs) = B3 at wT hL hvT
  clear hv p2 s2 w2 sL wL pL
  refine gwq_asg (ms := [p]) (W := Wd p u) (B := B3) (R := fun v B4 => ∃ M ms, v = .ref M ∧ B4 M = some (.lst ((ms : List Nat).map fun (m : Nat) => V.int (m : Nat))) ∧ ms.length = acc.length ∧ ∀ (i : Nat) (m : Nat) q, ms[i]? = some m → acc[i]? = some q → m < q.2) wT ?_ fun v6 B4 H4 s4 w4 ⟨M, ms, hv6, hM, hml, hms⟩ => ?_
  · refine gw_lcL (gw_val (ev_var rfl)) fun u1 B4 e4 hu => ?_
    subst hu
    refine ⟨L, vs, fun i v _ => ∃ (m : Nat) (q : VN), acc[i]? = some q ∧ v = .int (m : Nat) ∧ m < q.2, rfl, sq_of (e4 _ _ hL), by omega, fun i v B1 B2 e h => h, fun i y hy B5 e5 => ?_, fun D ys B5 e5 hD hyl hre => ?_⟩
    · obtain ⟨q, hq⟩ : ∃ q, acc[i]? = some q := ⟨_, List.getElem?_eq_getElem (by have := (List.getElem?_eq_some_iff.mp hy).1; omega)⟩
      obtain ⟨⟨T', b, rfl, hT', hk⟩, _, h1, h8⟩ := hvT i y q hy hq
      refine LcE.pair (st_of ((e4.trans e5) _ _ hT')) rfl ?_
      exact (gw_draw' (P := fun n => n = (q.2 : Nat)) rfl (gw_ev (v := .int (q.2 : Nat)) (ev_var rfl) fun _ _ => ⟨_, rfl, rfl⟩) (fun n hn => by omega)).imp fun v B6 e6 ⟨r, n, g1, g2, g3, g4⟩ => ⟨r.toNat, q, hq, by rw [g1, Int.toNat_of_nonneg g3], by omega⟩
    · obtain ⟨ms, rfl, hms⟩ := nats_of (P := fun i m => ∃ q : VN, acc[i]? = some q ∧ m < q.2) (ys := ys) fun i y hy => by
        obtain ⟨m, q, g1, g2, g3⟩ := hre i y hy
        exact ⟨m, g2, q, g1, g3⟩
      rw [List.length_map] at hyl
      refine ⟨D, ms, rfl, hD, by omega, fun i m q hm hq => ?_⟩
      obtain ⟨q2, g1, g2⟩ := hms i m hm
      rw [hq] at g1
      cases g1
      exact g2
  subst hv6
  refine ⟨(show 0 ≤ sizeLine by omega), fun N nN => ?_⟩
  obtain ⟨pN, sN⟩ := (Stp.refl w4.e : Stp [p] B4 H4 B4 H4).prv (o := .lst []) nN (fun m hm => Wld.ne w4 hm)
  have wN : Wd p u B4 (upd H4 N (.lst [])) := Wd.cell w4 nN
  generalize upd H4 N (.lst []) = H5 at pN sN wN
  have hL4 := s4.base _ _ hL
  have hv4 : ∀ (i : Nat) x q, vs[i]? = some x → acc[i]? = some q → SuV K B4 x i q := fun i x q h1 h2 => (hvT i x q h1 h2).mono s4.base
  dsimp only [gName]
  refine ⟨fun σ H' => ∃ (B' : Hp) (us : List V) (u2 : Option V), Stp [p] B4 H4 B' H' ∧ Wd p u B' H' ∧ Prv [p] H4 B' H' N (.lst us) ∧ DpAll K B' us ((sureE acc ms).map rowD) ∧ σ = [some (.ref p), some (.ref L), u2, u3, u4, u5, some (.ref M), some (.ref N)] ++ List.replicate 7 none, ?_, ?_⟩
  · have hml9 : ms.length ≤ 9 := by omega
    refine for_rngG (ms := [p]) (W := Wd p u) (B := B4) (R := fun n => n = (acc.length : Nat)) wN (gw_cons (R1 := fun v _ => v = .int (acc.length : Nat)) ?_ fun x B10 e10 hx => gw_nil fun _ _ => ⟨_, by rw [hx], rfl⟩) (fun n hn => by omega) fun n B7 H7 s7 w7 hn => ?_
    · rw [← hvl]
      exact gw_val (ev_lenS (ev_var rfl) (.inl (sq_of hL4)))
    · subst hn
      refine for_range (lo := 0) (n := ((acc.length : Nat) : Int).toNat) (fun i σ H' => ∃ (B' : Hp) (us : List V) (u2 : Option V), Stp [p] B4 H4 B' H' ∧ Wd p u B' H' ∧ Prv [p] H4 B' H' N (.lst us) ∧ us.length = i ∧ DpAll K B' us (((sureE acc ms).take i).map rowD) ∧ σ = [some (.ref p), some (.ref L), u2, u3, u4, u5, some (.ref M), some (.ref N)] ++ List.replicate 7 none) ⟨B7, [], _, sN.trans s7, w7, pN.stp s7, rfl, by rw [List.take_zero]; exact .nil, rfl⟩ ?_ ?_
      · rintro i σ H8 hi ⟨B8, us, u2, st, w8, pr, hul, hd, rfl⟩
        have hia : i < acc.length := by omega
        have e0 : (0 : Int) + (i : Nat) = (i : Nat) := Int.zero_add _
        rw [e0]
        dsimp only [gName]
        have eB := st.base
        obtain ⟨q, hq⟩ : ∃ q, acc[i]? = some q := ⟨_, List.getElem?_eq_getElem hia⟩
        obtain ⟨m, hm⟩ : ∃ m, ms[i]? = some m := ⟨_, List.getElem?_eq_getElem (by omega)⟩
        obtain ⟨x, hx⟩ : ∃ x, vs[i]? = some x := ⟨_, List.getElem?_eq_getElem (by omega)⟩
        have hmq := hms i m q hm hq
        obtain ⟨⟨TT, b, rfl, hTT, hk⟩, _, h1, h8⟩ := hv4 i x q hx hq
        have hatL : atI vs (i : Nat) = some (.ref TT) := by
          unfold atI
          rw [ixN_nat (by omega)]
          exact hx
        have hatM : atI (ms.map fun m => V.int (m : Nat)) (i : Nat) = some (.int (m : Nat)) := by
          unfold atI
          rw [ixN_nat (by rw [List.length_map]; omega)]
          show (ms.map fun m => V.int (m : Nat))[i]? = _
          rw [List.getElem?_map, hm]
          rfl
        have hL8 := eB _ _ hL4
        have hM8 := eB _ _ hM
        have hT8 := eB _ _ hTT
        refine ⟨_, rfl, .inl ⟨rfl, _, sq_of pr.h⟩, ?_⟩
        refine (gw_tup (ms := [p]) (W := Wd p u) (B := B8) (S := fun us2 B9 => ∃ x, us2 = [.ref b, x] ∧ Dp K B9 x (.tuple ((sureL q.2 m).map ratD))) (R := fun v B9 => Dp K B9 v (rowD (viewK q.1, sureL q.2 m))) (gw_c1 (v := .ref b) (ev_ixT (ev_ixL (ev_var rfl) (ev_var rfl) (sq_of hL8) hatL) ev_c (st_of hT8) rfl) (gw_cons (R1 := fun x B9 => Dp K B9 x (.tuple ((sureL q.2 m).map ratD))) ?_ fun x B9 e9 hx => gw_nil fun B10 e10 => ⟨x, rfl, dp_mono e10 hx⟩)) fun us2 B9 e9 ⟨x, hus, hx⟩ => ?_).go w8 fun v9 B9 H9 s9 w9 hv9 => ?_
        · refine gw_cb (S := fun vs2 B9 => ∃ D ys, vs2 = [.ref D] ∧ B9 D = some (.lst ys) ∧ DpAll K B9 ys ((sureL q.2 m).map ratD)) (gw_cons (R1 := fun v B9 => ∃ D ys, v = .ref D ∧ B9 D = some (.lst ys) ∧ DpAll K B9 ys ((sureL q.2 m).map ratD)) ?_ fun x B9 e9 ⟨D, ys, hx, hD, hys⟩ => gw_nil fun B10 e10 => ⟨D, ys, by rw [hx], e10 _ _ hD, dpa_mono e10 hys⟩) fun vs2 B9 e9 ⟨D, ys, hv2, hD, hys⟩ => ?_
          · refine gw_lcR (Rn := fun n => n = q.2) (Re := fun j v B9 => Dp K B9 v (ratD (if j = m then 1 else 0))) (gw_c1 (v := .int (q.2 : Nat)) (ev_ixT (ev_ixL (ev_var rfl) (ev_var rfl) (sq_of hL8) hatL) ev_c (st_of hT8) rfl) (gw_nil fun _ _ => ⟨q.2, rfl, rfl⟩)) (fun n hn => by omega) (fun j v B1 B2 e h => dp_mono e h) (fun n j B9 hn hj e9 => LcE.name rfl ?_) fun n D ys B9 e9 hn hyl hD hre => ⟨D, ys, rfl, hD, ?_⟩
            · refine (gw_pair (q := if j = m then 1 else 0) (n := if decide (V.int (j : Nat) = V.int (m : Nat)) = true then 1 else 0) (d := 1) (gw_val (ev_intB (ev_op (ev_var rfl) (ev_ixL (ev_var rfl) (ev_var rfl) (sq_of (e9 _ _ hM8)) hatM) fun H1 _ Q q => ⟨rfl, q H1 (Ex.refl _)⟩))) (fun B10 e10 => gw_val ev_c) ?_ ?_).imp fun v B10 e10 ⟨c, hv, hc⟩ => by rw [hv]; exact .tup (st_of hc) (.cons (.int _) (.cons (.int _) .nil))
              · by_cases c : j = m
                · subst c; rw [if_pos rfl, decide_eq_true rfl]; rfl
                · rw [if_neg c, decide_eq_false (fun z => c (by have := V.int.inj z; omega))]; rfl
              · by_cases c : j = m
                · rw [if_pos c]; rfl
                · rw [if_neg c]; rfl
            · subst hn
              refine dpa_of (by rw [List.length_map, sureL_len, hyl]) fun j y d hy hd => ?_
              have := hre j y hy
              rw [List.getElem?_map] at hd
              obtain ⟨q', hq', rfl⟩ := Option.map_eq_some_iff.mp hd
              unfold sureL at hq'
              rw [List.getElem?_map] at hq'
              obtain ⟨j', hj', rfl⟩ := Option.map_eq_some_iff.mp hq'
              have : j' = j := by
                obtain ⟨h1, h2⟩ := List.getElem?_eq_some_iff.mp hj'
                rw [List.getElem_range] at h2
                exact h2.symm
              subst this
              exact hre j' y hy
          · subst hv2
            intro B10 H10 e10 w10 Q qq
            refine ⟨D, ys, rfl, .inl ⟨sq_of (w10.e _ _ (e10 _ _ hD)), fun l2 nl2 => ?_⟩⟩
            obtain ⟨s11, w11⟩ := Wld.new (ms := [p]) (W := Wd p u) (o := .tup ys) w10 nl2
            exact qq _ _ _ s11 w11 (.tup (st_of upd_same) (dpa_mono (e10.trans s11.base) hys))
        · subst hus
          exact ⟨(show 2 ≤ 100000 by decide), fun B10 t e10 ht => .tup (st_of ht) (.cons (dp_mono (eB.trans (e9.trans e10)) hk.2.2) (.cons (dp_mono e10 hx) .nil))⟩
        · have pr9 := pr.stp s9
          refine ⟨N, us, v9, rfl, rfl, pr9.h, by omega, B9, us ++ [v9], _, (st.trans s9).mut pr9, Wld.put (ms := [p]) w9 pr9.b pr9.nf, pr9.self, by rw [List.length_append, List.length_singleton, hul], ?_, rfl⟩
          have hse : (sureE acc ms)[i]? = some (viewK q.1, sureL q.2 m) := by
            unfold sureE
            have hz : (acc.zip ms)[i]? = some (q, m) := List.getElem?_zip_eq_some.mpr ⟨hq, hm⟩
            rw [List.getElem?_map, hz]
            rfl
          rw [List.take_add_one, hse, Option.toList_some, List.map_append]
          exact dpa_appB (dpa_mono s9.base hd) (.cons hv9 .nil)
      · rintro σ H8 ⟨B8, us, u2, st, w8, pr, hul, hd, rfl⟩
        rw [List.take_of_length_le (by rw [sureE_len hml.symm]; omega)] at hd
        exact ⟨B8, us, u2, st, w8, pr, hd, rfl⟩
  rintro σ H6 ⟨B6, us, u2, s6, w6, p6, hd, rfl⟩
  have wT2 : Wd p u (upd B6 N (.lst us)) H6 := Wld.keep (ms := [p]) w6 p6.b p6.h p6.nf
  have hN : upd B6 N (.lst us) N = some (.lst us) := upd_same
  have eN : Ex B6 (upd B6 N (.lst us)) := Ex.new p6.b
  have eBN := s6.base.trans eN
  have hL6 := eBN _ _ hL4
  have hM6 := eBN _ _ hM
  have hv6 : ∀ (i : Nat) x q, vs[i]? = some x → acc[i]? = some q → SuV K (upd B6 N (.lst us)) x i q := fun i x q h1 h2 => (hv4 i x q h1 h2).mono eBN
  have hd6 := dpa_mono eN hd
  clear eBN eN
  generalize upd B6 N (.lst us) = B7 at wT2 hN hL6 hM6 hv6 hd6
  clear hv4 hL4 hM hvT hL pN sN wN p6 s6 w6 hd s4 w4 wT
  have hes := sureE_len hml.symm
  have hpv : PvAt K B7 vs acc := paired_of hvl fun i x q h1 h2 => (hv6 i x q h1 h2).1
  have hnd : (acc.map (·.1)).Nodup := su_nodup hvl hv6
  have hlt : ∀ p ∈ acc.zip ms, p.2 < p.1.2 := fun p hp => by
    obtain ⟨i, hi⟩ := List.getElem?_of_mem hp
    obtain ⟨h1, h2⟩ := List.getElem?_zip_eq_some.mp hi
    exact hms i p.2 p.1 h2 h1
  have h12 : ∀ p ∈ acc, p.2 ≤ 8 ∧ p.1.length ≤ 3 ∧ (∀ e ∈ p.1, e.2.length ≤ 2) ∧ NmV p.1 := fun p hp => su_all hvl hv6 p hp
  refine gwq_asg (ms := [p]) (W := Wd p u) (B := B7) (R := fun v B8 => ∃ c l1 l2, v = .ref c ∧ B8 c = some (.lst [.ref l1, .ref l2]) ∧ B8 l1 = some (.lst vs) ∧ B8 l2 = some (.lst (ms.map fun m => V.int (m : Nat)))) wT2 ?_ fun v9 B8 H8 s8 w8 ⟨c, l1, l2, hv9, hc, hl1, hl2⟩ => ?_
  · refine gw_lst (S := fun xs B8 => ∃ l1 l2, xs = [.ref l1, .ref l2] ∧ B8 l1 = some (.lst vs) ∧ B8 l2 = some (.lst (ms.map fun m => V.int (m : Nat)))) (gw_cons (gw_listOf (R := fun xs _ => xs = vs) ((gw_val (ev_var rfl)).imp fun x B8 e8 hx => ⟨L, vs, hx, sq_of (e8 _ _ hL6), rfl⟩) fun xs B1 B2 e h => h) fun x B8 e8 ⟨l1, xs, hx, h1, hxs⟩ => gw_cons (gw_listOf (R := fun xs _ => xs = ms.map fun m => V.int (m : Nat)) ((gw_val (ev_var rfl)).imp fun x B9 e9 hx => ⟨M, _, hx, sq_of (e9 _ _ (e8 _ _ hM6)), rfl⟩) fun xs B1 B2 e h => h) fun y B9 e9 ⟨l2, ys, hy, h2, hys⟩ => gw_nil fun B10 e10 => ⟨l1, l2, by rw [hx, hy], hxs ▸ e10 _ _ (e9 _ _ h1), hys ▸ e10 _ _ h2⟩) fun xs B8 e8 ⟨l1, l2, hx, h1, h2⟩ => ?_
    subst hx
    exact ⟨(show 2 ≤ 100000 by decide), fun B9 c e9 hc => ⟨c, l1, l2, rfl, hc, e9 _ _ h1, e9 _ _ h2⟩⟩
  subst hv9
  have hpv8 : PvAt K B8 vs acc := paired_mono hpv fun x q ⟨T', b, g1, g2, g3⟩ => ⟨T', b, g1, s8.base _ _ g2, key_mono g3 s8.base⟩
  refine gwq_asg (ms := [p]) (W := Wd p u) (B := B8) (R := fun v B9 => PlanAt w K B9 v (sureE acc ms)) w8 ?_ fun v10 B9 H9 s9 w9 h10 => ?_
  · refine gw_fn (S := fun xs _ => xs = [.ref l1, .ref l2]) (gw_c1 (ev_ixL (ev_var rfl) ev_c (sq_of hc) at0) (gw_c1 (ev_ixL (i := 1) (ev_var rfl) ev_c (sq_of hc) rfl) (gw_nil fun _ _ => rfl))) fun xs B9 e9 hx => ?_
    subst hx
    exact gw_base fun B10 H10 e10 w10 Q q => ⟨B10, l1, l2, vs, acc, ms, rfl, w10, sq_of (e10 _ _ (e9 _ _ hl1)), paired_mono hpv8 fun x q ⟨T', b, g1, g2, g3⟩ => ⟨T', b, g1, (e9.trans e10) _ _ g2, key_mono g3 (e9.trans e10)⟩, sq_of (e10 _ _ (e9 _ _ hl2)), hml.symm, by omega, hnd, fun p hp => by have := (h12 p hp).1; omega, hlt, fun v B11 H11 s11 h11 => q v B11 H11 s11 h11⟩
  have e79 := s8.base.trans s9.base
  have hok := sureE_ok acc ms
  have hln : ∀ e ∈ sureE acc ms, e.2.length ≤ 8 := fun e he => by
    unfold sureE at he
    obtain ⟨q, hq, rfl⟩ := List.mem_map.mp he
    have := (h12 q.1 (List.of_mem_zip hq).1).1
    show (sureL q.1.2 q.2).length ≤ 8
    rw [sureL_len]; omega
  have hbad : planBad [] 0 (sureE acc ms) = none := planBad_none _ _ _ (sureE_good hlt) (by
    rw [sureE_keys hml.symm]
    have e : (acc.map fun p => viewK p.1) = (acc.map (·.1)).map viewK := by rw [List.map_map]; rfl
    rw [e]
    exact List.Pairwise.map _ (fun a b h z => h (viewK_inj z)) hnd) fun e he h => nomatch h
  have hvk : ∀ e ∈ sureE acc ms, ∃ q ∈ acc, e.1 = viewK q.1 := fun e he => by
    unfold sureE at he
    obtain ⟨q, hq, rfl⟩ := List.mem_map.mp he
    exact ⟨q.1, (List.of_mem_zip hq).1, rfl⟩
  refine gwq_asg (ms := [p]) (W := Wd p u) (B := B9) (R := fun v B10 => PlanAt w K B10 v (sureE acc ms)) w9 ?_ fun v14 B10 H10 s10 w10 h14 => ?_
  · refine gw_mkPlan T 20 ?_ (by omega) (by decide) (fun e he => ⟨by have := hln e he; omega, fun q hq => lotq_sz (hok e he q hq)⟩) hbad
    refine gw_lcL (gw_val (ev_var rfl)) fun u1 B10 e10 hu => ?_
    subst hu
    have e710 := e79.trans e10
    have hd10 := dpa_mono e710 hd6
    have husl := dpa_len hd10
    rw [List.length_map] at husl
    refine ⟨N, us, fun i v B11 => ∃ e, (sureE acc ms)[i]? = some e ∧ EinAt K B11 B11 v e, rfl, sq_of (e710 _ _ hN), by omega, fun i v B1 B2 e ⟨en, g1, g2⟩ => ⟨en, g1, einb_mono g2 e⟩, fun i y hy B11 e11 => ?_, fun D ys B11 e11 hD hyl hre => ⟨D, ys, rfl, hD, paired_of (by rw [hyl, husl]) fun i y e hy he => ?_⟩⟩
    · obtain ⟨en, hen⟩ : ∃ en, (sureE acc ms)[i]? = some en := ⟨_, List.getElem?_eq_getElem (by have := (List.getElem?_eq_some_iff.mp hy).1; omega)⟩
      have hyd : Dp K B11 y (rowD en) := dp_mono e11 (dpa_at hd10 hy (by rw [List.getElem?_map, hen]; rfl))
      obtain ⟨t, xs, rfl, ht, hxs⟩ := dp_tupK hyd
      obtain ⟨x1, x2, rfl, hx1, hx2⟩ := dpa_two hxs
      obtain ⟨t2, ys, rfl, ht2, hys⟩ := dp_tupK hx2
      obtain ⟨q0, hq0, hek⟩ := hvk en (List.mem_of_getElem? hen)
      have hk1 : ∃ b, x1 = .ref b ∧ KeyAt K B11 b en.1 := by
        rw [hek] at hx1 ⊢
        exact key_ofD hx1
      obtain ⟨b, rfl, hkb⟩ := hk1
      have hyl2 := dpa_len hys
      rw [List.length_map] at hyl2
      have hl8 := hln en (List.mem_of_getElem? hen)
      have hoke := hok en (List.mem_of_getElem? hen)
      refine LcE.pair ht rfl ?_
      refine (gw_tup (S := fun vs2 B12 => ∃ l us2, vs2 = [.ref b, .ref l] ∧ B12 l = some (.lst us2) ∧ RatsAt K B12 us2 en.2) (gw_c1 (ev_var rfl) (gw_cons (R1 := fun v B12 => ∃ l us2, v = .ref l ∧ B12 l = some (.lst us2) ∧ RatsAt K B12 us2 en.2) ?_ fun x B12 e12 ⟨l2, us2, hx, g1, g2⟩ => gw_nil fun B13 e13 => ⟨l2, us2, by rw [hx], e13 _ _ g1, rats_mono g2 e13⟩)) fun vs2 B12 e12 ⟨l2, us2, hv, g1, g2⟩ => ?_)
      · refine gw_lcT (gw_val (ev_var rfl)) fun u1 B12 e12 hu => ?_
        subst hu
        refine ⟨t2, ys, fun i v B13 => ∃ q, en.2[i]? = some q ∧ RatAt K B13 v q, rfl, ex_t e12 ht2, by omega, fun i v B1 B2 e ⟨q, h1, h2⟩ => ⟨q, h1, ratAt_mono e h2⟩, fun i z hz B13 e13 => ?_, fun D zs B13 e13 hD hzl hre => ⟨D, zs, rfl, hD, paired_of (by rw [hzl, hyl2]) fun i z q hz hq => ?_⟩⟩
        · obtain ⟨q, hq⟩ : ∃ q, en.2[i]? = some q := ⟨_, List.getElem?_eq_getElem (by have := (List.getElem?_eq_some_iff.mp hz).1; omega)⟩
          have hzd : Dp K B13 z (ratD q) := dp_mono (e12.trans e13) (dpa_at hys hz (by rw [List.getElem?_map, hq]; rfl))
          obtain ⟨t3, zs, rfl, ht3, hzs⟩ := dp_tupK hzd
          obtain ⟨z1, z2, rfl, hz1, hz2⟩ := dpa_two hzs
          cases hz1
          cases hz2
          have dp := q.den_pos
          refine LcE.pair ht3 rfl ?_
          refine (gw_ratio2 (n := q.num) (d := (q.den : Int)) (gw_val (ev_var rfl)) (fun B4 e4 => gw_val (ev_var rfl)) (by omega) ?_).imp fun v B4 e4 r => ⟨q, hq, ?_⟩
          · rw [Int.natAbs_natCast]
            have := (lotq_sz (hoke q (List.mem_of_getElem? hq))).2
            exact Nat.lt_trans this (by decide)
          · rw [Int.toNat_natCast, Rat.mkRat_self] at r
            exact r
        · obtain ⟨q2, h1, h2⟩ := hre i z hz
          rw [hq] at h1
          cases h1
          exact h2
      · subst hv
        exact ⟨(show 2 ≤ 100000 by decide), fun B13 a e13 ha => ⟨en, hen, a, _, l2, us2, rfl, st_of ha, key_mono hkb (e12.trans e13), sq_of (e13 _ _ g1), rats_mono g2 e13⟩⟩
    · obtain ⟨en, h1, h2⟩ := hre i y hy
      rw [he] at h1
      cases h1
      exact h2
  have h10' := h10.mono s10.base
  refine gwq_when (ms := [p]) (W := Wd p u) (B := B10) (R := fun (b : Bool) _ => b = false) w10 (gw_orF (gw_notF (gw_isT (gw_isPlan T rfl h10'))) fun B11 e11 => gw_notF (gw_isT ((gw_same (d := .list [.bool true, .bool true]) (e := .list [.bool true, .bool true]) ?_ (dep_two 4 true true)).imp fun v B12 e12 hv => by rw [hv, same_t rfl]))) (fun _ _ _ _ hb => Bool.noConfusion hb) fun B11 H11 s11 w11 _ => ?_
  · have q1 := h10'.mono e11
    have q2 := h14.mono e11
    refine gw_cons (R1 := fun v B12 => Dp K B12 v (.list [.bool true, .bool true])) ?_ fun x B12 e12 hx => gw_cons (R1 := fun v B12 => Dp K B12 v (.list [.bool true, .bool true])) ?_ fun y B13 e13 hy => gw_nil fun B14 e14 => ⟨x, y, rfl, dp_mono (e13.trans e14) hx, dp_mono e14 hy⟩
    · refine gw_lst (S := fun xs _ => xs = [.bl true, .bl true]) (gw_cons (gw_val (ev_planEq (ev_var rfl) (ev_var rfl) q1 q2)) fun x B12 e12 hx => gw_cons (gw_val (ev_planEq (ev_var rfl) (ev_var rfl) (q2.mono e12) (q1.mono e12))) fun y B13 e13 hy => gw_nil fun _ _ => by rw [hx, hy, decide_eq_true rfl]) fun xs B12 e12 hx => ?_
      subst hx
      exact ⟨(show 2 ≤ 100000 by decide), fun B13 a e13 ha => .lst (sq_of ha) (.cons (.bl _) (.cons (.bl _) .nil))⟩
    · refine gw_lst (S := fun xs _ => xs = [.bl true, .bl true]) (gw_c1 ev_c (gw_c1 ev_c (gw_nil fun _ _ => rfl))) fun xs B12 e12 hx => ?_
      subst hx
      exact ⟨(show 2 ≤ 100000 by decide), fun B13 a e13 ha => .lst (sq_of ha) (.cons (.bl _) (.cons (.bl _) .nil))⟩
  have e710 := e79.trans s10.base
  have e711 := e710.trans s11.base
  refine gws_ret (ms := [p]) (W := Wd p u) (B := B11) (R := fun v _ => v = .bl true) w11 ?_ fun v B12 H12 s12 w12 hv => by rw [hv]; exact k H12
  refine gw_andT ?_ fun B12 e12 => ?_
  · refine (gw_same (d := .list ((sureE acc ms).map rowD)) (e := .list ((sureE acc ms).map rowD)) ?_ (dep_rows (by omega) fun e he => ?_)).imp fun v B12 e12 hv => by rw [hv, same_t rfl]
    · refine gw_cons (R1 := fun v B12 => Dp K B12 v (.list ((sureE acc ms).map rowD))) ?_ fun x B12 e12 hx => gw_cons (R1 := fun v B13 => Dp K B13 v (.list ((sureE acc ms).map rowD))) (gw_dp rfl (.lst (sq_of ((e711.trans e12) _ _ hN)) (dpa_mono (e711.trans e12) hd6))) fun y B13 e13 hy => gw_nil fun B14 e14 => ⟨x, y, rfl, dp_mono (e13.trans e14) hx, dp_mono e14 hy⟩
      refine gw_fn (S := fun xs _ => xs = [v10]) (gw_c1 (ev_var rfl) (gw_nil fun _ _ => rfl)) fun xs B12 e12 hx => ?_
      subst hx
      exact gw_base fun B13 H13 e13 w13 Q q => ⟨B13, v10, sureE acc ms, rfl, w13, h10'.mono (s11.base.trans (e12.trans e13)), by omega, fun e he => by have := hln e he; omega, fun v B14 H14 s14 h14 => q v B14 H14 s14 h14⟩
    · obtain ⟨q0, hq0, hek⟩ := hvk e he
      have := h12 q0 hq0
      rw [hek]
      exact ⟨dep_view (by omega) fun x hx => by have := this.2.2.1 x hx; omega, by have := hln e he; omega⟩
  · have e712 := e711.trans e12
    have e812 := ((s9.base.trans s10.base).trans s11.base).trans e12
    have hvD : ∀ {B13 : Hp}, Ex B7 B13 → DpAll K B13 vs (acc.map vrowD) := fun e => dpa_of (by rw [List.length_map]; exact hvl) fun i x d hx hd => by
      rw [List.getElem?_map] at hd
      obtain ⟨q, hq, rfl⟩ := Option.map_eq_some_iff.mp hd
      obtain ⟨⟨T', b, rfl, g1, g2⟩, _⟩ := hv6 i x q hx hq
      exact .tup (st_of (e _ _ g1)) (.cons (key_mono g2 e).2.2 (.cons (.int _) .nil))
    have hsh := su_shaped (ms := ms) fun p hp => (h12 p hp).2.2.2
    refine (gw_eqD (d := .list [.list (acc.map vrowD), .list (ms.map fun m => .int (m : Nat))]) (e := .list [.list (acc.map vrowD), .list (ms.map fun m => .int (m : Nat))]) (gw_dp rfl (.lst (sq_of (e812 _ _ hc)) (.cons (.lst (sq_of (e812 _ _ hl1)) (hvD e712)) (.cons (.lst (sq_of (e812 _ _ hl2)) (dpa_ints ms)) .nil)))) (fun B13 e13 => ?_) hsh hsh).imp fun v B13 e13 hv => by rw [hv, SeqAt.eqv_refl _ (SeqAt.canLay_of_shaped hsh)]
    refine gw_lst (S := fun xs _ => xs = [.ref L, .ref M]) (gw_c1 (ev_var rfl) (gw_c1 (ev_var rfl) (gw_nil fun _ _ => rfl))) fun xs B14 e14 hx => ?_
    subst hx
    exact ⟨(show 2 ≤ 100000 by decide), fun B15 a e15 ha => by
      have e := e712.trans (e13.trans (e14.trans e15))
      exact .lst (sq_of ha) (.cons (.lst (sq_of (e _ _ hL6)) (hvD e)) (.cons (.lst (sq_of (e _ _ hM6)) (dpa_ints ms)) .nil))⟩
end
end LL
/-! dicts with the same nested keys: equal exactly if the values are, key by key -/
namespace ND
open PySem PySem.Spec PySem.W PyProof.Rows L2
section
variable {prog : Program} {w : World} {K : Type} [DecidableEq K] {knd : HeapKind prog w K} {A : Around} {E : Value → Shared → Prop} {s : Shared} {a b : Addr} {ka kb : List (K × Addr × Value)}
def LikesB (A : Around) (s : Shared) (prog : Program) (w : World) (ka kb : List (K × Addr × Value)) (g : K → Bool) : Prop :=
  ka.length = kb.length ∧ ∀ (i : Nat) (k : K) (ad : Addr) (v : Value), ka[i]? = some (k, ad, v) → ∃ (j : Nat) (ad' : Addr) (u : Value), kb[j]? = some (k, ad', u) ∧ SeqAt.EqP prog w A s v u (g k)
def tellB (ka : List (K × Addr × Value)) (g : K → Bool) (i : Nat) : Bool := match ka[i]? with | some x => g x.1 | none => true
theorem tell_all (g : K → Bool) : (List.range' 0 ka.length 1).all (tellB ka g) = ka.all fun x => g x.1 := by
  rw [Bool.eq_iff_iff, List.all_eq_true, List.all_eq_true]
  constructor
  · intro h x hx
    obtain ⟨i, hi⟩ := List.getElem?_of_mem hx
    have := h i (List.mem_range'_1.mpr ⟨Nat.zero_le _, by have := (List.getElem?_eq_some_iff.mp hi).1; omega⟩)
    unfold tellB at this
    rw [hi] at this
    exact this
  · intro h i _
    unfold tellB
    cases hi : ka[i]? with
    | none => rfl
    | some x => exact h x (List.mem_of_getElem? hi)
theorem same_dictsB {nm : String} {Q : Bool → Shared → Prop} {g : K → Bool} (hr : knd.room A) (ha : (a == sysModules) = false) (hb : (b == sysModules) = false) (da : s.heap.DictOfH knd a ka) (db : s.heap.DictOfH knd b kb) (hl : LikesB A s prog w ka kb g) (h : Q (ka.all fun x => g x.1) s) :
    wpAny (model prog w) A (Builtin.Dict.samePairs nm a b) Q E s := by
  obtain ⟨oa, es, ea, ga, _, xa, la, ia, _⟩ := da
  obtain ⟨ob, fs, eb, gb, _, xb, lb, ib, nb⟩ := db
  obtain ⟨hlen, hlike⟩ := hl
  have sa := size_of_entries la
  have sb := size_of_entries lb
  have readA : ∀ {β : Type} {f : Array DictEntry → Sem β} {R : β → Shared → Prop}, wpAny (model prog w) A (f es) R E s → wpAny (model prog w) A (dictEntries a >>= f) R E s := fun q => wpAny_bind (wpAny_dictEntries ga xa q)
  have readB : ∀ {β : Type} {f : Array DictEntry → Sem β} {R : β → Shared → Prop}, wpAny (model prog w) A (f fs) R E s → wpAny (model prog w) A (dictEntries b >>= f) R E s := fun q => wpAny_bind (wpAny_dictEntries gb xb q)
  have ageA : ∀ {β : Type} {f : Nat → Sem β} {R : β → Shared → Prop}, wpAny (model prog w) A (f ea) R E s → wpAny (model prog w) A (dictEpoch a >>= f) R E s := fun q => wpAny_bind (wpAny_dictEpoch ga xa q)
  have seenA : Builtin.Dict.showsAll a = pure () := by unfold Builtin.Dict.showsAll; simp [ha]
  have seenB : Builtin.Dict.showsAll b = pure () := by unfold Builtin.Dict.showsAll; simp [hb]
  unfold Builtin.Dict.samePairs
  rw [seenA, seenB]
  refine wpAny_bind (wpAny_pure (wpAny_bind (wpAny_pure (readA (readB ?_)))))
  have differ : (es.size != fs.size) = false := by rw [sa, sb, hlen]; simp
  rw [differ, if_neg Bool.false_ne_true]
  refine ageA (wpAny_bind ?_)
  rw [Std.Legacy.Range.forIn_eq_forIn_range']
  refine wpAny_forIn_list _ (fun rest q s' => s' = s ∧ q = (none, ()) ∧ (∀ i ∈ rest, i < es.size) ∧ (ka.all fun x => g x.1) = rest.all (tellB ka g)) _ ?_ ?_ _ _ ⟨rfl, rfl, fun i hi => ?_, ?_⟩
  · rintro i rest q s' ⟨hs, rfl, hi, hall⟩
    subst hs
    have hi0 := hi i List.mem_cons_self
    have hik : i < ka.length := by omega
    obtain ⟨k, ad, v, hkv⟩ : ∃ k ad v, ka[i]? = some (k, ad, v) := ⟨_, _, _, List.getElem?_eq_getElem hik⟩
    have key := ia _ (List.mem_of_getElem? hkv)
    obtain ⟨j, ad', u, hj, he⟩ := hlike i k ad v hkv
    have ht : tellB ka g i = g k := by unfold tellB; rw [hkv]
    rw [List.all_cons, ht] at hall
    refine readA ?_
    rw [entry_at la, hkv]
    refine wpAny_bind (wpAny_holding (wpAny_bind (wpAny_dictFind_heap hr key gb xb lb ib nb (fun z => absurd hj (z j _)) fun j' p hp => ?_)))
    have ej : j' = j := idxH_unique nb hp hj
    subst ej
    rw [hj] at hp
    cases hp
    refine readB ?_
    rw [entry_at lb, hj]
    refine wpAny_holding (he _ _ ?_)
    cases hg : g k with
    | false =>
      rw [hg, Bool.false_and] at hall
      rw [hall] at h
      exact wpAny_pure (wpAny_pure h)
    | true =>
      rw [hg, Bool.true_and] at hall
      refine ageA ?_
      have same : (ea != ea) = false := by simp
      rw [same]
      exact wpAny_pure ⟨rfl, rfl, fun m hm => hi m (List.mem_cons_of_mem _ hm), hall⟩
  · rintro q s' ⟨rfl, rfl, _, hall⟩
    rw [List.all_nil] at hall
    rw [hall] at h
    exact wpAny_pure h
  · have := (List.mem_range'_1.mp hi).2
    simpa [Std.Legacy.Range.size] using this
  · rw [← tell_all]
    have e : es.size = ka.length := sa
    simp [Std.Legacy.Range.size, e]
theorem eq_dictsB {Q : Value → Shared → Prop} {g : K → Bool} (hu : A.units < cLine) (hr : knd.room A.in1) (ha : (a == sysModules) = false) (hb : (b == sysModules) = false) (da : s.heap.DictOfH knd a ka) (db : s.heap.DictOfH knd b kb) (hl : LikesB A.in1 s prog w ka kb g)
    (h : Q (.bool (ka.all fun x => g x.1)) s) : wpAny (model prog w) A (compareOp .Eq (.ref a) (.ref b)) Q E s := by
  have ta := da.typeIs
  have tb := db.typeIs
  have two : ∀ (nm : String) (R : Value × Value → Shared → Prop), R (.ref a, .ref b) s → wpAny (model prog w) A.in1 (Builtin.Dict.dictSlotArgs nm ⟨[.ref a, .ref b], []⟩) R E s := fun nm R q => wpAny_bind (wpAny_notOrdered_dict ta (wpAny_pure q))
  refine wpAny_richCompare_same_room (op := .Eq) ta tb PySem.F.slot_dict_eq (wpAny_call_entry PySem.F.slot_dict_eq ta PySem.F.entry_dict_eq (wpAny_bind (two _ _ (wpAny_bind (wpAny_isInstance tb PySem.F.sub_dict_dict ?_)))) (PySem.F.args_dict_eq_2 _ _)) hu
  rw [if_neg (by decide)]
  exact wpAny_bind (wpAny_pure (wpAny_bind (wpAny_pure (wpAny_bind (same_dictsB hr ha hb da db hl (wpAny_pure ⟨_, rfl, nofun, by
    have e : ((ka.all fun x => g x.1) == true) = ka.all fun x => g x.1 := by cases (ka.all fun x => g x.1) <;> rfl
    rw [e]; exact h⟩))))))
end
section
variable {X : Cx} {pins : List (Addr × Obj)} {σ : L2.St} {H : Hp} {s : Shared}
/-- the second dict has each key of the first; g tells whether the values are equal -/
def HitsB (K : PySem.W.Frag) (H : Hp) (kvs ls : List NE) (g : NestedKey → Bool) : Prop := kvs.length = ls.length ∧ ∀ e ∈ kvs, ∃ u d d', nGet ls e.1 = some u ∧ Dp K H e.2.2 d ∧ Dp K H u d' ∧ SeqAt.shaped d = true ∧ SeqAt.shaped d' = true ∧ PyData.eqv d d' = g e.1
theorem likes_ofB (I : Inv X pins σ H s) {A : Around} (hu : A.units + 64 < cLine) {kvs ls : List NE} {xa xb : List (NestedKey × Addr × Value)} {g : NestedKey → Bool} (ra : NV kvs xa) (rb : NV ls xb) (h : HitsB X.K H kvs ls g) : LikesB A s X.prog X.w xa xb g := by
  refine ⟨by rw [← Paired.length ra, ← Paired.length rb]; exact h.1, fun i k ad v hx => ?_⟩
  obtain ⟨e, he, e1, e2, e3⟩ := nv_get ra hx
  obtain ⟨u, d, d', g1, g2, g3, g4, g5, g6⟩ := h.2 e he
  have rr : RelO (some u) ((atKey xb e.1).map (·.2)) := by rw [← g1]; exact NV.val rb e.1
  obtain ⟨y, hy, ry⟩ := rr.some_of
  obtain ⟨p, hp, rfl⟩ := Option.map_eq_some_iff.mp hy
  obtain ⟨z, hz, rfl⟩ := Option.map_eq_some_iff.mp hp
  have hk := List.find?_some hz
  obtain ⟨j, hj⟩ := List.mem_iff_getElem?.mp (List.mem_of_find?_eq_some hz)
  have ek : z.1 = k := (of_decide_eq_true hk).trans e1
  obtain ⟨as, r1⟩ := Dp.reads I d _ v g2 e3
  obtain ⟨bs, r2⟩ := Dp.reads I d' u z.2.2 g3 ry
  have ee := SeqAt.eqAt_reads d d' A s v z.2.2 as bs r1 r2 (SeqAt.canLay_of_shaped g4) (SeqAt.canLay_of_shaped g5) (SeqAt.room_of_shaped g4 hu)
  have e1' : e.1 = k := e1
  rw [g6, e1'] at ee
  exact ⟨j, z.2.1, z.2.2, by rw [hj, ← ek], ee.eqP⟩
theorem nv_all {g : NestedKey → Bool} {kvs : List NE} {xs : List (NestedKey × Addr × Value)} (r : NV kvs xs) : (xs.all fun x => g x.1) = kvs.all fun e => g e.1 := by
  induction r with
  | nil => rfl
  | @cons p q ps qs h t ih =>
    rw [List.all_cons, List.all_cons, ih, h.1]
def rEqB (P : Program) (w : World) (K : PySem.W.Frag) : R2 := fun x y H Q => ∃ a c kvs ls g, x = .ref a ∧ y = .ref c ∧ Rd H a (NDo P w a kvs) ∧ Rd H c (NDo P w c ls) ∧ KsAt K H kvs ∧ KsAt K H ls ∧ HitsB K H kvs ls g ∧ Q (.bl (kvs.all fun e => g e.1)) H
theorem op_eqB {X : Cx} (hu : X.A.units + 65 < cLine) : OpR X (compareOp .Eq) (rEqB X.prog X.w X.K) := by
  intro pins s σ H x y v u Q I rx ry ⟨a, c, kvs, ls, g, ex, ey, ga, gc, ka, kc, hh, q⟩
  subst ex ey
  cases (show v = Value.ref a from rx)
  cases (show u = Value.ref c from ry)
  obtain ⟨_, ha, xa, ra, da⟩ := nd_rd I ga ka
  obtain ⟨_, hc, xb, rb, db⟩ := nd_rd I gc kc
  refine eq_dictsB (by omega) (room9 (by omega)) ha hc da db (likes_ofB I (by show X.A.units + 1 + 64 < cLine; omega) ra rb hh) ?_
  rw [nv_all ra]
  exact ⟨.bl _, H, I, rfl, q⟩
end
end ND
namespace LL
open PySem PySem.Spec PyProof.Rows L2 He Evl ND
/-! ### the law's rows: which entry is the first that Plan refuses -/
def lotG (ws : List Int) (wh : Int) : List Rat := ws.map fun x => mkRat x wh.toNat
theorem bad_snoc (e : Ent) : ∀ (es : List Ent) (seen : List NestedKey) (i : Nat), planBad seen i (es ++ [e]) = match planBad seen i es with
    | some j => some j
    | none => if okE (seen ++ es.map (·.1)) e = true then none else some (i + es.length)
  | [], seen, i => by
    rw [List.nil_append, List.map_nil, List.append_nil, planBad, planBad]
    rfl
  | a :: es, seen, i => by
    rw [List.cons_append, planBad, planBad]
    by_cases c : okE seen a = true
    · rw [if_pos c, if_pos c, bad_snoc e es, List.map_cons, List.length_cons, List.append_assoc, List.singleton_append, show i + 1 + es.length = i + (es.length + 1) by omega]
    · rw [if_neg c, if_neg c]
theorem bad_good : ∀ (es : List Ent) (seen : List NestedKey) (i : Nat), planBad seen i es = none → (∀ e ∈ es, GoodE e ∧ e.1 ∉ seen) ∧ (es.map (·.1)).Nodup
  | [], _, _, _ => ⟨fun _ h => absurd h List.not_mem_nil, List.nodup_nil⟩
  | a :: es, seen, i, h => by
    rw [planBad] at h
    by_cases c : okE seen a = true
    · rw [if_pos c] at h
      obtain ⟨h1, h2⟩ := bad_good es _ _ h
      unfold okE at c
      simp only [Bool.and_eq_true, Bool.not_eq_true', decide_eq_false_iff_not, decide_eq_true_eq, List.all_eq_true] at c
      obtain ⟨c1, c2, c3, c4⟩ := c
      have ga : GoodE a := ⟨fun z => (by rw [z] at c2; cases c2), c3, (by rw [← sumR_eq]; exact c4)⟩
      refine ⟨fun e he => ?_, ?_⟩
      · rcases List.mem_cons.mp he with rfl | he
        · exact ⟨ga, c1⟩
        · exact ⟨(h1 e he).1, fun z => (h1 e he).2 (List.mem_append_left _ z)⟩
      · rw [List.map_cons, List.nodup_cons]
        refine ⟨fun z => ?_, h2⟩
        obtain ⟨e, he, hk⟩ := List.mem_map.mp z
        exact (h1 e he).2 (List.mem_append_right _ (by rw [hk]; exact List.mem_singleton.mpr rfl))
    · rw [if_neg c] at h; cases h
theorem num_neg {x : Int} {d : Nat} (hd : d ≠ 0) : (mkRat x d).num < 0 ↔ x < 0 := by
  have h : (mkRat x d).num * d = x * (mkRat x d).den := (Rat.mkRat_eq_iff (Nat.ne_of_gt (mkRat x d).den_pos) hd).mp (Rat.mkRat_self _)
  have h1 : (0 : Int) < d := by omega
  have h2 : (0 : Int) < ((mkRat x d).den : Int) := by have := (mkRat x d).den_pos; omega
  constructor
  · intro hn
    refine Int.not_le.mp fun hx => ?_
    have h3 := Int.mul_nonneg hx (Int.le_of_lt h2)
    rw [← h] at h3
    have h4 := Int.mul_neg_of_neg_of_pos hn h1
    omega
  · intro hx
    refine Int.not_le.mp fun hn => ?_
    have h3 := Int.mul_nonneg hn (Int.le_of_lt h1)
    rw [h] at h3
    have h4 := Int.mul_neg_of_neg_of_pos hx h2
    omega
theorem mk_eq_one {x : Int} {d : Nat} (hd : d ≠ 0) : mkRat x d = 1 ↔ x = d := by
  have e : (1 : Rat) = mkRat (d : Int) d := (mk_one hd).symm
  rw [e, Rat.mkRat_eq_iff hd hd]
  constructor
  · intro h
    exact Int.eq_of_mul_eq_mul_right (by omega) h
  · intro h; rw [h]
theorem wrong_eq {ws : List Int} {wh : Int} (h : WtOk ws wh) (seen : List NestedKey) (k : NestedKey) :
    okE seen (k, lotG ws wh) = !(decide (ws.length = 0) || (!decide (ws.sum = wh) || ((ws.any fun x => decide (x < 0)) || decide (k ∈ seen)))) := by
  have hd : wh.toNat ≠ 0 := by have := h.h; omega
  have e1 : (lotG ws wh).isEmpty = decide (ws.length = 0) := by
    cases ws <;> rfl
  have e2 : ((lotG ws wh).all fun q => decide (0 ≤ q.num)) = !(ws.any fun x => decide (x < 0)) := by
    rw [all_any]
    congr 1
    unfold lotG
    rw [List.any_map]
    refine congrArg (fun f => ws.any f) (funext fun x => ?_)
    exact decide_eq_decide.mpr (num_neg hd)
  have e3 : decide (sumR (lotG ws wh) = 1) = decide (ws.sum = wh) := by
    rw [sumR_eq]
    unfold lotG
    rw [mk_sum _ hd]
    refine decide_eq_decide.mpr ?_
    rw [mk_eq_one hd]
    have := h.h
    omega
  unfold okE
  dsimp only
  rw [e1, e2, e3]
  cases decide (ws.length = 0) <;> cases decide (ws.sum = wh) <;> cases (ws.any fun x => decide (x < 0)) <;> cases decide (k ∈ seen) <;> rfl
/-- a view that the law draws -/
structure VwOk (v : List Evt) : Prop where
  l : v.length ≤ 4
  e : ∀ x ∈ v, x.2.length ≤ 2
  n : NmV v
  a : ∃ k : Nat, k < 4 ∧ v.getLast? = some (("asked", [k, 2]) : Evt)
structure EOk (e : Ent) : Prop where
  v : ∃ v, VwOk v ∧ e.1 = viewK v
  l : e.2.length ≤ 5
  z : ∀ q ∈ e.2, Sz 20 q
  g : GoodE e → LotsOk e.2
theorem lotG_len {ws : List Int} {wh : Int} : (lotG ws wh).length = ws.length := by unfold lotG; rw [List.length_map]
theorem lotG_ok {ws : List Int} {wh : Int} (h : WtOk ws wh) (h1 : ws.sum = wh) (h2 : ∀ x ∈ ws, 0 ≤ x) : LotsOk (lotG ws wh) := fun q hq => by
  obtain ⟨x, hx, rfl⟩ := List.mem_map.mp hq
  have hs : ws.sum ≤ 12 := by
    rcases h.s with ⟨y, hy, hn⟩ | hs
    · have := h2 y hy; omega
    · exact hs
  have hle : x ≤ ws.sum := by
    have : ∀ (zs : List Int), (∀ y ∈ zs, 0 ≤ y) → 0 ≤ zs.sum ∧ ∀ y ∈ zs, y ≤ zs.sum := by
      intro zs
      induction zs with
      | nil => exact fun _ => ⟨by decide, fun y hy => absurd hy List.not_mem_nil⟩
      | cons z zs ih =>
        intro hz
        obtain ⟨i1, i2⟩ := ih fun y hy => hz y (.tail _ hy)
        have hz0 := hz z (.head _)
        rw [List.sum_cons]
        refine ⟨by omega, fun y hy => ?_⟩
        rcases List.mem_cons.mp hy with rfl | hy
        · omega
        · have := i2 y hy; omega
    exact (this ws h2).2 x hx
  have hx0 := h2 x hx
  have := h.h
  exact lotq_of (by omega) (by omega) (by omega)
theorem lotG_good {ws : List Int} {wh : Int} (h : WtOk ws wh) (h0 : ws ≠ []) (h1 : ws.sum = wh) (h2 : ∀ x ∈ ws, 0 ≤ x) (k : NestedKey) : GoodE (k, lotG ws wh) := by
  have hd : wh.toNat ≠ 0 := by have := h.h; omega
  refine ⟨fun z => h0 (List.map_eq_nil_iff.mp z), fun q hq => ?_, ?_⟩
  · obtain ⟨x, hx, rfl⟩ := List.mem_map.mp hq
    exact Int.not_lt.mp fun z => by have := (num_neg hd).mp z; have := h2 x hx; omega
  · show (lotG ws wh).sum = 1
    unfold lotG
    rw [mk_sum _ hd, mk_eq_one hd]
    have := h.h
    omega
theorem good_lotG {ws : List Int} {wh : Int} (h : WtOk ws wh) {k : NestedKey} (g : GoodE (k, lotG ws wh)) : ws.sum = wh ∧ ∀ x ∈ ws, 0 ≤ x := by
  have hd : wh.toNat ≠ 0 := by have := h.h; omega
  obtain ⟨_, g2, g3⟩ := g
  refine ⟨?_, fun x hx => ?_⟩
  · have g3 : (lotG ws wh).sum = 1 := g3
    unfold lotG at g3
    rw [mk_sum _ hd, mk_eq_one hd] at g3
    have := h.h
    omega
  · exact Int.not_lt.mp fun z => by
      have := g2 (mkRat x wh.toNat) (List.mem_map_of_mem hx)
      have := (num_neg hd).mpr z
      omega
theorem eok_of {v : List Evt} {ws : List Int} {wh : Int} (hv : VwOk v) (h : WtOk ws wh) : EOk (viewK v, lotG ws wh) where
  v := ⟨v, hv, rfl⟩
  l := by show (lotG ws wh).length ≤ 5; rw [lotG_len]; exact h.len
  z q hq := by
    obtain ⟨x, hx, rfl⟩ := List.mem_map.mp hq
    have := h.w x hx
    have := h.h
    exact sz_of (by omega) (by omega) (by omega)
  g g := lotG_ok h (good_lotG h g).1 (good_lotG h g).2
theorem vw_lay {v : List Evt} (h : VwOk v) : KLay (viewK v) := view_layK h.n
theorem dr_of {es : List Ent} (h : ∀ e ∈ es, EOk e) (hb : planBad [] 0 es = none) : DrOk es := by
  obtain ⟨h1, h2⟩ := bad_good es [] 0 hb
  refine ⟨fun e he => ⟨(h e he).g (h1 e he).1, (h1 e he).1, (h e he).l⟩, h2, fun e he => ?_⟩
  obtain ⟨v, hv, hk⟩ := (h e he).v
  rw [hk]
  exact vw_lay hv
/-! ### rows that differ -/
def moreV : List Evt := [("shown", [9]), ("asked", [9, 2])]
theorem more_ne {e : Ent} (h : EOk e) : e.1 ≠ viewK moreV := fun z => by
  obtain ⟨v, hv, hk⟩ := h.v
  have e1 := viewK_inj (hk.symm.trans z)
  obtain ⟨k, h4, hl⟩ := hv.a
  rw [e1] at hl
  have : (("asked", [9, 2]) : Evt) = (("asked", [k, 2]) : Evt) := Option.some.inj hl
  injection this with _ this
  injection this with this
  omega
theorem more_lay : KLay (viewK moreV) := view_layK fun e he => by
  rcases List.mem_cons.mp he with rfl | he
  · exact nm_law.2.1
  · rw [List.mem_singleton.mp he]; exact nm_law.1
theorem snoc_ne {es : List Ent} {e : Ent} : es ++ [e] ≠ es := fun z => by
  have := congrArg List.length z
  rw [List.length_append, List.length_singleton] at this
  omega
theorem short_ne {es : List Ent} (h : 0 < es.length) : es.take (es.length - 1) ≠ es := fun z => by
  have := congrArg List.length z
  rw [List.length_take] at this
  omega
theorem rev_ne {es : List Ent} (h : 1 < es.length) (nd : (es.map (·.1)).Nodup) : es.reverse ≠ es := fun z => by
  have h1 : es.reverse[0]? = es[0]? := by rw [z]
  rw [List.getElem?_reverse (by omega)] at h1
  have nd' : es.Nodup := (List.pairwise_map.mp nd).imp fun h e => h (by rw [e])
  have := (List.getElem?_inj (by omega) nd').mp h1
  omega
theorem moved_ne {es : List Ent} {at_ : Nat} {e : Ent} (ha : at_ < es.length) (h : ∀ x ∈ es, x.1 ≠ e.1) : es.take at_ ++ [e] ++ es.drop (at_ + 1) ≠ es := fun z => by
  have h1 : (es.take at_ ++ [e] ++ es.drop (at_ + 1))[at_]? = some e := by
    rw [List.append_assoc, List.getElem?_append_right (by rw [List.length_take]; omega), List.length_take, show at_ - min at_ es.length = 0 by omega]
    rfl
  rw [z] at h1
  exact h e (List.mem_of_getElem? h1) rfl
theorem drop_ok {es : List Ent} (h : DrOk es) {fs : List Ent} (s : fs.Sublist es) : DrOk fs :=
  ⟨fun e he => h.e e (s.subset he), h.nd.sublist (s.map _), fun e he => h.k e (s.subset he)⟩
theorem rev_ok {es : List Ent} (h : DrOk es) : DrOk es.reverse :=
  ⟨fun e he => h.e e (List.mem_reverse.mp he), by rw [List.map_reverse]; exact List.pairwise_reverse.mpr (List.Pairwise.imp (fun h => h.symm) h.nd), fun e he => h.k e (List.mem_reverse.mp he)⟩
theorem one_lot : LotOk [1] := ⟨fun q hq => by rw [List.mem_singleton.mp hq]; exact lotq_one, fun k => ⟨nofun, fun q hq => by rw [List.mem_singleton.mp hq]; decide, by show [(1 : Rat)].sum = 1; rw [List.sum_singleton]⟩, by decide⟩
theorem snoc_ok {es : List Ent} (h : DrOk es) {k : NestedKey} {qs : List Rat} (hn : ∀ e ∈ es, e.1 ≠ k) (hk : KLay k) (hq : LotOk qs) : DrOk (es ++ [(k, qs)]) := by
  refine ⟨fun e he => ?_, ?_, fun e he => ?_⟩
  · rcases List.mem_append.mp he with he | he
    · exact h.e e he
    · rw [List.mem_singleton.mp he]; exact ⟨hq.1, hq.2.1 k, hq.2.2⟩
  · rw [List.map_append, List.nodup_append]
    refine ⟨h.nd, by simp, fun a ha b hb e => ?_⟩
    rw [List.map_singleton, List.mem_singleton] at hb
    obtain ⟨x, hx, rfl⟩ := List.mem_map.mp ha
    exact hn x hx (e.trans hb)
  · rcases List.mem_append.mp he with he | he
    · exact h.k e he
    · rw [List.mem_singleton.mp he]; exact hk
theorem moved_ok {es : List Ent} (h : DrOk es) {at_ : Nat} {e : Ent} (hm : e ∈ es) {k : NestedKey} (hn : ∀ e ∈ es, e.1 ≠ k) (hk : KLay k) : DrOk (es.take at_ ++ [(k, e.2)] ++ es.drop (at_ + 1)) := by
  obtain ⟨a1, a2, a3⟩ := h.e e hm
  have hq : GoodE (k, e.2) := ⟨a2.1, a2.2.1, a2.2.2⟩
  have mem : ∀ x ∈ es.take at_ ++ [(k, e.2)] ++ es.drop (at_ + 1), x ∈ es ∨ x = (k, e.2) := fun x hx => by
    rcases List.mem_append.mp hx with hx | hx
    · rcases List.mem_append.mp hx with hx | hx
      · exact .inl (List.mem_of_mem_take hx)
      · exact .inr (List.mem_singleton.mp hx)
    · exact .inl (List.mem_of_mem_drop hx)
  refine ⟨fun x hx => ?_, ?_, fun x hx => ?_⟩
  · rcases mem x hx with hx | rfl
    · exact h.e x hx
    · exact ⟨a1, hq, a3⟩
  · have hsub : (es.take at_ ++ es.drop (at_ + 1)).Sublist es := by
      have : (es.take at_ ++ es.drop at_).Sublist es := by rw [List.take_append_drop]; exact List.Sublist.refl es
      refine List.Sublist.trans (List.Sublist.append (List.Sublist.refl _) ?_) this
      rw [← List.drop_drop]
      exact List.drop_sublist _ _
    have nd2 : ((es.take at_ ++ es.drop (at_ + 1)).map (·.1)).Nodup := h.nd.sublist (hsub.map _)
    rw [List.map_append, List.map_append, List.append_assoc]
    rw [List.map_append, List.nodup_append] at nd2
    rw [List.nodup_append]
    obtain ⟨n1, n2, n3⟩ := nd2
    have hk2 : ∀ x ∈ es, k ≠ x.1 := fun x hx z => hn x hx z.symm
    refine ⟨n1, ?_, fun a ha b hb => ?_⟩
    · rw [List.map_singleton, List.singleton_append, List.nodup_cons]
      refine ⟨fun z => ?_, n2⟩
      obtain ⟨x, hx, hk'⟩ := List.mem_map.mp z
      exact hn x (List.mem_of_mem_drop hx) hk'
    · rw [List.map_singleton] at hb
      rcases List.mem_append.mp hb with hb | hb
      · rw [List.mem_singleton.mp hb]
        obtain ⟨x, hx, rfl⟩ := List.mem_map.mp ha
        exact hn x (List.mem_of_mem_take hx)
      · exact n3 a ha b hb
  · rcases mem x hx with hx | rfl
    · exact h.k x hx
    · exact hk
/-- the lots at one view are exchanged -/
def setE (es : List Ent) (k : NestedKey) (qs : List Rat) : List Ent := es.map fun e => if e.1 = k then (e.1, qs) else e
theorem setE_keys (es : List Ent) (k : NestedKey) (qs : List Rat) : (setE es k qs).map (·.1) = es.map (·.1) := by
  unfold setE
  rw [List.map_map]
  refine List.map_congr_left fun e _ => ?_
  show (if e.1 = k then (e.1, qs) else e).1 = e.1
  split <;> rfl
theorem setE_ok {es : List Ent} (h : DrOk es) {k : NestedKey} {qs : List Rat} (hq : LotOk qs) : DrOk (setE es k qs) := by
  refine ⟨fun e he => ?_, by rw [setE_keys]; exact h.nd, fun e he => ?_⟩
  · obtain ⟨x, hx, rfl⟩ := List.mem_map.mp he
    split
    · exact ⟨hq.1, hq.2.1 _, hq.2.2⟩
    · exact h.e x hx
  · obtain ⟨x, hx, rfl⟩ := List.mem_map.mp he
    split
    · exact h.k x hx
    · exact h.k x hx
end LL
namespace L2H
open PySem PySem.Spec PyProof.Rows L2 HotX
section
variable {X : Cx} {e : Expr} {p pos : Pos} {ta : TA} {x f : Str} {C : Addr}
theorem pmk5_sup (T : SupX.SupC X.prog X.K C f) (hms : X.mg "super" = none) (hr : RoomH 2 X.A) (hg : Gl X x) (hm : X.mg x = some (.ref C)) (ha : PA X [e] ta)
    (hdb : (x == ("__debug__" : Str)) = false := by decide) (he : starEach [e] X.env = (false, eval e X.env) :: starEach [] X.env := by rfl) (hpl : (backTo pos (starEach [] X.env)).any (·.1) = false := by rfl) :
    PMk5 X (.Call (.Name x p) [e] [] pos) (tMkS C f ta) := by
  intro pins s σ H Q I h
  obtain ⟨nm, q, N, bs, bm, sn, sub, ab, col, dd, k0, k1, k2, k3, k5, hC, hbm⟩ := T.oex.cls
  obtain ⟨fI, iC, tI, RUN⟩ := T.fn
  refine wpAny_Call_Name_kw (ld_glob I hg hm ?_ hdb)
  refine PySem.W.callWith_K (h₀ := X.base) I.ok.mod.kin T.oex.kC (thn (ha.run pos pins s σ H _ I h) fun us s1 ⟨vs, H1, I1, r1, y, ev, q1⟩ => ⟨I1.kIn, ?_⟩) he hpl
  subst ev
  obtain ⟨u, rfl, ry⟩ := vals1 r1
  show wpAny _ _ (call (.ref C) [u]) _ _ _
  obtain ⟨mb, hmb, hbl⟩ := I1.ok.mod.blt
  have G1 := I1.ok.mod.glob.keeps I1.bk
  have B1 := hmb.keeps I1.bk
  have lim := I1.nolimit
  have kb := I1.ok.mod.kin
  have bk := I1.bk
  have hsys := I1.big
  obtain ⟨hp, g, dr, tk, os⟩ := s1
  have hsz : hp.objs.size ≤ hp.objs.size + 1 := Nat.le_succ _
  have hn : H1 (hp.objs.size + 1) = none := I1.hok.fresh hsz
  have kk : ∀ b o, hp.get? b = some o → ((hp.push (PySem.W.kdv_tup [u])).push (PySem.HandSPX.excO C hp.objs.size)).get? b = some o := fun b o e => Heap.get?_push_of_some _ (Heap.get?_push_of_some _ e)
  have hget : ((hp.push (PySem.W.kdv_tup [u])).push (PySem.HandSPX.excO C hp.objs.size)).get? (hp.objs.size + 1) = some (PySem.HandSPX.excO C hp.objs.size) := by heap_get
  have hus : [u].length ≤ sizeLine := by show 1 ≤ sizeLine; decide
  have hKe : ∀ o, X.K.lookup (hp.objs.size + 1) ≠ some o := fun o z => by
    have := Heap.lt_size (bk _ _ (kb _ _ z))
    exact Nat.lt_irrefl _ (Nat.lt_of_succ_lt this)
  refine wpAny_call (PySem.HandSPX.call_own F.excBase_ValueError (fun Y => PySem.HandSPX.refsVE_contains Y bm hbm) (I1.kIn _ _ hC) (PySem.W.looks_findIn I1.kIn iC) (fun self => PySem.W.bind_fn I1.kIn self tI) hus
    (RUN _ _ _ _ _ _ _ X.mg mb _ _ u _ (hr.make C [u] []).depth (fun b o z => kk b o (I1.kIn b o z)) (lim.keeps kk) (G1.keeps kk) hms (B1.keeps kk) ((hbl _ (by decide)).trans (by decide +kernel)) hget hKe fun h2 t2 dx t1 k2 dn dne e2 ns2 => ⟨rfl, ?_⟩))
  have hnd : H1 dx = none := I1.hok.fresh (by
    have : hp.objs.size ≤ dx := by
      have h3 : ((hp.push (PySem.W.kdv_tup [u])).push (PySem.HandSPX.excO C hp.objs.size)).objs.size ≤ dx := dn
      have h4 : hp.objs.size ≤ ((hp.push (PySem.W.kdv_tup [u])).push (PySem.HandSPX.excO C hp.objs.size)).objs.size := Nat.le_of_lt (Nat.lt_of_succ_lt (Heap.lt_size hget))
      exact Nat.le_trans h4 h3
    exact this)
  have dgt : hp.objs.size + 1 < dx := Nat.lt_of_lt_of_le (Heap.lt_size hget) dn
  have old : ∀ {b : Addr} {o : Obj}, hp.get? b = some o → h2.get? b = some o := fun {b o} z => k2 b o (Nat.ne_of_lt (Nat.lt_of_lt_of_le (Heap.lt_size z) hsz)) (kk b o z)
  have oldn : ∀ {b : Addr} {o : Obj}, hp.get? b = some o → b ≠ hp.objs.size + 1 ∧ b ≠ dx := fun {b o} z => by
    have h1 := Heap.lt_size z
    have h2 : b < hp.objs.size + 1 := Nat.lt_of_lt_of_le h1 hsz
    exact ⟨Nat.ne_of_lt h2, Nat.ne_of_lt (Nat.lt_trans h2 dgt)⟩
  have H1n : ∀ {b : Addr}, b ≠ dx → b ≠ hp.objs.size + 1 → (upd (upd H1 dx (exd dx [(f, y)])) (hp.objs.size + 1) (exo (hp.objs.size + 1) C (some dx))) b = H1 b := fun {b} h1 h2 => by rw [upd_ne h2, upd_ne h1]
  have un2 : Un (frs X.stack) [] (upd H1 (hp.objs.size + 1) (exo (hp.objs.size + 1) C none)) (upd (upd H1 dx (exd dx [(f, y)])) (hp.objs.size + 1) (exo (hp.objs.size + 1) C (some dx))) ((hp.push (PySem.W.kdv_tup [u])).push (PySem.HandSPX.excO C hp.objs.size)) h2 := by
    refine ⟨fun b o z n _ _ => ?_, fun b o z n _ _ => ⟨o.slots, ?_⟩, fun b o z n _ => ?_, fun b o z _ => ?_, fun b xs z => ?_, fun b o v z => ?_, fun b ps z => ⟨#[], ?_⟩⟩
    · exact k2 b o (fun w => by rw [w, upd_same] at n; cases n) z
    · exact k2 b o (fun w => by rw [w, upd_same] at n; cases n) z
    · have hb : b ≠ hp.objs.size + 1 := fun w => by rw [w, upd_same] at n; cases n
      rw [upd_ne hb] at n ⊢
      have : b ≠ dx := Nat.ne_of_lt (Nat.lt_of_lt_of_le (Heap.lt_size z) dn)
      rw [upd_ne this]
      exact n
    · by_cases hb : b = hp.objs.size + 1
      · exact ⟨_, by rw [hb]; exact e2⟩
      · exact ⟨o, k2 b o hb z⟩
    · have hb : b ≠ hp.objs.size + 1 := fun w => by rw [w, upd_same] at z; exact exo_tup (Option.some.inj z)
      rw [upd_ne hb] at z ⊢
      rw [upd_ne (ne_of_none z hnd)]
      exact z
    · have hb : b ≠ hp.objs.size + 1 := fun w => by rw [w, upd_same] at z; exact exo_frz (Option.some.inj z)
      rw [upd_ne hb] at z ⊢
      rw [upd_ne (ne_of_none z hnd)]
      exact z
    · have hb : b ≠ hp.objs.size + 1 := fun w => by rw [w, upd_same] at z; exact exo_tbl (Option.some.inj z)
      rw [upd_ne hb] at z ⊢
      rw [upd_ne (ne_of_none z hnd), z]
      simp
  have hok2 : HOk X.prog X.w (upd (upd H1 dx (exd dx [(f, y)])) (hp.objs.size + 1) (exo (hp.objs.size + 1) C (some dx))) h2 := fun b o z => by
    by_cases hb : b = hp.objs.size + 1
    · subst hb
      rw [upd_same] at z
      cases z
      exact exo_ok e2
    · rw [upd_ne hb] at z
      by_cases hbd : b = dx
      · subst hbd
        rw [upd_same] at z
        cases z
        exact exd_ok ns2 (relO_put (fs := []) ry fun g => True.intro)
      · rw [upd_ne hbd] at z
        refine (I1.hok b o z).stay (fun c v hc w => old w) (fun c hc => ?_) fun c xs hc => ?_
        · have hn' : c ≠ hp.objs.size + 1 := fun w => by rw [w, hn] at hc; cases hc
          rw [upd_ne hn', upd_ne (ne_of_none hc hnd)]
          exact hc
        · have hn' : c ≠ hp.objs.size + 1 := fun w => by rw [w, hn] at hc; cases hc
          rw [upd_ne hn', upd_ne (ne_of_none hc hnd)]
          exact hc
  have fin : upd (del (upd (upd H1 dx (exd dx [(f, y)])) (hp.objs.size + 1) (exo (hp.objs.size + 1) C (some dx))) (hp.objs.size + 1)) dx (.xd [(f, y)]) = upd H1 dx (.xd [(f, y)]) := by
    funext b
    by_cases hbd : b = dx
    · rw [hbd, upd_same, upd_same]
    · rw [upd_ne hbd, upd_ne hbd]
      by_cases hb : b = hp.objs.size + 1
      · rw [hb, del_same, hn]
      · rw [del_ne hb, upd_ne hb, upd_ne hbd]
  obtain ⟨t0, G, J, kG, ge, hoe, na⟩ := mk_end0 (d := dx) (fs := [(f, y)]) (g2 := g) (os2 := os) (d2 := dr) (t2 := t2) I1 hsz kk un2 hok2 rfl I1.bare upd_same (by rw [upd_ne (Nat.ne_of_gt dgt), upd_same]) hnd
  refine ⟨⟨hp.objs.size + 1, _, _, ⟨G, g, dr, t2, os⟩, _, .ref C, some dx, rfl, J, kG, ge, hoe, ⟨rfl, rfl, fun vs hv => ?_⟩, rfl, rfl, na, rfl, I1.bare, raises_own T.oex.exC T.oex.tyC, ?_⟩, fun a oe vs ea2 hg2 hd2 => ?_⟩
  · cases hv
    rfl
  · rw [fin]
    exact q1 dx hnd
  · cases ea2
    have hg3 : h2.get? (hp.objs.size + 1) = some oe := hg2
    rw [hoe] at hg3
    cases hg3
    cases hd2
    show (4 : Nat) < 6
    decide
end
end L2H
namespace LL
open PySem PySem.Spec PyProof.Rows L2 He Evl ND
section
variable {w : World} {K : PySem.W.Frag} {mg : Str → Option Value} {base : Heap}
/-- an exception whose context is None is an exception -/
theorem cx_up {P : Program} {outer : List Env} {H : Hp} {s : Shared} {E : XK} {u : Value} {s' : Shared} (h : L2N.CX P w outer H s E u s') : L2.CX P w outer H s E u s' := by
  obtain ⟨a, B, H', cls, d, rfl, fl, hok, ub, na, os, ag, hE⟩ := h
  exact ⟨a, B, H', cls, d, rfl, L2H.flyingZ_imp (fun o z => z.zc) fl, hok, ub, na, os, ag, hE⟩
/-- a def whose exceptions have no context -/
abbrev FnN (P : Program) (w : World) (K : PySem.W.Frag) (mg : Str → Option Value) (base : Heap) (k : Nat) (f : Addr) (sp : Sp) : Prop := FnR P w K mg base (L2N.CX P w) k f sp
theorem FnN.fn {P : Program} {k : Nat} {f : Addr} {sp : Sp} (F : FnN P w K mg base k f sp) : Fn P w K mg base k f sp := fun A outer s H us vs Q E hr e0 r h =>
  codeAny_mono (F A outer s H us vs Q E hr e0 r h) fun x s' hx => by
    cases x with
    | error e => exact cx_up hx
    | ok fl => cases fl <;> exact hx
theorem fn_defN {P : Program} {x qual : Str} {st : Stmt} {f : Addr} {N ps : List Str} {k : Nat} {sp : Sp} (D : ∃ fd, FunD K x qual (defArgs st) (defBody st) (defScope st) [] [] f fd) (S : FnScope N ps (defScope st))
    (hb : ∀ (kV doc pm : Value) (an : Option Addr) (cdv ct : Value) (us : List Value), us.length = ps.length → bindArgs (PySem.W.fnOf x qual (defArgs st) (defBody st) (defScope st) .none kV doc pm an cdv ct) ⟨us, []⟩ = pure (ps.zip us))
    (len : ∀ vs H Q E, sp vs H Q E → vs.length = ps.length)
    (hbody : ∀ (cdv : Value) (A : Around) (outer : List Env) (s : Shared) (H : Hp) (vs : List V) (Q : VK) (E : XK), Room k (A.deeper (envOfC qual (defScope st) s.heap.objs.size f cdv)) → sp vs H Q E →
      ∃ t, PSs (cxOf (L2N.CX P w) P w K mg base N qual (defScope st) f cdv A outer s H E) (defBody st) t ∧ t { nx := fun _ H' => Q .non H', rt := Q } (start N vs) H) : FnN P w K mg base (k + 1) f sp := by
  obtain ⟨fd, F⟩ := D
  exact (FnOk.raw (F.ok S len hbody) (F.bindsN hb) (dvs := []) .nil).imp (fun vs H Q E h => by simpa using h)
end
section
variable {X : Cx} {e : Expr} {p pos : Pos} {ta : TA}
theorem pmkN_BadPlan (T : Txt X.K X.mg) (hr : Room 2 X.A) (ha : PA X [e] ta) (hP : X.prog = PR := by rfl) (hg : Gl X "BadPlan" := by rfl) (he : starEach [e] X.env = (false, eval e X.env) :: starEach [] X.env := by rfl) : L2N.PMk X (.Call (.Name "BadPlan" p) [e] [] pos) (tMkS (ga X.K "BadPlan") "at" ta) :=
  L2H.PMk5.pmk (L2H.pmk5_sup (by rw [hP]; exact T.s_BadPlan) T.f_super (L2H.roomH_of hr) hg T.g_BadPlan ha (by decide) he)
theorem pmkH_BadPaper {K : PySem.W.Frag} {mg : Str → Option Value} (T : Txt K mg) (hr : L2H.RoomH 2 X.A) (ha : PA X [e] ta) (hK : X.K = K := by rfl) (hM : X.mg = mg := by rfl) (hP : X.prog = PR := by rfl) (hg : Gl X "BadPaper" := by rfl) (he : starEach [e] X.env = (false, eval e X.env) :: starEach [] X.env := by rfl) : L2N.PMk X (.Call (.Name "BadPaper" p) [e] [] pos) (tMkS (ga K "BadPaper") "at" ta) := by
  subst hK hM
  exact L2H.PMk5.pmk (L2H.pmk5_sup (by rw [hP]; exact T.s_BadPaper) T.f_super hr hg T.g_BadPaper ha (by decide) he)
end
end LL
namespace LL
open PySem PySem.Spec PyProof.Rows L2 He Evl ND
section
variable {w : World} {K : PySem.W.Frag} {mg : Str → Option Value} {base : Heap}
theorem fn_Plan_initN (T : Txt K mg) : FnN P w K mg base 5 (ma K (ga K "Plan") "__init__") (spPI w K) := by
  refine fn_defN T.d_Plan_init sc_Plan_init (fun _ _ _ _ _ _ us hl => match us, hl with | [_, _], _ => rfl) (fun vs H Q E h => ?_) (fun cdv A outer s H vs Q E hr h => ?_)
  · obtain ⟨B, x, dx, a, vs, es, k, rfl, _⟩ := h
    rfl
  obtain ⟨B, x, dx, a, vs, es, j0, rfl, e, hb, hx, hs, hp, hl, hj, hz, kg, kb⟩ := h
  have nd := sc_Plan_init.nd
  refine ⟨_, pss_cons (ps_fld (pv 0) (ND.pe_new) rfl)
      (pss_one (ps_for (passes_of rfl) rfl (pi_enum (by rfl) T.f_enumerate (pa_cons (pv 1) pa_nil)) (pg_tup rfl (pgs_cons (pg_name (i := 2) nd rfl (by first | exact Or.inl rfl | exact Or.inr rfl)) (pgs_cons (pg_name (i := 3) nd rfl (by first | exact Or.inl rfl | exact Or.inr rfl)) pgs_nil))) (pss_cons (ps_asg (pv 3) (pg_tup rfl (pgs_cons (pg_name (i := 4) nd rfl (by first | exact Or.inl rfl | exact Or.inr rfl)) (pgs_cons (pg_name (i := 5) nd rfl (by first | exact Or.inl rfl | exact Or.inr rfl)) pgs_nil))))
      (pss_cons (ps_if (PW.pt (pw_or (pt_cmpR (ND.op_in hr.units) (pv 4) (pe_fld (pv 0) rfl) rfl) (pw_or (pt_not (pt_truth (pv 5) (by intro _; rfl))) (pw_or (pt_val (pe_callB (cr_any rfl) (by rfl) T.f_any (by decide +kernel) (pa_cons (pe_lc (own := [("lot", 6)]) (g := gName 6) (tt := tYes) rfl nd (pi_list (pv 5)) (blkOk_by (N := n_Plan_init) (sc := defScope s_Plan_init) (by decide +kernel)) (fun _ _ _ _ _ => pg_name (i := 6) nd rfl (by first | exact Or.inl rfl | exact Or.inr rfl)) (fun _ _ _ _ _ => pts_nil) (fun _ _ _ _ _ => pe_cmpR op_lt (pek_fld K (pv 6) rfl) (pe_int) (nomark _))) pa_nil))) (pw_or1 (pt_cmpR (op_ownNe T.ne_Ratio T.t_Ratio_eq.at_ T.t_Ratio_eq.fn T.om_Ratio (fn_Ratio_eq T) (hr.mono (by decide)) pcN) (pe_fn T.d_added (fn_added T) (hr.mono (by decide)) T.g_added pcN (pa_cons (pv 5) pa_nil)) (StX.pe_makeR T.m_Ratio (fn_RI1 T) (hr.mono (by decide)) rfl T.g_Ratio pcN (pa_cons (pe_int) pa_nil)) (nomark _))))))) (pss_one (L2N.ps_raise rfl (L2N.takes_of rfl rfl rfl rfl) (pmkN_BadPlan T (hr.mono (by decide)) (pa_cons (pv 2) pa_nil)))) (pss_nil))
      (pss_one (ND.ps_put hr.units (pe_fld (pv 0) rfl) (pv 4) (pe_callTy call_tuple_of (by rfl) T.f_tuple (by decide +kernel) (pa_cons (pv 5) pa_nil)) rfl)))))), ?_⟩
  refine fun t nt => ?_
  have htx : t ≠ x := fun z => by rw [z, hx] at nt; cases nt
  have hx1 := (upd_ne (H := H) (o := NDo P w t []) (ne_of_none hx nt)).trans hx
  have c0 := Stp.cell (ms := [t, x]) (o := NDo P w t []) e nt
  refine ⟨_, rfl, x, ga K "Plan", dx, [], rfl, hx1, T.c_Plan, T.a_Plan_table, (by show 0 < 1000; decide), ?_⟩
  have s0 : Stp [t, x] B (upd H t (NDo P w t [])) B (upd (upd H t (NDo P w t [])) x (.ins (ga K "Plan") dx [("table", .ref t)])) := Stp.put c0.in_ hb (by simp)
  have hbt : B t = none := ex_none e nt
  have hxt : upd H t (NDo P w t []) x = some (.ins (ga K "Plan") dx []) := hx1
  have nolist : ∀ m ∈ [t, x], ∀ xs, ¬ Rd (upd H t (NDo P w t [])) m (.lst xs) := by
    intro m hm xs
    simp only [List.mem_cons, List.not_mem_nil, or_false] at hm
    rcases hm with rfl | rfl
    · exact rd_ne upd_same ndo_ne.1 ndo_ne.2
    · exact rd_ne hxt (fun z => nomatch z) (fun _ z => nomatch z)
  have hs1 : SqL K (upd H t (NDo P w t [])) a vs := ex_l (Ex.new nt) hs
  have hp1 : Paired (EinAt K B (upd H t (NDo P w t []))) vs es := paired_mono hp fun v en ⟨q1, q2, q3, q4, h1, h2, h3, h4, h5⟩ => ⟨q1, q2, q3, q4, h1, h2, h3, ex_l (Ex.new nt) h4, h5⟩
  refine ⟨_, rfl, a, vs, rfl, sql_stp hs1 s0 (fun m hm => nolist m hm vs), for_it (walk_enum (xs := vs)) (fun i σ H' => ∃ (B' : Hp) (kvs : List NE) (u2 u3 u4 u5 u6 : Option V), Stp [t, x] B (upd H t (NDo P w t [])) B' H' ∧ H' t = some (NDo P w t kvs) ∧
      H' x = some (.ins (ga K "Plan") dx [("table", .ref t)]) ∧ TabAt K B' kvs (es.take i) ∧ planBad [] 0 es = planBad ((es.take i).map (·.1)) i (es.drop i) ∧ σ = [some (.ref x), some (.ref a), u2, u3, u4, u5, u6]) ?_ ?_ ?_ ?_⟩
  · exact ⟨B, [], none, none, none, none, none, s0, (upd_ne htx).trans upd_same, upd_same, .nil, rfl, rfl⟩
  · rintro i σ H' _ ⟨B', kvs, _, _, _, _, _, s1, _⟩
    exact sql_stp hs1 s1 fun m hm => nolist m hm vs
  · rintro i y σ H1 H2 hi ⟨B1, kvs, u2, u3, u4, u5, u6, s1, ht1, hx1', htab, hpb, rfl⟩ ⟨T0, y1, y2, rfl, nT0, rfl, ey1, ey2⟩
    cases ey1
    have hie : i < es.length := by rw [← Paired.length hp]; exact hi
    obtain ⟨en, hen, hin⟩ := paired_get hp1 ey2
    have hin1 := ein_stp hin s1 nolist
    obtain ⟨tt, b, l, ls, rfl, htt, hkb, hll, hrr⟩ := hin1
    have sT := Stp.cell (ms := [t, x]) (o := .tup [.int (i : Nat), .ref tt]) s1.in_ nT0
    have s2 := s1.trans sT
    have x12 : Ex H1 (upd H1 T0 (.tup [.int (i : Nat), .ref tt])) := Ex.new nT0
    refine ⟨T0, _, rfl, SqT.of upd_same, rfl, _, _, rfl, _, _, rfl, rfl, ?_⟩
    refine ⟨_, rfl, tt, _, rfl, ex_t s2.in_ htt, rfl, _, _, rfl, _, _, rfl, rfl, ?_⟩
    have ht2 := x12 _ _ ht1
    have hx2 := x12 _ _ hx1'
    have hl2 : SqL K (upd H1 T0 (.tup [.int (i : Nat), .ref tt])) l ls := ex_l x12 hll
    obtain ⟨hzl, hzq⟩ := hz en (List.mem_of_getElem? hen)
    have hdrop : es.drop i = en :: es.drop (i + 1) := by
      rw [List.drop_eq_getElem_cons hie]
      congr 1
      exact Option.some.inj ((List.getElem?_eq_getElem hie).symm.trans hen)
    have hbad : okE ((es.take i).map (·.1)) en = false → planBad [] 0 es = some i := fun z => by
      rw [hpb, hdrop]
      unfold planBad
      rw [z]
      rfl
    have hgood : okE ((es.take i).map (·.1)) en = true → planBad [] 0 es = planBad ((es.take (i + 1)).map (·.1)) (i + 1) (es.drop (i + 1)) := fun z => by
      rw [hpb, hdrop, List.take_add_one, hen]
      conv => lhs; unfold planBad
      rw [z, if_pos rfl, List.map_append]
      rfl
    -- the entry is wrong
    have raise : okE ((es.take i).map (·.1)) en = false → ∀ H4 d, Ex (upd H1 T0 (.tup [.int (i : Nat), .ref tt])) H4 → H4 d = none → E (.ref (ga K "BadPlan")) (some d) (upd H4 d (.xd [("at", .int (i : Nat))])) := fun z H4 d x4 nd4 => by
      have s4 := s2.trans (Stp.ofEx (ms := [t, x]) s2.in_ x4)
      have s5 := s4.trans (Stp.cell (ms := [t, x]) (o := .xd [("at", .int (i : Nat))]) s4.in_ nd4)
      refine kb i (hbad z) B1 _ d ?_ upd_same
      exact Stp.with nt s5

    dsimp only []
    refine q_when (et_or (a := decide (en.1 ∈ (es.take i).map (·.1))) (et_test ?_) fun c1 => et_or (a := en.2.isEmpty) ?_ fun c2 => et_or (a := en.2.any fun q => decide (q.num < 0)) (et_B ?_) fun c3 => et_test (b := !decide (sumR en.2 = 1)) ?_) (fun cb H4 x4 => ?_) (fun cb H4 x4 => ?_)
    · intro H3 x3 Q3 q3
      refine ⟨_, rfl, _, rfl, x, _, _, _, _, rfl, x3 _ _ hx2, T.c_Plan, T.a_Plan_table, rfl, ?_⟩
      refine ⟨t, b, en.1, kvs, rfl, rfl, .inl (x3 _ _ ht2), htab.ks.mono ((s2.in_).trans x3), hkb.mono ((s2.in_).trans x3), ?_⟩
      rw [htab.get en.1]
      exact q3 H3 (Ex.refl _)
    · intro H3 x3 Q3 q3
      refine ⟨_, rfl, !en.2.isEmpty, .inl ⟨ls, ex_l x3 hl2, ?_⟩, ?_⟩
      · exact (congrArg (!·) (emp_len (Paired.length hrr))).symm
      · show Q3 (!(!en.2.isEmpty)) H3
        rw [Bool.not_not]
        exact q3 H3 (Ex.refl _)
    · intro H3 x3 Q3 q3
      refine ⟨_, rfl, l, rfl, ⟨ls, ex_l x3 hl2⟩, fun D nD => lc_it (n := ls.length) (walk_list (xs := ls)) (fun j H' => H' = upd H3 D (.lst ((en.2.take j).map fun q => V.bl (decide (q.num < 0))))) rfl (fun j H' _ z => by rw [z]; exact ex_l (x3.trans (Ex.new nD)) hl2) ?_ ?_⟩
      · rintro j y H5 H6 hj rfl ⟨rfl, hy⟩
        obtain ⟨q, hq1, hq2⟩ := paired_get hrr hy
        have hq3 := hq2.mono ((s2.in_).trans (x3.trans (Ex.new nD (o := .lst ((en.2.take j).map fun q => V.bl (decide (q.num < 0)))))))
        obtain ⟨ra, rdx, rfl, hra⟩ := hq3
        have hj2 : j < en.2.length := by rw [← Paired.length hrr]; exact hj
        refine ⟨rfl, yes_if ?_⟩
        refine ⟨_, rfl, ra, _, _, _, _, rfl, hra, T.c_Ratio, T.a_Ratio_num, rf_num _ _, _, _, rfl, rfl, _, upd_same, ?_, ?_⟩
        · rw [List.length_map, List.length_take]
          have := Nat.le_mul_of_pos_right en.2.length (show 0 < j0 + 1 from Nat.succ_pos _)
          have : (100000 : Nat) < sizeLine := by decide
          omega
        · rw [upd_twice, List.take_add_one, hq1, List.map_append]
          rfl
      · rintro H5 rfl
        rw [Paired.length hrr, List.take_length]
        refine ⟨D, en.2.map fun q => decide (q.num < 0), rfl, SqL.of (by rw [List.map_map]; exact upd_same), ?_⟩
        rw [List.any_map]
        exact q3 _ (Ex.new nD)
    · intro H3 x3 Q3 q3
      refine ⟨_, rfl, l, ls, en.2, j0, rfl, ex_l x3 hl2, rats_mono hrr ((s2.in_).trans x3), hzq, hzl, hj, fun v1 H5 x5 r1 => ?_⟩
      refine mk_ratio (n := 1) (d := 1) (Q := fun y H2 => rOwnNe (ga K "Ratio") (spEqR K) (fun _ _ _ => False) v1 y H2 Q3) (E := fun _ _ _ => False) (by decide) (by decide) fun v2 H6 x6 r2 => ?_
      obtain ⟨c1', dz1, rfl, hc1⟩ := r1.mono x6
      obtain ⟨c2', dz2, rfl, hc2⟩ := id r2
      refine ⟨c1', dz1, _, c2', dz2, _, rfl, rfl, hc1, hc2, _, _, _, _, rfl, ⟨c1', dz1, rfl, hc1⟩, r2, fun H7 x7 => ⟨_, rfl, ?_⟩⟩
      rw [show mkRat 1 (1 : Int).toNat = 1 from by decide +kernel]
      exact q3 H7 ((x5.trans x6).trans x7)
    · have hno : okE ((es.take i).map (·.1)) en = false := by
        unfold okE
        rw [all_any]
        revert cb
        generalize decide (en.1 ∈ (es.take i).map (·.1)) = b1
        generalize en.2.isEmpty = b2
        generalize (en.2.any fun q => decide (q.num < 0)) = b3
        generalize decide (sumR en.2 = 1) = b4
        revert b1 b2 b3 b4
        decide
      exact ⟨_, rfl, _, rfl, fun d nd4 => raise hno H4 d x4 nd4⟩
    · have hyes : okE ((es.take i).map (·.1)) en = true := by
        unfold okE
        rw [all_any]
        revert cb
        generalize decide (en.1 ∈ (es.take i).map (·.1)) = b1
        generalize en.2.isEmpty = b2
        generalize (en.2.any fun q => decide (q.num < 0)) = b3
        generalize decide (sumR en.2 = 1) = b4
        revert b1 b2 b3 b4
        decide
      have hnew : nGet kvs en.1 = none := by
        have z := htab.get en.1
        have y : decide (en.1 ∈ (es.take i).map (·.1)) = false := by
          unfold okE at hyes
          revert hyes
          cases decide (en.1 ∈ (es.take i).map (·.1)) with
          | false => exact fun _ => rfl
          | true => exact fun h => nomatch h
        rw [y] at z
        cases hz : nGet kvs en.1 with
        | none => rfl
        | some v => rw [hz] at z; cases z
      have s4 := s2.trans (Stp.ofEx (ms := [t, x]) s2.in_ x4)
      refine ⟨_, rfl, l, ls, rfl, .inl ⟨ex_l x4 hl2, fun u nu => ?_⟩⟩
      have s5 := s4.trans (Stp.new (ms := [t, x]) (o := .tup ls) s4.in_ nu)
      have xu : Ex H4 (upd H4 u (.tup ls)) := Ex.new nu
      have ht5 := xu _ _ (x4 _ _ ht2)
      have hx5 := xu _ _ (x4 _ _ hx2)
      have hu5 : (upd B1 u (HO.tup ls)) u = some (.tup ls) := upd_same
      refine ⟨_, rfl, x, _, _, _, _, rfl, hx5, T.c_Plan, T.a_Plan_table, rfl, ?_⟩
      refine ⟨_, rfl, t, b, en.1, kvs, rfl, rfl, ht5, htab.ks.mono (s2.in_.trans (x4.trans xu)), hkb.mono (s2.in_.trans (x4.trans xu)), ?_, ?_⟩
      · have h1 := htab.len
        rw [List.length_take] at h1
        have : (100000 : Nat) < sizeLine := by decide
        omega
      · have s6 := s5.trans (Stp.put (ms := [t, x]) (o := NDo P w t (nPut kvs en.1 b (.ref u))) s5.in_ (s5.off hbt upd_same) (.head _))
        refine ⟨_, _, _, _, _, _, _, s6, upd_same, (upd_ne (Ne.symm htx)).trans hx5, ?_, hgood hyes, rfl⟩
        rw [nPut_new hnew, List.take_add_one, hen]
        have bu : B1 u = none := ex_none s4.in_ nu
        refine tab_add (htab.mono (Ex.new bu)) rfl (hkb.mono (Ex.new bu)) ⟨u, ls, rfl, st_of hu5, rats_mono hrr (Ex.new bu)⟩
  · rintro σ H2 ⟨B2, kvs, u2, u3, u4, u5, u6, s2, ht2, hx2, htab, hpb, rfl⟩
    have hvl : vs.length = es.length := Paired.length hp
    rw [hvl, List.take_length] at htab
    rw [hvl, List.drop_length] at hpb
    have s3 := Stp.close e nt s2 ht2
    have hb2 : B2 t = none := s2.off hbt upd_same
    refine kg hpb (upd B2 t (NDo P w t kvs)) H2 t kvs s3 hx2 upd_same (htab.mono (Ex.new hb2))
end
end LL
namespace LL
open PySem PySem.Spec PyProof.Rows L2 He Evl
section
variable {P : Program} {w : World} {K : PySem.W.Frag} {mg : Str → Option Value} {base : Heap}
/-- _law_same of two ints, wherever it is called -/
def spSameI : Sp := fun us H Q _ => ∃ m n : Int, us = [.int m, .int n] ∧ ∀ H2, Ex H H2 → Q (.bl (decide (m = n))) H2
theorem fn_l_sameC (T : Txt K mg) : FnRC P w K mg base 1 (ga K "_law_same") spSameI := by
  refine fn_defC T.d_l_same sc_l_same (fun _ _ _ _ _ _ us hl => match us, hl with | [_, _], _ => rfl) (fun vs H Q E h => ?_) (fun cdv A outer s H vs Q E hr h => ?_)
  · obtain ⟨_, _, rfl, _⟩ := h
    rfl
  obtain ⟨m, n_, rfl, k⟩ := h
  have nd := sc_l_same.nd
  refine ⟨_, pss_cons (ps_if (PW.pt (pw_or (pt_val (pe_callB call_isi (by rfl) T.f_isinstance (by decide +kernel) (pa_cons (pv 1) (pa_cons (pe_bltn (v := .ty "tuple") rfl T.f_tuple (by decide +kernel) rfl) pa_nil)))) (pw_or1 (pt_val (pe_callB call_isi (by rfl) T.f_isinstance (by decide +kernel) (pa_cons (pv 1) (pa_cons (pe_bltn (v := .ty "list") rfl T.f_list (by decide +kernel) rfl) pa_nil))))))) (pss_given (p := False) (t := tNext) (fun h => h.elim)) (pss_nil))
      (pss_cons (ps_if (PW.pt (pw_or (pt_cmpR op_isN (pv 1) (pe_non) (nomark _)) (pw_or1 (pt_val (pe_callB call_isi (by rfl) T.f_isinstance (by decide +kernel) (pa_cons (pv 1) (pa_cons (pe_bltn (v := .ty "bool") rfl T.f_bool (by decide +kernel) rfl) pa_nil))))))) (pss_one (ps_ret (pe_and (pe_cmpR op_eq (pe_cmpR op_isN (pv 0) (pe_non) (nomark _)) (pe_cmpR op_isN (pv 1) (pe_non) (nomark _)) (nomark _)) (pe_and (pe_or (pe_cmpR op_isN (pv 1) (pe_non) (nomark _)) (pe_one (pe_callB call_isi (by rfl) T.f_isinstance (by decide +kernel) (pa_cons (pv 0) (pa_cons (pe_bltn (v := .ty "bool") rfl T.f_bool (by decide +kernel) rfl) pa_nil))))) (pe_one (pe_cmpR op_eq (pv 0) (pv 1) (nomark _))))))) (pss_nil))
      (pss_cons (ps_if (pt_val (pe_callB call_isi (by rfl) T.f_isinstance (by decide +kernel) (pa_cons (pv 1) (pa_cons (pe_bltn (v := .ty "int") rfl T.f_int (by decide +kernel) rfl) pa_nil)))) (pss_one (ps_ret (pe_and (pe_callB call_isi (by rfl) T.f_isinstance (by decide +kernel) (pa_cons (pv 0) (pa_cons (pe_bltn (v := .ty "int") rfl T.f_int (by decide +kernel) rfl) pa_nil))) (pe_and (pe_not (pe_callB call_isi (by rfl) T.f_isinstance (by decide +kernel) (pa_cons (pv 0) (pa_cons (pe_bltn (v := .ty "bool") rfl T.f_bool (by decide +kernel) rfl) pa_nil)))) (pe_one (pe_cmpR op_eq (pv 0) (pv 1) (nomark _))))))) (pss_nil))
      (pss_one (ps_ret (pe_and (pe_callB call_isi (by rfl) T.f_isinstance (by decide +kernel) (pa_cons (pv 0) (pa_cons (pe_bltn (v := .ty "str") rfl T.f_str (by decide +kernel) rfl) pa_nil))) (pe_one (pe_cmpR op_eq (pv 0) (pv 1) (nomark _)))))))), ?_⟩
  have isi : ∀ (i : Nat) (j : Int) (b : Bool) {H' : Hp} {n : String}, ([some (V.int m), some (.int n_)])[i]? = some (some (.int j)) → PySem.W.kitOne K (.type (tyN (.int j))) (.type n) = some b → Ev (tCB (rIsi K) (tCons (tVar i) (tCons (tC (.ty n)) tNil))) [some (V.int m), some (.int n_)] H' (.bl b) := fun _ _ _ _ _ hs hk => ev_isi (ev_var hs) (.int _) hk
  refine q_when (b := false) (et_or (a := false) (et_B (isi 1 n_ false rfl (kit_tup (.int n_)))) fun _ => et_B (isi 1 n_ false rfl (kit_lst (.int n_)))) (fun c => nomatch c) (fun _ H1 e1 => ?_)
  refine q_when (b := false) (et_or (a := false) (et_test (ev_isN (K := K) (ev_var rfl) (.int n_))) fun _ => et_B (isi 1 n_ false rfl (kit_boo (.int n_)))) (fun c => nomatch c) (fun _ H2 e2 => ?_)
  refine q_when (b := true) (et_B (isi 1 n_ true rfl (kit_int (.int n_)))) (fun _ H3 e3 => ?_) (fun c => nomatch c)
  refine s_ret (v := .bl (decide (m = n_))) (ev_is (ev_andV (a := true) (isi 0 m true rfl (kit_int (.int m))) fun _ => ev_andV (a := true) (ev_notV (a := false) (isi 0 m false rfl (kit_boo (.int m)))) fun _ => ev_is (ev_op (ev_var rfl) (ev_var rfl) (rv_eq rfl)) (congrArg V.bl (decide_eq_decide.mpr ⟨fun h => V.int.inj h, fun h => by rw [h]⟩))) (by rw [Bool.true_and, Bool.true_and])) fun H4 e4 => k H4 (e1.trans (e2.trans (e3.trans e4)))
end
end LL
namespace LL
open PySem PySem.Spec PyProof.Rows L2 He Evl ND
/-! ### what is new since H0 -/
def WA (H0 : Hp) (B H : Hp) : Prop := Ex B H ∧ ∀ b, H0 b ≠ none → H b ≠ none
instance {H0 : Hp} : Wld [] (WA H0) where
  e h := h.1
  st h s := ⟨s.in_, fun b hb => s.al b (h.2 b hb)⟩
  ne _ z := absurd z List.not_mem_nil
  put {B H a o} h b _ := ⟨Ex.mut h.1 b, fun c hc => by
    by_cases z : c = a
    · rw [z, upd_same]; nofun
    · rw [upd_ne z]; exact h.2 c hc⟩
  keep h b z _ := ⟨(Stp.keep h.1 z b).2, h.2⟩
theorem wa_refl {B H : Hp} (e : Ex B H) : WA H B H := ⟨e, fun _ h => h⟩
section
variable {H0 : Hp} {B : Hp} {σ : L2.St} {te tl : TE} {R R1 : V → Hp → Prop} {g : TG} {ws : List Nat} {K : PySem.W.Frag}
theorem wa_new {B1 H1 : Hp} {D : Addr} (w : WA H0 B1 H1) (n : H1 D = none) : H0 D = none := by
  cases h : H0 D with
  | none => rfl
  | some o => exact absurd n (w.2 D (by rw [h]; nofun))
/-- a comprehension: the new list is new since H0, and no turn sees it -/
theorem lc_worldN {J : L2.It} {n : Nat} {G : Hp → Prop} {xs : List V} (wk : Walk J n G (YAt xs)) (hn : n = xs.length) {B0 H : Hp} (w : WA H0 B0 H) (hz : xs.length ≤ 100000) (hG : ∀ B' H', Ex B0 B' → Ex B' H' → G H')
    {Re : Nat → V → Hp → Prop} (hm : ∀ i v B1 B2, Ex B1 B2 → Re i v B1 → Re i v B2) (he : ∀ i x, xs[i]? = some x → ∀ B1, Ex B0 B1 → LcE [] (WA H0) g te ws σ B1 x (Re i)) {D : Addr} (nD : H D = none) {Q : VK}
    (q : ∀ ys B' H2, Stp [] B0 H (upd B' D (.lst ys)) H2 → WA H0 (upd B' D (.lst ys)) H2 → B' D = none → Ex B0 B' → ys.length = xs.length → (∀ i y, ys[i]? = some y → Re i y B') → Q (.ref D) H2) :
    ∃ Wt : Nat → Nat → Hp → Prop, (∃ m, Wt 0 m (upd H D (.lst []))) ∧ ∀ i m H, Wt i m H →
    (J.stop i H ∧ Q (.ref D) H) ∨ (J.go i H ∧ ∃ Nx : Hp → Prop, (∀ H', Nx H' → ∃ m', m' < m ∧ Wt (i + 1) m' H') ∧ ∀ x H', J.yld i H x H' → g x (wipe σ ws) H' fun σ2 H2 => wipe σ2 ws = wipe σ ws ∧ tYes σ2 H2 fun b H3 =>
        if b = true then te σ2 H3 fun y H4 => ∃ acc, H4 D = some (.lst acc) ∧ acc.length < sizeLine ∧ Nx (upd H4 D (.lst (acc ++ [y]))) else Nx H3) := by
  have hbig : (100000 : Nat) ≤ sizeLine := by decide
  have nL := Wld.off (ms := []) (W := WA H0) w nD
  refine lc_it wk (fun i H' => ∃ B' vs, LcS [] (WA H0) D B0 H Re i B' H' vs) ⟨B0, [], LcS.zero (ms := []) (W := WA H0) w nD⟩ (fun i H' _ z => ?_) (fun i x H' H'' hi z hy => ?_) (fun H' z => ?_)
  · obtain ⟨B', vs, z⟩ := z
    exact hG B' H' z.st.base z.w.1
  · obtain ⟨B', vs, z⟩ := z
    obtain ⟨rfl, hx⟩ := hy
    obtain ⟨σi, h1, h2, h3⟩ := (he i x hx B' z.st.base).go
    refine h2 B' H'' (Ex.refl _) z.w.1 _ ⟨h1, yes_if ?_⟩
    refine h3 B' H'' (Ex.refl _) z.w _ fun v B3 H3 s3 w3 rv => ?_
    obtain ⟨a1, a2⟩ := z.more nL hm s3 w3 rv
    have hl := z.len
    exact ⟨vs, a1, by omega, B3, vs ++ [v], a2⟩
  · obtain ⟨B', vs, z⟩ := z
    obtain ⟨a1, a2, a3⟩ := z.done w nD hm
    exact q vs B' H' a1 a2 z.bL z.st.base (by rw [z.len, hn]) z.re
theorem gw_lcLA {Rl : V → Hp → Prop} (h : GW [] (WA H0) (tl σ) B Rl)
    (f : ∀ v B1, Ex B B1 → Rl v B1 → ∃ a xs, ∃ Re : Nat → V → Hp → Prop, v = .ref a ∧ SqL K B1 a xs ∧ xs.length ≤ 100000 ∧ (∀ i v B1 B2, Ex B1 B2 → Re i v B1 → Re i v B2) ∧ (∀ i x, xs[i]? = some x → ∀ B2, Ex B1 B2 → LcE [] (WA H0) g te ws σ B2 x (Re i)) ∧
      ∀ D ys B2, Ex B1 B2 → B2 D = some (.lst ys) → H0 D = none → ys.length = xs.length → (∀ i y, ys[i]? = some y → Re i y B2) → R (.ref D) B2) : GW [] (WA H0) (tLc (iList K tl) g tYes te ws σ) B R := fun B1 H1 e1 w1 Q q =>
  h B1 H1 e1 w1 _ fun v B2 H2 s2 w2 r => by
    obtain ⟨a, xs, Re, rfl, h1, h2, h3, h4, h5⟩ := f v B2 (e1.trans s2.base) r
    refine ⟨a, rfl, ⟨xs, ex_l w2.1 h1⟩, fun D nD => lc_worldN walk_list rfl w2 h2 (fun B' H' e e' => ex_l e' (ex_l e h1)) h3 h4 nD fun ys B3 H3 s3 w3 hD e3 hl hre => ?_⟩
    exact q _ _ H3 (s2.trans s3) w3 (h5 D ys _ s3.base upd_same (wa_new w2 nD) hl fun i y hy => h3 _ _ _ _ (Ex.new hD) (hre i y hy))
/-- x = [.. for .. in a list] -/
theorem gwq_lcE {D : Ends} {tz : TS} {j : Nat} {a : Addr} {xs : List V} {H : Hp} {Re : Nat → V → Hp → Prop} (w : WA H0 B H) (hv : Ev tl σ B (.ref a)) (ha : SqL K B a xs) (hz : xs.length ≤ 100000) (hm : ∀ i v B1 B2, Ex B1 B2 → Re i v B1 → Re i v B2) (he : ∀ i x, xs[i]? = some x → ∀ B1, Ex B B1 → LcE [] (WA H0) g te ws σ B1 x (Re i))
    (k : ∀ L ys B' H2, H0 L = none → Stp [] B H (upd B' L (.lst ys)) H2 → WA H0 (upd B' L (.lst ys)) H2 → B' L = none → Ex B B' → ys.length = xs.length → (∀ i y, ys[i]? = some y → Re i y B') → tz D (σ.set j (some (.ref L))) H2) : tSeq (tAsg (tLc (iList K tl) g tYes te ws) (gName j)) tz D σ H := by
  refine hv H w.1 _ fun H1 e1 => ?_
  obtain ⟨s1, w1⟩ := Wld.ex (ms := []) (W := WA H0) w e1
  exact ⟨a, rfl, ⟨xs, ex_l w1.1 ha⟩, fun L nL => lc_worldN (Q := fun v H2 => tz D (σ.set j (some v)) H2) walk_list rfl w1 hz (fun B' H' e e' => ex_l e' (ex_l e ha)) hm he nL fun ys B' H2 s2 w2 hD e2 hl hre => k L ys B' H2 (wa_new w1 nL) (s1.trans s2) w2 hD e2 hl hre⟩
end
/-! ### cells are taken out of the base -/
open Classical in
noncomputable def res (S : Addr → Prop) (B : Hp) : Hp := fun b => if S b then none else B b
section
variable {S : Addr → Prop} {B B0 B2 H H2 : Hp} {K : PySem.W.Frag} {w : World}
theorem res_in {b : Addr} (h : S b) : res S B b = none := if_pos h
theorem res_out {b : Addr} (h : ¬ S b) : res S B b = B b := if_neg h
theorem res_ex : Ex (res S B) B := fun b o h => by
  by_cases c : S b
  · rw [res_in c] at h; cases h
  · rwa [res_out c] at h
/-- S: lists that are new since H0 -/
structure NewL (S : Addr → Prop) (H0 B : Hp) : Prop where
  n : ∀ b, S b → H0 b = none
  l : ∀ b, S b → ∃ xs, B b = some (.lst xs)
theorem NewL.keep {H0 : Hp} (h : NewL S H0 B) {a : Addr} {o : HO} (ha : B a = some o) (n : ∀ xs, o ≠ .lst xs) : res S B a = some o := by
  by_cases c : S a
  · obtain ⟨xs, hx⟩ := h.l a c
    rw [hx] at ha
    exact absurd (Option.some.inj ha).symm (n xs)
  · rw [res_out c]; exact ha
theorem NewL.old {H0 B1 : Hp} (h : NewL S H0 B) (e : Ex B1 H0) (e2 : Ex B1 B) : Ex B1 (res S B) := fun b o hb => by
  by_cases c : S b
  · have := h.n b c
    rw [e _ _ hb] at this
    cases this
  · rw [res_out c]; exact e2 _ _ hb
theorem sqt_res {H0 : Hp} (h : NewL S H0 B) {a : Addr} {xs : List V} (ha : SqT K B a xs) : SqT K (res S B) a xs := by
  rcases ha with (ha | ⟨o, ha⟩) | ha
  · exact .inl (.inl (h.keep ha nofun))
  · exact .inl (.inr ⟨o, h.keep ha nofun⟩)
  · exact .inr ha
theorem view_res {H0 : Hp} (h : NewL S H0 B) {b : Addr} {v : List Evt} (hk : KeyAt K B b (viewK v)) : KeyAt K (res S B) b (viewK v) := by
  obtain ⟨xs, h1, h2⟩ := key_view hk
  exact view_key (sqt_res h h1) (paired_mono h2 fun _ _ ⟨a, g1, g2⟩ => ⟨a, g1, sqt_res h g2⟩)
theorem rats_res {H0 : Hp} (h : NewL S H0 B) {vs : List V} {qs : List Rat} (hr : RatsAt K B vs qs) : RatsAt K (res S B) vs qs := paired_mono hr fun _ _ ⟨a, dx, g1, g2⟩ => ⟨a, dx, g1, h.keep g2 nofun⟩
theorem plan_res {H0 : Hp} (h : NewL S H0 B) {v : V} {es : List Ent} (ok : ∀ e ∈ es, ∃ u, e.1 = viewK u) (hp : PlanAt w K B v es) : PlanAt w K (res S B) v es := by
  obtain ⟨x, dx, t, kvs, h1, h2, h3, h4⟩ := hp
  refine ⟨x, dx, t, kvs, h1, h.keep h2 nofun, h.keep h3 (by unfold NDo; nofun), ?_⟩
  clear h1 h2 h3
  induction h4 with
  | nil => exact .nil
  | @cons n e ns es p q ih =>
    refine .cons ?_ (ih fun e he => ok e (.tail _ he))
    obtain ⟨g1, g2, b, vs, g3, g4, g5⟩ := p
    obtain ⟨u, hu⟩ := ok e (.head _)
    have g1' := g1.trans hu
    rw [g1'] at g2
    exact ⟨g1, by rw [g1']; exact view_res h g2, b, vs, g3, sqt_res h g4, rats_res h g5⟩
/-- ahead of H0 nothing is changed when the lists S are -/
theorem stp_res {H0 H3 : Hp} (h : NewL S H0 B) (e0 : Ex B0 H0) (s : Stp [] B0 H0 B H) (f : ∀ b o, ¬ S b → H b = some o → H3 b = some o) (al : ∀ b, S b → H3 b ≠ none) : Stp [] B0 H0 (res S B) H3 where
  base := h.old e0 s.base
  in_ b o hb := by
    by_cases c : S b
    · rw [res_in c] at hb; cases hb
    · rw [res_out c] at hb
      exact f b o c (s.in_ _ _ hb)
  nw b h1 h2 := by
    by_cases c : S b
    · exact res_in c
    · rw [res_out c]; exact s.nw b h1 h2
  fr b o _ hb := by
    have c : ¬ S b := fun c => by rw [h.n b c] at hb; cases hb
    exact f b o c (s.fr b o (fun z => nomatch z) hb)
  al b hb := by
    by_cases c : S b
    · exact al b c
    · cases hh : H b with
      | none => exact absurd hh (s.al b hb)
      | some o => rw [f b o c hh]; nofun
end
end LL
namespace LL
open PySem PySem.Spec PyProof.Rows L2 He Evl ND
theorem hot_suite {X : Cx} {a : Addr} {oe : Obj} {cls : Value} {d : Option Addr} {pn : List (Addr × Obj)} (hz : L2N.Zn cls d oe) (hf : ∃ vs, oe.data = .fields vs) : L2H.HotC (X.suite a ((a, oe) :: pn)) := by
  obtain ⟨vs, hd⟩ := hf
  exact ⟨(a, oe), ⟨rfl, vs, hd, hz.2.2 vs hd⟩, List.mem_cons_self⟩
/-- tuple(list) -/
def rTof (K : PySem.W.Frag) : List V → Hp → VK → Prop := fun xs H Q => ∃ p ys, xs = [V.ref p] ∧ ((SqL K H p ys ∧ ∀ l, H l = none → Q (.ref l) (upd H l (.tup ys))) ∨ (SqT K H p ys ∧ Q (.ref p) H))
theorem call_tuple_ofK {X : Cx} (K : PySem.W.Frag) (h : X.K = K := by rfl) : CallR X (.type "tuple") (rTof K) := by subst h; exact call_tuple_of
theorem op_neDK {X : Cx} (K : PySem.W.Frag) (hu : X.A.units + 64 < cLine) (h : X.K = K := by rfl) : OpR X (compareOp .NotEq) (rNeD K) := by subst h; exact op_neD hu
theorem takesN_none {X : Cx} : L2N.Takes X (fun _ _ _ _ => False) := fun _ _ ⟨_, _, _, _, _, _, _, _, _, _, _, _, _, _, _, _, w⟩ => w.elim
/-! ### the law's rows in the base -/
section
variable {w : World} {K : PySem.W.Frag} {mg : Str → Option Value} {base : Heap} {B B2 : Hp}
def RwAt (K : PySem.W.Frag) (B : Hp) (x : V) (e : Ent) : Prop := ∃ T b l vs, x = .ref T ∧ B T = some (.tup [.ref b, .ref l]) ∧ KeyAt K B b e.1 ∧ B l = some (.lst vs) ∧ LrsAt B vs e.2
theorem RwAt.mono {x : V} {e : Ent} (h : RwAt K B x e) (x' : Ex B B2) : RwAt K B2 x e := by
  obtain ⟨T, b, l, vs, h1, h2, h3, h4, h5⟩ := h
  exact ⟨T, b, l, vs, h1, x' _ _ h2, key_mono h3 x', x' _ _ h4, h5.mono x'⟩
def RwsAt (K : PySem.W.Frag) (B : Hp) (vs : List V) (es : List Ent) : Prop := Paired (RwAt K B) vs es
theorem RwsAt.mono {vs : List V} {es : List Ent} (h : RwsAt K B vs es) (x : Ex B B2) : RwsAt K B2 vs es := paired_mono h fun _ _ z => z.mono x
theorem RwsAt.len {vs : List V} {es : List Ent} (h : RwsAt K B vs es) : vs.length = es.length := Paired.length h
theorem rws_kvs {vs : List V} {es : List Ent} (h : RwsAt K B vs es) : ∃ Ts kvs, vs = Ts.map V.ref ∧ Paired (fun T (e : NE) => SqT K B T [.ref e.2.1, e.2.2]) Ts kvs ∧ LtAt K B kvs es := by
  unfold RwsAt at h
  induction h with
  | nil => exact ⟨[], [], rfl, .nil, .nil⟩
  | @cons x e vs es p q ih =>
    obtain ⟨Ts, kvs, rfl, h2, h3⟩ := ih
    obtain ⟨T, b, l, ws, rfl, g1, g2, g3, g4⟩ := p
    exact ⟨T :: Ts, (e.1, b, .ref l) :: kvs, rfl, .cons (st_of g1) h2, .cons ⟨rfl, g2, l, ws, rfl, g3, g4⟩ h3⟩
theorem nGet_none : ∀ {kvs : List NE} {k : NestedKey}, k ∉ kvs.map (·.1) → nGet kvs k = none
  | [], _, _ => rfl
  | n :: kvs, k, h => by
    rw [List.map_cons, List.mem_cons, not_or] at h
    show valV ((n.1, n.2.2) :: nP kvs) k = _
    rw [valV_neg (p := (n.1, n.2.2)) (fun z => h.1 z.symm)]
    exact nGet_none h.2
theorem nPut_new {kvs : List NE} {k : NestedKey} {b : Addr} {v : V} (h : k ∉ kvs.map (·.1)) : nPut kvs k b v = kvs ++ [(k, b, v)] := by
  unfold nPut
  rw [nGet_none h]
  rfl
theorem nMerge_nd : ∀ (kvs acc : List NE), (kvs.map (·.1)).Nodup → (∀ e ∈ kvs, e.1 ∉ acc.map (·.1)) → nMerge acc kvs = acc ++ kvs
  | [], acc, _, _ => by rw [List.append_nil]; rfl
  | e :: kvs, acc, nd, h => by
    rw [List.map_cons, List.nodup_cons] at nd
    show nMerge (nPut acc e.1 e.2.1 e.2.2) kvs = _
    rw [nPut_new (h e (.head _)), nMerge_nd kvs _ nd.2 fun x hx => ?_, List.append_assoc]
    · rfl
    · rw [List.map_append, List.map_singleton, List.mem_append, not_or]
      refine ⟨h x (.tail _ hx), fun z => nd.1 ?_⟩
      rw [← List.mem_singleton.mp z]
      exact List.mem_map_of_mem (f := (·.1)) hx
/-- one entry is put anew -/
theorem lt_set {kvs : List NE} {es : List Ent} {k : NestedKey} {b : Addr} {v : V} {qs : List Rat} (h : LtAt K B kvs es) (hk : k ∈ es.map (·.1)) (hv : LvAt B v qs) : LtAt K B (nPut kvs k b v) (setE es k qs) := by
  have hg : (nGet kvs k).isSome = true := by
    rcases h.find (k := k) with ⟨v2, e2, h1, _, _⟩ | ⟨_, h4⟩
    · rw [h1]; rfl
    · obtain ⟨e, he, hek⟩ := List.mem_map.mp hk
      have := List.find?_eq_none.mp h4 e he
      exact absurd (decide_eq_true hek) this
  unfold nPut setE
  rw [if_pos hg]
  clear hg hk
  induction h with
  | nil => exact .nil
  | @cons n e kvs es h1 h2 ih =>
    refine .cons ?_ ih
    obtain ⟨a, b', c⟩ := h1
    dsimp only
    by_cases z : n.1 = k
    · rw [if_pos z, if_pos (a ▸ z)]
      exact ⟨a, b', hv⟩
    · rw [if_neg z, if_neg (a ▸ z)]
      exact ⟨a, b', c⟩
section
variable {ms : List Addr} {W : Hp → Hp → Prop} [I : Wld ms W] {σ : L2.St} {te ta tb : TE} {E : XK}
/-- dict(rows) -/
theorem gw_dictR {es : List Ent} (h : GW ms W (te σ) B (fun v B2 => ∃ a vs, v = .ref a ∧ B2 a = some (.lst vs) ∧ RwsAt K B2 vs es)) (nd : (es.map (·.1)).Nodup) : GW ms W (tCB (rDict P w K) (tCons te tNil) σ) B (fun v B2 => LpAt w K B2 v es) := by
  refine gw_cb (S := fun xs B2 => ∃ a vs, xs = [.ref a] ∧ B2 a = some (.lst vs) ∧ RwsAt K B2 vs es) (gw_cons h fun v B2 e2 ⟨a, vs, hv, h1, h2⟩ => gw_nil fun B3 e3 => ⟨a, vs, by rw [hv], e3 _ _ h1, h2.mono e3⟩) fun xs B2 e2 ⟨a, vs, hv, h1, h2⟩ => ?_
  subst hv
  intro B3 H3 e3 w3 Q q
  have e4 := e3.trans (I.e w3)
  obtain ⟨Ts, kvs, rfl, g1, g2⟩ := rws_kvs h2
  refine ⟨a, Ts, kvs, rfl, sq_of (e4 _ _ h1), paired_mono g1 fun _ _ z => ex_t e4 z, (g2.mono e4).ks, fun d nd' => ?_⟩
  have hm : nMerge [] kvs = kvs := (nMerge_nd kvs [] (by rw [g2.keys]; exact nd) (fun _ _ z => nomatch z)).trans (List.nil_append _)
  obtain ⟨s5, w5⟩ := Wld.new (I := I) (o := NDo P w d (nMerge [] kvs)) w3 nd'
  refine q _ _ _ s5 w5 ⟨d, kvs, rfl, ?_, g2.mono (e3.trans s5.base)⟩
  rw [upd_same, hm]
/-- x = dict(rows): the dict stays beside the base -/
theorem gwq_dictR {D : Ends} {tz : TS} {i : Nat} {H : Hp} {a : Addr} {vs : List V} {es : List Ent} (w0 : W B H) (h : Ev te σ B (.ref a)) (ha : B a = some (.lst vs)) (hr : RwsAt K B vs es) (nd : (es.map (·.1)).Nodup)
    (k : ∀ F kvs H2, Stp ms B H B H2 → W B H2 → H F = none → B F = none → H2 F = some (NDo P w F kvs) → LtAt K B kvs es → tz D (σ.set i (some (.ref F))) H2) : tSeq (tAsg (tCB (rDict P w K) (tCons te tNil)) (gName i)) tz D σ H := by
  refine h H (I.e w0) _ fun H1 e1 => ?_
  obtain ⟨s1, w1⟩ := Wld.ex (I := I) w0 e1
  obtain ⟨Ts, kvs, rfl, g1, g2⟩ := rws_kvs hr
  have e4 := I.e w1
  refine ⟨a, Ts, kvs, rfl, sq_of (e4 _ _ ha), paired_mono g1 fun _ _ z => ex_t e4 z, (g2.mono e4).ks, fun d nd' => ?_⟩
  have hm : nMerge [] kvs = kvs := (nMerge_nd kvs [] (by rw [g2.keys]; exact nd) (fun _ _ z => nomatch z)).trans (List.nil_append _)
  refine k d kvs _ (s1.trans (Stp.cell (I.e w1) nd')) (Wld.cell (I := I) w1 nd') (fresh_back e1 nd') (ex_none (I.e w1) nd') ?_ g2
  rw [upd_same, hm]
/-- made_plan(dict) -/
theorem gw_made {es : List Ent} (h : GW ms W (te σ) B (fun v B2 => LpAt w K B2 v es)) (ok : DrOk es) (hl : es.length ≤ 401) : GW ms W ((fun σ H Q => tCons te tNil σ H fun vs H1 => spMadePlan w K vs H1 Q E) σ) B (fun v B2 => PlanAt w K B2 v es) :=
  gw_fn (S := fun xs B2 => ∃ v, xs = [v] ∧ LpAt w K B2 v es) (gw_cons h fun v B2 e2 hv => gw_nil fun B3 e3 => ⟨v, rfl, hv.mono e3⟩) fun xs B2 e2 ⟨v, hx, hv⟩ => by
    subst hx
    exact gw_base fun B3 H3 e3 w3 Q q => ⟨B3, v, es, rfl, w3, hv.mono e3, ok, hl, fun u B4 H4 s4 h4 => q u B4 H4 s4 h4⟩
/-- p == q, both worked out -/
theorem gw_planEq {es ds : List Ent} (h1 : GW ms W (ta σ) B (fun v B2 => PlanAt w K B2 v es)) (h2 : ∀ B1, Ex B B1 → GW ms W (tb σ) B1 (fun v B2 => PlanAt w K B2 v ds)) : GW ms W (tOp (rOwnB (ga K "Plan") (spEqP w K) E) ta tb σ) B (fun v _ => v = .bl (decide (es = ds))) :=
  gw_op h1 fun x B1 e1 hx => (h2 B1 e1).imp fun y B2 e2 hy => gw_ex (fun B3 H3 e3 w3 Q q => by
    have hx1 := hx.mono (e2.trans (e3.trans w3))
    have hy1 := hy.mono (e3.trans w3)
    obtain ⟨a, dx, ta, ka, rfl, ha, _, _⟩ := id hx1
    obtain ⟨b, dy, tb, kb, rfl, hb, _, _⟩ := id hy1
    exact ⟨a, dx, _, b, dy, _, rfl, rfl, ha, hb, _, _, es, ds, rfl, hx1, hy1, fun H2 e2 => q H2 e2⟩) fun _ _ => rfl
theorem gw_plan {i : Nat} {v : V} {es : List Ent} (hi : σ[i]? = some (some v)) (hp : PlanAt w K B v es) : GW ms W (tVar i σ) B (fun u B2 => PlanAt w K B2 u es) := (gw_val (ev_var hi)).imp fun u B2 e2 hu => by
  subst hu
  exact hp.mono e2
/-- _law_same(x, y) of two truth values -/
theorem gw_sameB {a b : Bool} (h1 : GW ms W (ta σ) B (fun v _ => v = .bl a)) (h2 : ∀ B1, Ex B B1 → GW ms W (tb σ) B1 (fun v _ => v = .bl b)) (hab : a = b) : GW ms W ((fun σ H Q => tCons ta (tCons tb tNil) σ H fun vs H1 => spSame K 5 vs H1 Q E) σ) B (fun v _ => v = .bl true) :=
  (gw_same (d := .bool a) (e := .bool b) (gw_cons h1 fun x B1 e1 hx => gw_cons (h2 B1 e1) fun y B2 e2 hy => gw_nil fun B3 e3 => ⟨x, y, rfl, by rw [hx]; exact .bl _, by rw [hy]; exact .bl _⟩) (dep_bool 5 b)).imp fun v B2 e2 hv => by rw [hv, same_t (by rw [hab])]
/-- [less(x, whole) for x in weights] -/
theorem gw_less (T : Txt K mg) {tl : TE} {j : Nat} {tw : TE} {ws : List Int} {wh : Int} {cs : List Nat} (h : GW ms W (tl σ) B (fun v B2 => ∃ a, v = .ref a ∧ B2 a = some (.lst (ws.map V.int)))) (hwh : 1 ≤ wh ∧ wh ≤ 30) (hl : ws.length ≤ 5) (hw : ∀ x : V, wipe ((wipe σ cs).set j (some x)) cs = wipe σ cs)
    (hj : ∀ x : V, ((wipe σ cs).set j (some x))[j]? = some (some x)) (ht : ∀ (x : V) B1, Ev tw ((wipe σ cs).set j (some x)) B1 (.int wh)) :
    GW ms W (tLc (iList K tl) (gName j) tYes (fun σ H Q => tCons (tVar j) (tCons tw tNil) σ H fun vs H1 => spLow K vs H1 Q E) cs σ) B (fun v B2 => ∃ l vs, v = .ref l ∧ B2 l = some (.lst vs) ∧ LrsAt B2 vs (lotG ws wh)) := by
  refine gw_lcL h fun v B1 e1 ⟨a, hv, ha⟩ => ?_
  subst hv
  refine ⟨a, _, fun i v B2 => ∃ x, ws[i]? = some x ∧ PairAt B2 v (mkRat x wh.toNat).num (mkRat x wh.toNat).den, rfl, sq_of ha, by rw [List.length_map]; omega, fun i v B1 B2 e ⟨x, h1, h2⟩ => ⟨x, h1, h2.mono e⟩, fun i y hy B2 e2 => ?_, fun D ys B2 e2 hD hyl hre => ⟨D, ys, rfl, hD, paired_of (by rw [hyl, List.length_map, lotG_len]) fun i y q hy hq => ?_⟩⟩
  · rw [List.getElem?_map] at hy
    obtain ⟨x, hx, rfl⟩ := Option.map_eq_some_iff.mp hy
    refine LcE.name (hw _) ?_
    refine gw_fn (S := fun xs _ => xs = [.int x, .int wh]) (gw_c1 (ev_var (hj _)) (gw_c1 (ht _ _) (gw_nil fun _ _ => rfl))) fun xs B3 e3 hxs => ?_
    subst hxs
    intro B4 H4 e4 w4 Q q
    refine ⟨x, wh, rfl, by omega, ?_, fun c nc => ?_⟩
    · have : wh.natAbs < 2 ^ 5 := by omega
      exact Nat.lt_trans this (by decide)
    · obtain ⟨s5, w5⟩ := Wld.new (I := I) (o := .tup [.int (mkRat x wh.toNat).num, .int ((mkRat x wh.toNat).den : Int)]) w4 nc
      exact q _ _ _ s5 w5 ⟨x, hx, c, rfl, upd_same⟩
  · obtain ⟨x, h1, h2⟩ := hre i y hy
    unfold lotG at hq
    rw [List.getElem?_map, h1] at hq
    cases hq
    exact h2
/-- len(rows) -/
theorem gw_lenR {i : Nat} {a : Addr} {vs : List V} (hi : σ[i]? = some (some (.ref a))) (ha : B a = some (.lst vs)) : GW ms W (tCB (rLenS K) (tCons (tVar i) tNil) σ) B (fun v _ => v = .int (vs.length : Nat)) := gw_val (ev_lenS (ev_var hi) (.inl (sq_of ha)))
/-- a or b, values -/
theorem gw_orV {a b : Bool} (h1 : GW ms W (ta σ) B (fun v _ => v = .bl a)) (h2 : ∀ B1, Ex B B1 → a = false → GW ms W (tb σ) B1 (fun v _ => v = .bl b)) : GW ms W (tOrV ta tb σ) B (fun v _ => v = .bl (a || b)) :=
  gw_bind (k2 := fun (x : V) H (Q : VK) => ∃ c, x = .bl c ∧ if c = true then Q (.bl true) H else tb σ H Q) h1 fun v B1 e1 hv => by
    subst hv
    cases a with
    | true => exact fun B2 H2 e2 w2 Q q => ⟨true, rfl, by rw [if_pos rfl]; exact q _ B2 H2 (Wld.refl (I := I) w2) w2 rfl⟩
    | false => exact fun B2 H2 e2 w2 Q q => ⟨false, rfl, by rw [if_neg (by decide)]; exact h2 B1 e1 rfl B2 H2 e2 w2 Q fun v B3 H3 s3 w3 hv => q v B3 H3 s3 w3 (by rw [hv, Bool.false_or])⟩
/-- min(weights) -/
theorem gw_min {L : Addr} {zs : List Int} (h : GW ms W (te σ) B (fun v B2 => v = .ref L ∧ SqL K B2 L (zs.map V.int))) (hz : zs ≠ []) : GW ms W (tCB (rMin K) (tCons te tNil) σ) B (fun v _ => ∃ m : Int, v = .int m ∧ decide (m < 0) = zs.any fun x => decide (x < 0)) := by
  refine gw_cb (S := fun xs B2 => xs = [.ref L] ∧ SqL K B2 L (zs.map V.int)) (gw_cons h fun v B2 e2 ⟨hv, h1⟩ => gw_nil fun B3 e3 => ⟨by rw [hv], ex_l e3 h1⟩) fun xs B2 e2 ⟨hx, h1⟩ => ?_
  subst hx
  intro B3 H3 e3 w3 Q q
  refine ⟨L, zs, rfl, ex_l (e3.trans (I.e w3)) h1, List.length_pos_iff.mpr hz, fun m hm hle => q _ B3 H3 (Wld.refl (I := I) w3) w3 ⟨m, rfl, ?_⟩⟩
  rw [Bool.eq_iff_iff, decide_eq_true_eq, List.any_eq_true]
  constructor
  · intro h; exact ⟨m, hm, decide_eq_true h⟩
  · rintro ⟨x, hx, hn⟩
    have := hle x hx
    have := of_decide_eq_true hn
    omega
end
end
end LL
namespace LL
open PySem PySem.Spec PyProof.Rows L2 He Evl ND
/-! ### drawn views -/
theorem nmv_cons {e : Evt} {v : List Evt} (he : NmE e) (h : NmV v) : NmV (e :: v) := fun x hx => by
  rcases List.mem_cons.mp hx with rfl | hx
  · exact he
  · exact h x hx
theorem vw_one {k : Nat} (h : k < 4) : VwOk [(("asked", [k, 2]) : Evt)] where
  l := (show 1 ≤ 4 by decide)
  e x hx := by rw [List.mem_singleton.mp hx]; exact (show 2 ≤ 2 by decide)
  n := fun x hx => by rw [List.mem_singleton.mp hx]; exact nm_law.1
  a := ⟨k, h, rfl⟩
theorem vw_cons {e : Evt} {v : List Evt} (h : VwOk v) (hl : v.length ≤ 3) (h2 : e.2.length ≤ 2) (hn : NmE e) : VwOk (e :: v) where
  l := by rw [List.length_cons]; omega
  e x hx := by
    rcases List.mem_cons.mp hx with rfl | hx
    · exact h2
    · exact h.e x hx
  n := nmv_cons hn h.n
  a := by
    obtain ⟨k, h1, h2⟩ := h.a
    refine ⟨k, h1, ?_⟩
    cases v with
    | nil => cases h2
    | cons x v => rw [List.getLast?_cons_cons]; exact h2
theorem keys_any {v : List Evt} : ∀ {es : List Ent}, (∀ e ∈ es, ∃ u, e.1 = viewK u) → ((es.map fun e => e.1.data).any fun z => PyData.eqv z (viewK v).data) = decide (viewK v ∈ es.map (·.1))
  | [], _ => rfl
  | e :: es, h => by
    obtain ⟨u, hu⟩ := h e (.head _)
    rw [List.map_cons, List.any_cons, keys_any fun x hx => h x (.tail _ hx), List.map_cons, hu, view_data, view_data, eqv_view]
    by_cases c : u = v
    · subst c
      rw [decide_eq_true rfl, decide_eq_true (List.mem_cons_self), Bool.true_or]
    · rw [decide_eq_false c, Bool.false_or]
      refine decide_eq_decide.mpr ⟨fun m => List.mem_cons_of_mem _ m, fun m => ?_⟩
      rcases List.mem_cons.mp m with m | m
      · exact absurd (viewK_inj m).symm c
      · exact m
theorem eqv_rat (p q : Rat) : PyData.eqv (ratD p) (ratD q) = decide (p = q) := by
  unfold ratD
  rw [PyData.eqv, PyData.eqvAll, PyData.eqvAll, PyData.eqvAll, PyData.eqv, PyData.eqv, Bool.and_true]
  rw [Bool.eq_iff_iff, decide_eq_true_eq, Bool.and_eq_true]
  constructor
  · rintro ⟨h1, h2⟩
    have e1 : p.num = q.num := by simpa using h1
    have e2 : (p.den : Int) = q.den := by simpa using h2
    exact Rat.ext e1 (by omega)
  · rintro rfl
    exact ⟨by simp, by simp⟩
theorem eqv_rats : ∀ ps qs : List Rat, PyData.eqvAll (ps.map ratD) (qs.map ratD) = decide (ps = qs)
  | [], [] => by simp [PyData.eqvAll]
  | [], _ :: _ => by simp [PyData.eqvAll]
  | _ :: _, [] => by simp [PyData.eqvAll]
  | p :: ps, q :: qs => by
    rw [List.map_cons, List.map_cons, PyData.eqvAll, eqv_rat, eqv_rats ps qs]
    by_cases h : p = q <;> by_cases h2 : ps = qs <;> simp [h, h2]
theorem eqv_lots (ps qs : List Rat) : PyData.eqv (.list (ps.map ratD)) (.list (qs.map ratD)) = decide (ps = qs) := by
  rw [PyData.eqv, eqv_rats]
theorem lots_shaped (qs : List Rat) : SeqAt.shaped (.list (qs.map ratD)) = true := list_shaped (k := 1) (fun d hd => by
  obtain ⟨q, _, rfl⟩ := List.mem_map.mp hd
  exact ⟨rfl, by unfold ratD; simp [PyData.depth, PyData.depthAll]⟩) (by decide)
theorem key_shaped {k : NestedKey} (h : KLay k) : SeqAt.shaped k.data = true := shaped_of ⟨h.1, by have := h.2; omega⟩
theorem keys_shaped {es : List Ent} (h : ∀ e ∈ es, KLay e.1) : SeqAt.shaped (.list (es.map fun e => e.1.data)) = true := list_shaped (k := 2) (fun d hd => by
  obtain ⟨e, he, rfl⟩ := List.mem_map.mp hd
  exact h e he) (by decide)
theorem lv_dp {K : PySem.W.Frag} {B : Hp} {v : V} {qs : List Rat} (h : LvAt B v qs) : Dp K B v (.list (qs.map ratD)) := by
  obtain ⟨l, vs, rfl, h1, h2⟩ := h
  refine .lst (sq_of h1) ?_
  clear h1
  unfold LrsAt at h2
  induction h2 with
  | nil => exact .nil
  | cons p _ ih =>
    obtain ⟨a, rfl, ha⟩ := p
    exact .cons (.tup (st_of ha) (.cons (.int _) (.cons (.int _) .nil))) ih
/-- None, or the index of the first wrong entry -/
def bv (es : List Ent) : V := match planBad [] 0 es with
  | none => .non
  | some i => .int (i : Nat)
theorem bv_non (es : List Ent) : decide (bv es = .non) = decide (planBad [] 0 es = none) := by
  unfold bv
  cases planBad [] 0 es with
  | none => rw [decide_eq_true rfl, decide_eq_true rfl]
  | some i => rw [decide_eq_false nofun, decide_eq_false nofun]
theorem bv_snoc (es : List Ent) (e : Ent) : bv (es ++ [e]) = if (decide (bv es = .non) && !okE (es.map (·.1)) e) = true then .int (es.length : Nat) else bv es := by
  rw [bv_non]
  unfold bv
  rw [bad_snoc]
  cases planBad [] 0 es with
  | none =>
    rw [decide_eq_true rfl, Bool.true_and, List.nil_append, Nat.zero_add]
    cases okE (es.map (·.1)) e <;> rfl
  | some i =>
    rw [decide_eq_false nofun, Bool.false_and]
    rfl
section
variable {ms : List Addr} {W : Hp → Hp → Prop} [I : Wld ms W] {B : Hp} {σ : L2.St} {t1 t2 : TT}
theorem gw_andC {a b : Bool} (h1 : GW ms W (t1 σ) B (fun (c : Bool) _ => c = a)) (h2 : ∀ B1, Ex B B1 → a = true → GW ms W (t2 σ) B1 (fun (c : Bool) _ => c = b)) : GW ms W (tAnd t1 t2 σ) B (fun (c : Bool) _ => c = (a && b)) :=
  gw_bind (k2 := fun (c : Bool) H (Q : Bool → Hp → Prop) => if c = true then t2 σ H Q else Q false H) h1 fun c B1 e1 hc => by
    subst hc
    cases c with
    | true => exact (h2 B1 e1 rfl).imp fun c B2 e2 hc => by rw [hc, Bool.true_and]
    | false => exact gw_pure (v := false) fun _ _ => by rw [Bool.false_and]
theorem gw_tC {te : TE} {b : Bool} (h : GW ms W (te σ) B (fun v _ => v = .bl b)) : GW ms W (tTest te σ) B (fun (c : Bool) _ => c = b) := gw_test (h.imp fun v B1 e1 hv => ⟨b, hv, rfl⟩)
theorem gw_tBC {te : TE} {b : Bool} (h : GW ms W (te σ) B (fun v _ => v = .bl b)) : GW ms W (tB te σ) B (fun (c : Bool) _ => c = b) := gw_test (te := te) (h.imp fun v B1 e1 hv => ⟨b, hv, rfl⟩)
end
end LL
namespace LL
open PySem PySem.Spec PyProof.Rows L2 He Evl ND
section
variable {w : World} {K : PySem.W.Frag} {mg : Str → Option Value} {base : Heap} {B B2 H H0 : Hp}
/-- Plan(entries), whether it takes them or not -/
theorem mk_planB (kz : Nat) {D : Addr} {us : List V} {es : List Ent} {Q : VK} {E : XK} (eB : Ex B H) (hD : H D = some (.lst us)) (hu : Paired (EinAt K B B) us es) (hl : es.length ≤ 1000) (hk : 1 ≤ kz ∧ kz ≤ 1000) (hz : ∀ e ∈ es, 1 + e.2.length * (kz + 1) ≤ 8000 ∧ ∀ q ∈ e.2, Sz kz q)
    (k : planBad [] 0 es = none → ∀ v B2 H2, Stp [] B H B2 H2 → PlanAt w K B2 v es → Q v H2) (kb : ∀ i, planBad [] 0 es = some i → ∀ d H2, Ex H H2 → H2 d = some (.xd [("at", .int (i : Nat))]) → E (.ref (ga K "BadPlan")) (some d) H2) : ∀ x dx, H x = none → H dx = none → dx ≠ x → spPI w K [.ref x, .ref D] (upd (upd H dx (.own x)) x (.ins (ga K "Plan") dx [])) (fun v H2 => v = .non ∧ Q (.ref x) H2) E := by
  intro x dx nx ndx ne
  have hx0 : upd H dx (.own x) x = none := by rw [upd_ne (Ne.symm ne)]; exact nx
  have e1 : Ex H (upd H dx (.own x)) := Ex.new ndx
  have e2 : Ex (upd H dx (.own x)) (upd (upd H dx (.own x)) x (.ins (ga K "Plan") dx [])) := Ex.new hx0
  have eB' : Ex B (upd (upd H dx (.own x)) x (.ins (ga K "Plan") dx [])) := eB.trans (e1.trans e2)
  have bx : B x = none := ex_none eB nx
  refine ⟨B, x, dx, D, us, es, kz, rfl, eB', bx, upd_same, sq_of (e2 _ _ (e1 _ _ hD)), paired_mono hu fun v e h => einb_at h eB', hl, hk, hz, fun hb B2 H2 t kvs s hx2 ht htab => ⟨rfl, ?_⟩, fun i hi B2 H2 d s hd => ?_⟩
  · have s0 : Stp [x] B (upd H dx (.own x)) B (upd (upd H dx (.own x)) x (.ins (ga K "Plan") dx [])) := Stp.cell (eB.trans e1) hx0
    have cl := Stp.close (ms := []) (o0 := .ins (ga K "Plan") dx []) (eB.trans e1) hx0 s hx2
    have s1 : Stp [] B H B (upd H dx (.own x)) := Stp.cell eB ndx
    refine k hb (.ref x) _ H2 (s1.trans cl) ⟨x, dx, t, kvs, rfl, upd_same, ?_, htab.mono (Ex.new ?_)⟩
    · have : t ≠ x := fun z => by
        subst z
        have := s.in_ _ _ ht
        rw [hx2] at this
        unfold NDo at this
        cases this
      rw [upd_ne this]; exact ht
    · exact s.off bx upd_same
  · have s0 := Stp.with (ms := []) hx0 s
    exact kb i hi d H2 (fun b o hb => s0.fr b o (fun h => nomatch h) (e1 b o hb)) hd
/-- x = Plan(entries) in a try -/
theorem gws_planB (kz : Nat) {D : Ends} {i j : Nat} {Ef : L2.St → XK} {σ : L2.St} {a : Addr} {us : List V} {es : List Ent} (eB : Ex B H) (hj : σ[j]? = some (some (.ref a))) (hD : H a = some (.lst us)) (hu : Paired (EinAt K B B) us es) (hl : es.length ≤ 1000) (hk : 1 ≤ kz ∧ kz ≤ 1000) (hz : ∀ e ∈ es, 1 + e.2.length * (kz + 1) ≤ 8000 ∧ ∀ q ∈ e.2, Sz kz q)
    (k : planBad [] 0 es = none → ∀ v B2 H2, Stp [] B H B2 H2 → PlanAt w K B2 v es → D.nx (σ.set i (some v)) H2) (kb : ∀ m, planBad [] 0 es = some m → ∀ d H2, Ex H H2 → H2 d = some (.xd [("at", .int (m : Nat))]) → Ef σ (.ref (ga K "BadPlan")) (some d) H2) : tAsg (tMakeRS (ga K "Plan") (spPI w K) Ef (tCons (tVar j) tNil)) (gName i) D σ H :=
  ⟨_, hj, mk_planB (Q := fun v H2 => D.nx (σ.set i (some v)) H2) kz eB hD hu hl hk hz k kb⟩
/-- an entry whose list is new since H0 -/
def EnAt (K : PySem.W.Frag) (H0 B : Hp) (v : V) (e : Ent) : Prop := ∃ T b l ws, v = .ref T ∧ B T = some (.tup [.ref b, .ref l]) ∧ KeyAt K B b e.1 ∧ B l = some (.lst ws) ∧ RatsAt K B ws e.2 ∧ H0 l = none
theorem EnAt.mono {v : V} {e : Ent} (h : EnAt K H0 B v e) (x : Ex B B2) : EnAt K H0 B2 v e := by
  obtain ⟨T, b, l, ws, h1, h2, h3, h4, h5, h6⟩ := h
  exact ⟨T, b, l, ws, h1, x _ _ h2, key_mono h3 x, x _ _ h4, rats_mono h5 x, h6⟩
theorem EnAt.ein {v : V} {e : Ent} (h : EnAt K H0 B v e) : EinAt K B B v e := by
  obtain ⟨T, b, l, ws, h1, h2, h3, h4, h5, h6⟩ := h
  exact ⟨T, b, l, ws, h1, st_of h2, h3, sq_of h4, h5⟩
/-- the lists of the entries -/
def SE (D : Addr) (ys : List V) (B : Hp) (b : Addr) : Prop := b = D ∨ ∃ v ∈ ys, ∃ T bb, v = .ref T ∧ B T = some (.tup [.ref bb, .ref b])
theorem paired_any {α β : Type} {R : α → β → Prop} : ∀ {xs : List α} {ys : List β}, Paired R xs ys → ∀ x ∈ xs, ∃ y ∈ ys, R x y
  | _, _, .nil, x, h => absurd h List.not_mem_nil
  | _, _, .cons h t, x, hx => by
    rcases List.mem_cons.mp hx with rfl | hx
    · exact ⟨_, .head _, h⟩
    · obtain ⟨y, h1, h2⟩ := paired_any t x hx
      exact ⟨y, .tail _ h1, h2⟩
theorem se_new {D : Addr} {ys : List V} {es : List Ent} (hD : B D = some (.lst ys)) (nD : H0 D = none) (h : Paired (EnAt K H0 B) ys es) (x : Ex B B2) : NewL (SE D ys B) H0 B2 where
  n b hb := by
    rcases hb with rfl | ⟨v, hv, T, bb, rfl, hT⟩
    · exact nD
    · obtain ⟨e, _, T', b', l', ws, h1, h2, _, _, _, h6⟩ := paired_any h _ hv
      cases h1
      rw [hT] at h2
      cases h2
      exact h6
  l b hb := by
    rcases hb with rfl | ⟨v, hv, T, bb, rfl, hT⟩
    · exact ⟨ys, x _ _ hD⟩
    · obtain ⟨e, _, T', b', l', ws, h1, h2, _, h4, _, _⟩ := paired_any h _ hv
      cases h1
      rw [hT] at h2
      cases h2
      exact ⟨ws, x _ _ h4⟩
theorem se_len {D : Addr} {ys : List V} {es : List Ent} (h : Paired (EnAt K H0 B) ys es) (hl : ∀ e ∈ es, e.2.length ≤ 5) (l : Addr) (hs : SE D ys B l) (hn : l ≠ D) : ∃ ws, B l = some (.lst ws) ∧ ws.length ≤ 5 := by
  rcases hs with rfl | ⟨v, hv, T, bb, rfl, hT⟩
  · exact absurd rfl hn
  · obtain ⟨e, he, T', b', l', ws, h1, h2, _, h4, h5, _⟩ := paired_any h _ hv
    cases h1
    rw [hT] at h2
    cases h2
    exact ⟨ws, h4, by rw [show ws.length = e.2.length from Paired.length h5]; exact hl e he⟩
/-- a row of due -/
def DueAt (K : PySem.W.Frag) (B : Hp) (y : V) (e : Ent) : Prop := ∃ T b t ps, y = .ref T ∧ B T = some (.tup [.ref b, .ref t]) ∧ KeyAt K B b e.1 ∧ B t = some (.tup ps) ∧ LrsAt B ps e.2
theorem DueAt.mono {v : V} {e : Ent} (h : DueAt K B v e) (x : Ex B B2) : DueAt K B2 v e := by
  obtain ⟨T, b, t, ps, h1, h2, h3, h4, h5⟩ := h
  exact ⟨T, b, t, ps, h1, x _ _ h2, key_mono h3 x, x _ _ h4, h5.mono x⟩
theorem lrs_dp {vs : List V} {qs : List Rat} (h : LrsAt B vs qs) : DpAll K B vs (qs.map ratD) := by
  unfold LrsAt at h
  induction h with
  | nil => exact .nil
  | cons p _ ih =>
    obtain ⟨a, rfl, ha⟩ := p
    exact .cons (.tup (st_of ha) (.cons (.int _) (.cons (.int _) .nil))) ih
theorem DueAt.dp {v : V} {e : Ent} (h : DueAt K B v e) : Dp K B v (rowD e) := by
  obtain ⟨T, b, t, ps, rfl, h2, h3, h4, h5⟩ := h
  exact .tup (st_of h2) (.cons h3.2.2 (.cons (.tup (st_of h4) (lrs_dp h5)) .nil))
theorem dues_dp {vs : List V} {es : List Ent} (h : Paired (DueAt K B) vs es) : DpAll K B vs (es.map rowD) := by
  induction h with
  | nil => exact .nil
  | cons p _ ih => exact .cons p.dp ih
theorem due_res {S : Addr → Prop} (n : NewL S H0 B) {v : V} {e : Ent} (hv : ∃ u, e.1 = viewK u) (h : DueAt K B v e) : DueAt K (res S B) v e := by
  obtain ⟨T, b, t, ps, h1, h2, h3, h4, h5⟩ := h
  obtain ⟨u, hu⟩ := hv
  rw [hu] at h3
  exact ⟨T, b, t, ps, h1, n.keep h2 nofun, by rw [hu]; exact view_res n h3, n.keep h4 nofun, paired_mono h5 fun _ _ ⟨a, g1, g2⟩ => ⟨a, g1, n.keep g2 nofun⟩⟩
theorem dues_res {S : Addr → Prop} (n : NewL S H0 B) {vs : List V} {es : List Ent} (hv : ∀ e ∈ es, ∃ u, e.1 = viewK u) (h : Paired (DueAt K B) vs es) : Paired (DueAt K (res S B)) vs es := by
  induction h with
  | nil => exact .nil
  | cons p _ ih => exact .cons (due_res n (hv _ (.head _)) p) (ih fun e he => hv e (.tail _ he))
section
variable {ms : List Addr} {W : Hp → Hp → Prop} [I : Wld ms W] {σ : L2.St} {te ta tb : TE} {E : XK}
/-- _law_told(plan) -/
theorem gw_told {es : List Ent} {i : Nat} {v : V} (hi : σ[i]? = some (some v)) (hp : PlanAt w K B v es) (hl : es.length ≤ 1000) (hz : ∀ e ∈ es, e.2.length ≤ 1000) : GW ms W ((fun σ H Q => tCons (tVar i) tNil σ H fun vs H1 => spToldD w K vs H1 Q E) σ) B (fun u B2 => Dp K B2 u (.list (es.map rowD))) :=
  gw_fn (S := fun xs _ => xs = [v]) (gw_c1 (ev_var hi) (gw_nil fun _ _ => rfl)) fun xs B1 e1 hx => by
    subst hx
    exact gw_base fun B3 H3 e3 w3 Q q => ⟨B3, v, es, rfl, w3, hp.mono (e1.trans e3), hl, hz, fun u B4 H4 s4 h4 => q u B4 H4 s4 h4⟩
/-- _law_kept(entries) -/
theorem gw_kept {es : List Ent} {i : Nat} {D : Addr} {ys : List V} (hi : σ[i]? = some (some (.ref D))) (hD : B D = some (.lst ys)) (h : Paired (EinAt K B B) ys es) (hl : es.length ≤ 1000) (hz : ∀ e ∈ es, e.2.length ≤ 1000) : GW ms W ((fun σ H Q => tCons (tVar i) tNil σ H fun vs H1 => spKept K vs H1 Q E) σ) B (fun u B2 => Dp K B2 u (.list (es.map keptD))) :=
  gw_fn (S := fun xs _ => xs = [.ref D]) (gw_c1 (ev_var hi) (gw_nil fun _ _ => rfl)) fun xs B1 e1 hx => by
    subst hx
    exact gw_base fun B3 H3 e3 w3 Q q => ⟨B3, D, ys, es, rfl, w3, sq_of ((e1.trans e3) _ _ hD), paired_mono h fun _ _ z => einb_mono z (e1.trans e3), hl, hz, fun u B4 H4 s4 h4 => q u B4 H4 s4 h4⟩
/-- d[k] = e -/
theorem gwq_put {D : Ends} {tz : TS} {td ty tv : TE} {R : V → Hp → Prop} (w0 : W B H) (h : GW ms W (tv σ) B R)
    (k : ∀ v B2 H2, Stp ms B H B2 H2 → W B2 H2 → R v B2 → td σ H2 fun x H3 => ty σ H3 fun y H4 => ∃ a b k kvs, x = .ref a ∧ y = .ref b ∧ H4 a = some (NDo P w a kvs) ∧ KsAt K H4 kvs ∧ KeyAt K H4 b k ∧ kvs.length < sizeLine ∧ tz D σ (upd H4 a (NDo P w a (nPut kvs k b v)))) : tSeq (ND.tPut P w K td ty tv) tz D σ H := h.go w0 k
/-- x != y of equal data -/
theorem gw_neD {d : PyData} (h1 : GW ms W (ta σ) B (fun v B2 => Dp K B2 v d)) (h2 : ∀ B1, Ex B B1 → GW ms W (tb σ) B1 (fun v B2 => Dp K B2 v d)) (s1 : SeqAt.shaped d = true) : GW ms W (tOp (rNeD K) ta tb σ) B (fun v _ => v = .bl false) :=
  gw_op h1 fun x B1 e1 r1 => (h2 B1 e1).imp fun y B2 e2 r2 => gw_ex (v := .bl false) (fun B3 H3 e3 w3 Q q => ⟨d, d, dp_mono (e2.trans (e3.trans w3)) r1, dp_mono (e3.trans w3) r2, s1, s1, by rw [SeqAt.eqv_refl _ (SeqAt.canLay_of_shaped s1)]; exact q H3 (Ex.refl _)⟩) fun _ _ => rfl
end
theorem kept_shaped {es : List Ent} (h : ∀ e ∈ es, KLay e.1) : SeqAt.shaped (.list (es.map keptD)) = true := list_shaped (k := 4) (fun d hd => by
  obtain ⟨e, he, rfl⟩ := List.mem_map.mp hd
  obtain ⟨h1, h2⟩ := h e he
  obtain ⟨h3, h4⟩ := all_lay (k := 1) (ds := e.2.map ratD) fun d hd => by
    obtain ⟨q, _, rfl⟩ := List.mem_map.mp hd
    exact ⟨rfl, by unfold ratD; simp [PyData.depth, PyData.depthAll]⟩
  unfold keptD
  constructor
  · simp only [PyData.canLay0, PyData.canLayAll0, h1, h3]; rfl
  · simp only [PyData.depth, PyData.depthAll]
    omega) (by decide)
theorem rows_dep {es : List Ent} (h : ∀ e ∈ es, EOk e) (hl : es.length ≤ 1000) : Dep 5 (.list (es.map rowD)) := dep_rows hl fun e he => by
  obtain ⟨v, hv, hk⟩ := (h e he).v
  rw [hk]
  have h4 := hv.l
  exact ⟨dep_view (by omega) fun x hx => by have := hv.e x hx; omega, by have := (h e he).l; omega⟩
end
end LL
namespace LL
open PySem PySem.Spec PyProof.Rows L2 He Evl ND
theorem paired_rev {α β : Type} {R : α → β → Prop} : ∀ {xs : List α} {ys : List β}, Paired R xs ys → Paired R xs.reverse ys.reverse
  | _, _, .nil => .nil
  | _, _, .cons h t => by
    rw [List.reverse_cons, List.reverse_cons]
    exact paired_app (paired_rev t) (.cons h .nil)
theorem cut_last {xs : List V} : cutV xs none (some (-1)) = xs.take (xs.length - 1) := by
  unfold cutV
  rw [show HT.sIx xs.length 0 none = 0 from rfl, List.drop_zero, Nat.sub_zero]
  have e : HT.sIx xs.length xs.length (some (-1)) = xs.length - 1 := by
    show (if (-1 : Int) < 0 then ((-1 : Int) + (xs.length : Int)).toNat else min (-1 : Int).toNat xs.length) = _
    rw [if_pos (by decide)]
    omega
  rw [e]
section
variable {w : World} {K : PySem.W.Frag} {mg : Str → Option Value} {base : Heap} {B : Hp}
variable {ms : List Addr} {W : Hp → Hp → Prop} [I : Wld ms W] {σ : L2.St} {te ta tb : TE} {E : XK}
theorem gw_revL {a : Addr} {xs : List V} (h : Ev te σ B (.ref a)) (ha : B a = some (.lst xs)) : GW ms W (tRevL K te σ) B (fun v B2 => ∃ l, v = .ref l ∧ B2 l = some (.lst xs.reverse)) := fun B1 H1 e1 w1 Q q =>
  h H1 (e1.trans (I.e w1)) _ fun H2 e2 => by
    obtain ⟨s2, w2⟩ := Wld.ex (I := I) w1 e2
    refine ⟨a, xs, rfl, sq_of (I.e w2 _ _ (e1 _ _ ha)), fun p np => ?_⟩
    obtain ⟨s3, w3⟩ := Wld.new (I := I) (o := .lst xs.reverse) w2 np
    exact q _ _ _ (s2.trans s3) w3 ⟨p, rfl, upd_same⟩
/-! ### dicts with the same keys -/
def look (es : List Ent) (k : NestedKey) : Option (List Rat) := (es.find? fun e => decide (e.1 = k)).map (·.2)
theorem look_mem : ∀ {es : List Ent} {e : Ent}, (es.map (·.1)).Nodup → e ∈ es → look es e.1 = some e.2
  | x :: es, e, nd, h => by
    rw [List.map_cons, List.nodup_cons] at nd
    unfold look
    rw [List.find?_cons]
    rcases List.mem_cons.mp h with rfl | h
    · rw [decide_eq_true rfl]; rfl
    · have : x.1 ≠ e.1 := fun z => nd.1 (by rw [z]; exact List.mem_map_of_mem (f := (·.1)) h)
      rw [decide_eq_false this]
      exact look_mem nd.2 h
theorem same_keys {es ds : List Ent} (hk : es.map (·.1) = ds.map (·.1)) (nd : (es.map (·.1)).Nodup) : (es.all fun e => decide (look es e.1 = look ds e.1)) = decide (es = ds) := by
  rw [Bool.eq_iff_iff, List.all_eq_true, decide_eq_true_eq]
  have nd2 : (ds.map (·.1)).Nodup := hk ▸ nd
  have hl : es.length = ds.length := by have := congrArg List.length hk; rwa [List.length_map, List.length_map] at this
  constructor
  · intro h
    refine List.ext_getElem hl fun i h1 h2 => ?_
    have e1 := List.getElem_mem h1
    have e2 := List.getElem_mem h2
    have h3 := of_decide_eq_true (h _ e1)
    have hke : es[i].1 = ds[i].1 := by
      have a1 : (es.map (·.1))[i]? = some es[i].1 := by rw [List.getElem?_map, List.getElem?_eq_getElem h1]; rfl
      have a2 : (ds.map (·.1))[i]? = some ds[i].1 := by rw [List.getElem?_map, List.getElem?_eq_getElem h2]; rfl
      rw [hk, a2] at a1
      exact (Option.some.inj a1).symm
    rw [look_mem nd e1, hke, look_mem nd2 e2] at h3
    exact Prod.ext hke (Option.some.inj h3)
  · rintro rfl e he
    exact decide_eq_true rfl
theorem lt_all {g : NestedKey → Bool} {kvs : List NE} {es : List Ent} (h : LtAt K B kvs es) : (kvs.all fun e => g e.1) = es.all fun e => g e.1 := by
  induction h with
  | nil => rfl
  | cons h1 _ ih => rw [List.all_cons, List.all_cons, ih, h1.1]
theorem lt_any1 {kvs : List NE} {es : List Ent} (h : LtAt K B kvs es) : ∀ n ∈ kvs, ∃ e ∈ es, n.1 = e.1 ∧ LvAt B n.2.2 e.2 := fun n hn => by
  obtain ⟨e, he, h1, _, h3⟩ := paired_any h n hn
  exact ⟨e, he, h1, h3⟩
/-- d == e, dicts with the same keys -/
theorem gw_dictEq {es ds : List Ent} (h1 : GW ms W (ta σ) B (fun v B2 => LpAt w K B2 v es)) (h2 : ∀ B1, Ex B B1 → GW ms W (tb σ) B1 (fun v B2 => LpAt w K B2 v ds)) (hk : es.map (·.1) = ds.map (·.1)) (nd : (es.map (·.1)).Nodup) : GW ms W (tOp (ND.rEqB P w K) ta tb σ) B (fun v _ => v = .bl (decide (es = ds))) :=
  gw_op h1 fun x B1 e1 hx => (h2 B1 e1).imp fun y B2 e2 hy => gw_ex (v := .bl (decide (es = ds))) (fun B3 H3 e3 w3 Q q => by
    obtain ⟨d, kvs, rfl, hd, hkv⟩ := hx.mono (e2.trans (e3.trans w3))
    obtain ⟨d2, ls, rfl, hd2, hls⟩ := hy.mono (e3.trans w3)
    have nd2 : (ds.map (·.1)).Nodup := hk ▸ nd
    refine ⟨d, d2, kvs, ls, fun k => decide (look es k = look ds k), rfl, rfl, .inl hd, .inl hd2, hkv.ks, hls.ks, ⟨?_, fun n hn => ?_⟩, ?_⟩
    · rw [show kvs.length = es.length from Paired.length hkv, show ls.length = ds.length from Paired.length hls]
      have := congrArg List.length hk
      rwa [List.length_map, List.length_map] at this
    · obtain ⟨e, he, g1, g2⟩ := lt_any1 hkv n hn
      rcases hls.find (k := n.1) with ⟨u, e2, f1, f2, f3⟩ | ⟨_, f4⟩
      · have l1 : look es n.1 = some e.2 := by rw [g1]; exact look_mem nd he
        have l2 : look ds n.1 = some e2.2 := by unfold look; rw [f3]; rfl
        refine ⟨u, _, _, f1, lv_dp g2, lv_dp f2, lots_shaped _, lots_shaped _, ?_⟩
        show _ = decide (look es n.1 = look ds n.1)
        rw [eqv_lots, l1, l2]
        exact decide_eq_decide.mpr ⟨fun z => by rw [z], fun z => Option.some.inj z⟩
      · have hm : n.1 ∈ ds.map (·.1) := by rw [← hk, g1]; exact List.mem_map_of_mem (f := (·.1)) he
        obtain ⟨e2, he2, hke⟩ := List.mem_map.mp hm
        exact absurd (decide_eq_true hke) (List.find?_eq_none.mp f4 e2 he2)
    · rw [lt_all (g := fun k => decide (look es k = look ds k)) hkv, same_keys hk nd]
      exact q H3 (Ex.refl _)) fun _ _ => rfl
end
end LL
/-! != of lists: the very same items; pairs of a dict with nested keys and a number, equal ones -/
namespace NQ
open PySem PySem.Spec PySem.SeqAt PySem.W PyProof.Rows L2 ND
theorem u80 {k : Nat} {A : Around} (r : Room k A) : A.units + 80 < cLine := by have := r.un; omega
theorem u65 {k : Nat} {A : Around} (r : Room k A) : A.units + 65 < cLine := by have := r.un; omega
section
variable {X : Cx} {pins : List (Addr × Obj)} {σ : L2.St} {H : Hp} {s : Shared}
theorem vals_refs {ts : List Addr} {its : List Value} (h : Vals (ts.map V.ref) its) : its = ts.map Value.ref := ND.refs_at' h
def rNeSame (K : PySem.W.Frag) : R2 := fun x y H Q => ∃ (a b : Addr) (ts : List Addr), x = .ref a ∧ y = .ref b ∧ SqL K H a (ts.map V.ref) ∧ SqL K H b (ts.map V.ref) ∧ Q (.bl false) H
theorem op_neSame (hu : X.A.units < cLine) : OpR X (compareOp .NotEq) (rNeSame X.K) := by
  intro pins s σ H x y v u Q I rx ry ⟨a, b, ts, ex, ey, ha, hb, q⟩
  subst ex ey
  cases (show v = Value.ref a from rx)
  cases (show u = Value.ref b from ry)
  obtain ⟨xs, rv, p1, _⟩ := I.list ha
  obtain ⟨ys, rw_, p2, _⟩ := I.list hb
  obtain rfl := vals_refs rv
  obtain rfl := vals_refs rw_
  refine ne_lists p1.isList p2.isList rfl hu (fun j h1 h2 => ?_) ⟨.bl false, H, I, rfl, q⟩
  have hj : j < ts.length := by simpa using h1
  have e : ((ts.map Value.ref).toArray)[j] = Value.ref ts[j] := by simp
  rw [e]
  exact eq_self
/-- a pair of a dict and a number -/
def DnAt (P : Program) (w : World) (K : PySem.W.Frag) (H : Hp) (v : V) (kvs : List NE) (n : Int) : Prop := ∃ (t d : Addr), v = .ref t ∧ SqT K H t [.ref d, .int n] ∧ Rd H d (NDo P w d kvs) ∧ KsAt K H kvs
def rNeRows (P : Program) (w : World) (K : PySem.W.Frag) : R2 := fun x y H Q => ∃ (a b : Addr) (xs ys : List V), x = .ref a ∧ y = .ref b ∧ SqL K H a xs ∧ SqL K H b ys ∧ Paired (fun x y => ∃ kvs ls n, DnAt P w K H x kvs n ∧ DnAt P w K H y ls n ∧ Hits K H kvs ls) xs ys ∧ Q (.bl false) H
theorem eq_pair (I : Inv X pins σ H s) {A : Around} (hu : A.units + 70 < cLine) {x y : V} {v u : Value} (rx : RelV x v) (ry : RelV y u) {kvs ls : List NE} {n : Int} (hx : DnAt X.prog X.w X.K H x kvs n) (hy : DnAt X.prog X.w X.K H y ls n) (hh : Hits X.K H kvs ls) : EqIn X.prog X.w A s v u true := by
  obtain ⟨t, d, rfl, ht, hd, hk⟩ := hx
  obtain ⟨t2, d2, rfl, ht2, hd2, hk2⟩ := hy
  cases (show v = Value.ref t from rx)
  cases (show u = Value.ref t2 from ry)
  by_cases c : t = t2
  · subst c
    exact eq_self
  obtain ⟨xs, rv, p1, _⟩ := I.tuple ht
  obtain ⟨ys, rv2, p2, _⟩ := I.tuple ht2
  refine EqIn.of_refs c fun E Q hq => ?_
  cases rv with
  | cons r1 r2 =>
  cases r2 with
  | cons r3 r4 =>
  cases r4
  cases rv2 with
  | cons q1 q2 =>
  cases q2 with
  | cons q3 q4 =>
  cases q4
  cases r1
  cases q1
  rename_i z1 z2
  have e0 : EqIn X.prog X.w A.in1 s (.ref d) (.ref d2) true := by
    by_cases c2 : d = d2
    · subst c2
      exact eq_self
    obtain ⟨_, m1, xa, ra, da⟩ := nd_rd I hd hk
    obtain ⟨_, m2, xb, rb, db⟩ := nd_rd I hd2 hk2
    have u1 : A.in1.units = A.units + 1 := rfl
    have u2 : A.in1.in1.units = A.units + 2 := rfl
    exact EqIn.of_refs c2 fun E Q hq => (eq_dicts (by omega) (room9 (by omega)) m1 m2 da db (likes_of I (by omega) ra rb hh)).1 hq
  have e1 : EqIn X.prog X.w A.in1 s z1 z2 true := by
    obtain ⟨as, a1⟩ := Dp.reads I (.int n) _ z1 (.int n) r3
    obtain ⟨bs, a2⟩ := Dp.reads I (.int n) _ z2 (.int n) q3
    have u1 : A.in1.units = A.units + 1 := rfl
    have ee := SeqAt.eqAt_reads (.int n) (.int n) A.in1 s z1 z2 as bs a1 a2 (SeqAt.canLay_of_shaped rfl) (SeqAt.canLay_of_shaped rfl) (SeqAt.room_of_shaped rfl (by omega))
    have : PyData.eqv (.int n) (.int n) = true := by simp [PyData.eqv]
    rw [this] at ee
    exact ee.inModel _ _
  refine rcIn_tuples p1 p2 (by omega) (e := fun _ => true) (fun j h1 h2 => ?_) ?_
  · have hj : j < 2 := h1
    rcases j with _ | _ | j
    · exact e0
    · exact e1
    · omega
  · exact hq
theorem op_neRows (hu : X.A.units + 80 < cLine) : OpR X (compareOp .NotEq) (rNeRows X.prog X.w X.K) := by
  intro pins s σ H x y v u Q I rx ry ⟨a, b, xs, ys, ex, ey, ha, hb, hp, q⟩
  subst ex ey
  cases (show v = Value.ref a from rx)
  cases (show u = Value.ref b from ry)
  obtain ⟨us, rv, p1, _⟩ := I.list ha
  obtain ⟨ws, rw_, p2, _⟩ := I.list hb
  have l1 := rv.length
  have l2 := rw_.length
  have l3 := Paired.length hp
  have u1 : X.A.in1.units = X.A.units + 1 := rfl
  refine ne_lists p1.isList p2.isList (by rw [List.size_toArray, List.size_toArray]; omega) (by omega) (fun j h1 h2 => ?_) ⟨.bl false, H, I, rfl, q⟩
  have j1 : j < us.length := by simpa using h1
  have j2 : j < ws.length := by simpa using h2
  obtain ⟨x0, hx0⟩ : ∃ x0, xs[j]? = some x0 := ⟨_, List.getElem?_eq_getElem (by omega)⟩
  obtain ⟨y0, hy0, kvs, ls, n, g1, g2, g3⟩ := paired_get hp hx0
  obtain ⟨v0, hv0, rv0⟩ := rv.get hx0
  obtain ⟨u0, hu0, ru0⟩ := rw_.get hy0
  have e1 : us.toArray[j] = v0 := by
    rw [List.getElem?_eq_getElem j1] at hv0
    simpa using Option.some.inj hv0
  have e2 : ws.toArray[j] = u0 := by
    rw [List.getElem?_eq_getElem j2] at hu0
    simpa using Option.some.inj hu0
  rw [e1, e2]
  exact eq_pair I (by omega) rv0 ru0 g1 g2 g3
end
section
variable {X : Cx}
def rLenN (P : Program) (w : World) (K : PySem.W.Frag) : List V → Hp → VK → Prop := fun xs H Q => ∃ (a : Addr) (kvs : List NE), xs = [V.ref a] ∧ Rd H a (NDo P w a kvs) ∧ KsAt K H kvs ∧ Q (.int (kvs.length : Nat)) H
theorem call_lenN (P : Program) (w : World) (K : PySem.W.Frag) (hP : X.prog = P) (hw : X.w = w) (hK : X.K = K) : CallR X (.builtin "len") (rLenN P w K) := by
  subst hP hw hK
  intro pins s σ H xs us Q I r ⟨a, kvs, ex, g, ks, q⟩
  subst ex
  obtain ⟨u, rfl, rx⟩ := vals1 r
  cases (show u = Value.ref a from rx)
  obtain ⟨z, hd, xs, rel, dd⟩ := nd_rd I g ks
  have hl := Paired.length rel
  refine call_len_dictH hd dd (by rw [← hl]; rw [sizeLine_eq] at z; omega) ?_
  have e : (xs.length : Int) = ((kvs.length : Nat) : Int) := by rw [hl]
  exact ⟨.int ((kvs.length : Nat) : Int), H, I.tok _, ⟨_, by rw [e]⟩, q⟩
end
end NQ
namespace LL
open PySem PySem.Spec PyProof.Rows L2 He Evl ND
section
variable {w : World} {K : PySem.W.Frag} {mg : Str → Option Value} {base : Heap}
theorem units65 {A : Around} (r : Room 1 A) : A.units + 65 < cLine := NQ.u65 r
def spLaw (K : PySem.W.Frag) : Sp := fun us H Q _ => ∃ (a : Addr) (ns : List Int), us = [.ref a] ∧ SqL K H a (ns.map V.int) ∧ ns.length ≤ 63 ∧ ∀ H2, Q (.bl true) H2
theorem ok_law (T : Txt K mg) {fd : FuncData} (F : FunD K "law" "law" (defArgs s_law) (defBody s_law) (defScope s_law) (List.map (He.Dv.v K) []) [] (ga K "law") fd) : FnOk P w K mg base (L2.CX P w) 24 (ga K "law") fd ["_law_script"] (spLaw K) := by
  refine F.ok sc_law (fun vs H Q E h => ?_) (fun cdv A outer s H vs Q E hr h => ?_)
  · obtain ⟨_, _, rfl, _⟩ := h
    rfl
  obtain ⟨a, ns, rfl, ha, hl, k⟩ := h
  have nd := sc_law.nd
  refine ⟨_, pss_cons (ps_set (i := 1) nd rfl (by first | exact Or.inl rfl | exact Or.inr rfl) (pe_fn T.d_l_pool (fn_l_pool T) (hr.mono (by decide)) T.g_l_pool pc (pa_cons (pv 0) (pa_cons (pe_int) pa_nil))))
      (pss_cons (ps_set (i := 2) nd rfl (by first | exact Or.inl rfl | exact Or.inr rfl) (pe_lst pa_nil))
      (pss_cons (ps_set (i := 3) nd rfl (by first | exact Or.inl rfl | exact Or.inr rfl) (pe_non))
      (Evl.pss_cut (ps_for (passes_of rfl) rfl (pi_range1 rfl T.f_range (pa_cons (pe_fn T.d_l_draw (fn_l_draw T) (hr.mono (by decide)) T.g_l_draw pc (pa_cons (pv 1) (pa_cons (pe_int) pa_nil))) pa_nil)) (pg_name (i := 4) nd rfl (by first | exact Or.inl rfl | exact Or.inr rfl)) (pss_cons (ps_set (i := 5) nd rfl (by first | exact Or.inl rfl | exact Or.inr rfl) (pe_tup (pa_cons (pe_tup (pa_cons (pe_str) (pa_cons (pe_fn T.d_l_draw (fn_l_draw T) (hr.mono (by decide)) T.g_l_draw pc (pa_cons (pv 1) (pa_cons (pe_int) pa_nil))) (pa_cons (pe_int) pa_nil)))) pa_nil)))
      (Evl.pss_cut (ps_if (pt_cmpR op_gt (pe_fn T.d_l_draw (fn_l_draw T) (hr.mono (by decide)) T.g_l_draw pc (pa_cons (pv 1) (pa_cons (pe_int) pa_nil))) (pe_int) (nomark _)) (pss_one (ps_set (i := 5) nd rfl (by first | exact Or.inl rfl | exact Or.inr rfl) (pe_op op_catT (pe_tup (pa_cons (pe_tup (pa_cons (pe_str) (pa_cons (pe_fn T.d_l_draw (fn_l_draw T) (hr.mono (by decide)) T.g_l_draw pc (pa_cons (pv 1) (pa_cons (pe_int) pa_nil))) pa_nil))) pa_nil)) (pv 5)))) (pss_nil))
      (Evl.pss_cut (ps_if (pt_cmpR op_eq (pe_fn T.d_l_draw (fn_l_draw T) (hr.mono (by decide)) T.g_l_draw pc (pa_cons (pv 1) (pa_cons (pe_int) pa_nil))) (pe_int) (nomark _)) (pss_one (ps_set (i := 5) nd rfl (by first | exact Or.inl rfl | exact Or.inr rfl) (pe_op op_catT (pe_tup (pa_cons (pe_tup (pa_cons (pe_str) (pa_cons (pe_fn T.d_l_draw (fn_l_draw T) (hr.mono (by decide)) T.g_l_draw pc (pa_cons (pv 1) (pa_cons (pe_int) pa_nil))) pa_nil))) (pa_cons (pe_tup (pa_cons (pe_str) (pa_cons (pe_fn T.d_l_draw (fn_l_draw T) (hr.mono (by decide)) T.g_l_draw pc (pa_cons (pv 1) (pa_cons (pe_int) pa_nil))) pa_nil))) pa_nil))) (pv 5)))) (pss_nil))
      (pss_cons (ps_asg (pe_fn T.d_l_weights (fn_l_weights T) (hr.mono (by decide)) T.g_l_weights pc (pa_cons (pv 1) pa_nil)) (pg_tup rfl (pgs_cons (pg_name (i := 6) nd rfl (by first | exact Or.inl rfl | exact Or.inr rfl)) (pgs_cons (pg_name (i := 7) nd rfl (by first | exact Or.inl rfl | exact Or.inr rfl)) pgs_nil))))
      (pss_cons (ps_set (i := 9) nd rfl (by first | exact Or.inl rfl | exact Or.inr rfl) (pe_or (pe_cmpR op_eq (pe_callB call_len_seq (by rfl) T.f_len PySem.boot_len (pa_cons (pv 6) pa_nil)) (pe_int) (nomark _)) (pe_or (pe_cmpR op_ne (pe_callB (cr_sum rfl) (by rfl) T.f_sum (by decide +kernel) (pa_cons (pv 6) pa_nil)) (pv 7) (nomark _)) (pe_or (pe_cmpR op_lt (pe_callB (cr_min rfl) (by rfl) T.f_min (by decide +kernel) (pa_cons (pv 6) pa_nil)) (pe_int) (nomark _)) (pe_one (pe_cmpR (op_inD (units65 (hr.mono (by decide)))) (pv 5) (pe_lc (own := [("_law_row", 8)]) (g := gName 8) (tt := tYes) rfl nd (pi_list (pv 2)) (blkOk_by (N := n_law) (sc := defScope s_law) (by decide +kernel)) (fun _ _ _ _ _ => pg_name (i := 8) nd rfl (by first | exact Or.inl rfl | exact Or.inr rfl)) (fun _ _ _ _ _ => pts_nil) (fun _ _ _ _ _ => pe_ix (ixk_tup K) (pv 8) (pe_int) (fun _ _ => rfl))) rfl))))))
      (Evl.pss_cut (ps_if (PW.pt (pw_and (pt_cmpR op_isN (pv 3) (pe_non) (nomark _)) (pw_and1 (pt_val (pv 9))))) (pss_one (ps_set (i := 3) nd rfl (by first | exact Or.inl rfl | exact Or.inr rfl) (pv 4))) (pss_nil))
      (pss_one (ps_expr (pe_bm PySem.F.plainAttrs_list PySem.F.slot_list_append PySem.F.type_list_append mt_append (pv 2) (pa_cons (pe_tup (pa_cons (pv 5) (pa_cons (pe_lc (own := [("_law_weight", 10)]) (g := gName 10) (tt := tYes) rfl nd (pi_list (pv 6)) (blkOk_by (N := n_law) (sc := defScope s_law) (by decide +kernel)) (fun _ _ _ _ _ => pg_name (i := 10) nd rfl (by first | exact Or.inl rfl | exact Or.inr rfl)) (fun _ _ _ _ _ => pts_nil) (fun _ _ _ _ _ => pe_fn T.d_l_less (fn_l_less (w := w) (base := base) T) (hr.mono (by decide)) T.g_l_less pcF (pa_cons (pv 10) (pa_cons (pv 7) pa_nil)))) pa_nil))) pa_nil)))))))))))
      (pss_cons (ps_setLc (i := 14) (own := [("_law_view", 5), ("_law_lots", 13)]) (g := (gTup K 2 (gCons (gName 5) (gCons (gName 13) (gNil))))) (tt := tYes) rfl nd rfl rfl (sw_true rfl rfl rfl (by decide +kernel)) (pi_list (pv 2)) (blkOk_by (N := n_law) (sc := defScope s_law) (by decide +kernel)) (fun _ _ _ _ _ => pg_tup (n := 2) rfl (pgs_cons (pg_name (i := 5) nd rfl (by first | exact Or.inl rfl | exact Or.inr rfl)) (pgs_cons (pg_name (i := 13) nd rfl (by first | exact Or.inl rfl | exact Or.inr rfl)) pgs_nil))) (fun _ _ _ _ _ => pts_nil) (fun _ _ _ _ _ => pe_tup (pa_cons (pv 5) (pa_cons (pe_lc (own := [("_law_num", 11), ("_law_den", 12)]) (g := (gTup K 2 (gCons (gName 11) (gCons (gName 12) (gNil))))) (wi := iList K (tVar 13)) (tt := tYes) rfl nd (pi_list (pv 13)) (blkOk_by (N := n_law) (sc := scSU) (by decide +kernel)) (fun _ _ _ _ _ => pg_tup (n := 2) rfl (pgs_cons (pg_name (i := 11) nd rfl (by first | exact Or.inl rfl | exact Or.inr rfl)) (pgs_cons (pg_name (i := 12) nd rfl (by first | exact Or.inl rfl | exact Or.inr rfl)) pgs_nil))) (fun _ _ _ _ _ => pts_nil) (fun _ _ _ _ _ => StX.pe_makeR T.m_Ratio (fn_RI2 T) (hr.mono (by decide)) rfl T.g_Ratio pcF (pa_cons (pv 11) (pa_cons (pv 12) pa_nil)))) pa_nil))))
      (pss_cons (ps_set (i := 15) nd rfl (by first | exact Or.inl rfl | exact Or.inr rfl) (pe_fn T.d_l_kept (fn_l_kept T) (hr.mono (by decide)) T.g_l_kept pc (pa_cons (pv 14) pa_nil)))
      (pss_cons (L2N.ps_try_as (i := 17) (Wout := fun _ _ _ _ => False) rfl rfl nd rfl rfl ⟨rfl, by decide, Or.inl T.g_LossError⟩ takesN_none (fun Wt pn xe tk _ => pss_one (ps_set (i := 16) nd rfl (by first | exact Or.inl rfl | exact Or.inr rfl) (pe_makeRS T.m_Plan (fn_Plan_initN (w := w) (base := base) T) (hr.mono (by decide)) rfl T.g_Plan (fun σ => L2N.passAt tk σ) (pa_cons (pv 14) pa_nil)))) (fun a oe cls d pn hz hf => pss_given (p := cls = .ref (ga K "BadPlan") ∧ d = some (d.getD 0)) (fun hp => have hz2 : Zc (.ref (ga K "BadPlan")) (some (d.getD 0)) oe := by rw [← hp.2, ← hp.1]; exact hz.zc
        pss_cons (ps_if (PW.pt (pw_or (pt_val (pe_callB (callk_isEdT K T.xc_BadPlan hz2 hf) (by rfl) T.f_isinstance (by decide +kernel) (pa_cons (pv 17) (pa_cons (pe_tup (pa_cons (pe_gr T.g_BadPaper) (pa_cons (pe_gr T.g_BadRatio) (pa_cons (pe_gr T.g_BadText) (pa_cons (pe_gr T.g_NoPlan) (pa_cons (pe_gr T.g_NoShare) (pa_cons (pe_gr T.g_TooLarge) pa_nil))))))) pa_nil)))) (pw_or (pt_not (pt_val (pe_callB (callk_isEd K T.xc_BadPlan hz2 hf) (by rfl) T.f_isinstance (by decide +kernel) (pa_cons (pv 17) (pa_cons (pe_gr T.g_BadPlan) pa_nil))))) (pw_or1 (pt_cmpR (op_neDK K hr.units) (pv 15) (pe_keptH T (L2H.roomH_mark (hr.mono (by decide)) _) (hot_suite hz hf) (pa_cons (pv 14) pa_nil)) (nomark _)))))) (pss_one (ps_ret (pe_bl))) (pss_nil))
      (pss_one (ps_ret (pe_and (pe_cmpR op_notN (pv 3) (pe_non) (nomark _)) (pe_one (pe_fnC T.d_l_same (fn_l_sameC T) (L2H.roomH_mark (hr.mono (by decide)) _) T.g_l_same (pa_cons (pek_xf K T.xf_BadPlan T.xn_BadPlan hz2 hf (pv 17)) (pa_cons (pv 3) pa_nil))))))))))
      (pss_cons (ps_setLc (i := 18) (own := [("_law_view", 5), ("_law_lots", 13)]) (g := (gTup K 2 (gCons (gName 5) (gCons (gName 13) (gNil))))) (tt := tYes) rfl nd rfl rfl (sw_true rfl rfl rfl (by decide +kernel)) (pi_list (pv 2)) (blkOk_by (N := n_law) (sc := defScope s_law) (by decide +kernel)) (fun _ _ _ _ _ => pg_tup (n := 2) rfl (pgs_cons (pg_name (i := 5) nd rfl (by first | exact Or.inl rfl | exact Or.inr rfl)) (pgs_cons (pg_name (i := 13) nd rfl (by first | exact Or.inl rfl | exact Or.inr rfl)) pgs_nil))) (fun _ _ _ _ _ => pts_nil) (fun _ _ _ _ _ => pe_tup (pa_cons (pv 5) (pa_cons (pe_callTy (call_tuple_ofK K) (by rfl) T.f_tuple (by decide +kernel) (pa_cons (pv 13) pa_nil)) pa_nil))))
      (pss_cons (ps_if (PW.pt (pw_or (pt_cmpR op_notN (pv 3) (pe_non) (nomark _)) (pw_or (pt_cmpR (op_neD hr.units) (pv 15) (pe_fn T.d_l_kept (fn_l_kept T) (hr.mono (by decide)) T.g_l_kept pc (pa_cons (pv 14) pa_nil)) (nomark _)) (pw_or1 (pt_not (pt_val (pe_fn T.d_l_same (fn_l_same T 5) (hr.mono (by decide)) T.g_l_same pc (pa_cons (pe_fn T.d_l_told (fn_l_told T) (hr.mono (by decide)) T.g_l_told pc (pa_cons (pv 16) pa_nil)) (pa_cons (pv 18) pa_nil))))))))) (pss_one (ps_ret (pe_bl))) (pss_nil))
      (Evl.pss_cut (ps_for (passes_of rfl) rfl (pi_list (pv 14)) (pg_tup rfl (pgs_cons (pg_name (i := 5) nd rfl (by first | exact Or.inl rfl | exact Or.inr rfl)) (pgs_cons (pg_name (i := 13) nd rfl (by first | exact Or.inl rfl | exact Or.inr rfl)) pgs_nil))) (pss_one (ps_expr (pe_bm PySem.F.plainAttrs_list PySem.F.slot_list_append PySem.F.type_list_append mt_append (pv 13) (pa_cons (StX.pe_makeR T.m_Ratio (fn_RI1 T) (hr.mono (by decide)) rfl T.g_Ratio pc (pa_cons (pe_int) pa_nil)) pa_nil)))))
      (pss_cons (ps_expr (pe_bm0 PySem.F.plainAttrs_list PySem.F.slot_list_clear PySem.F.type_list_clear mt_clear (pv 14)))
      (pss_cons (ps_set (i := 19) nd rfl (by first | exact Or.inl rfl | exact Or.inr rfl) (pe_methR0 (pv 16) T.c_Plan T.t_Plan_entries (fn_Plan_entries T) (hr.mono (by decide)) pc))
      (pss_cons (ps_expr (pe_bm PySem.F.plainAttrs_list PySem.F.slot_list_append PySem.F.type_list_append mt_append (pv 19) (pa_cons (pe_int) pa_nil)))
      (pss_cons (ps_if (PW.pt (pw_or (pt_not (pt_val (pe_fn T.d_l_same (fn_l_same T 5) (hr.mono (by decide)) T.g_l_same pc (pa_cons (pe_fn T.d_l_told (fn_l_told T) (hr.mono (by decide)) T.g_l_told pc (pa_cons (pv 16) pa_nil)) (pa_cons (pv 18) pa_nil))))) (pw_or1 (pt_not (pt_val (pe_fn T.d_l_same (fn_l_same T 5) (hr.mono (by decide)) T.g_l_same pc (pa_cons (pe_cmpR (op_ownC (op := .Eq) (fun _ _ => rfl) T.nf_Plan T.t_Plan_eq.at_ T.t_Plan_eq.fn (fn_Plan_eq T) (hr.mono (by decide)) pc) (pv 16) (pe_fn T.d_l_made_plan (fn_l_made_plan T) (hr.mono (by decide)) T.g_l_made_plan pc (pa_cons (pe_callTy (ND.call_dictN rfl hr.units) (by rfl) T.f_dict (by decide +kernel) (pa_cons (pv 2) pa_nil)) pa_nil)) (nomark _)) (pa_cons (pe_bl) pa_nil)))))))) (pss_one (ps_ret (pe_bl))) (pss_nil))
      (pss_cons (ps_set (i := 20) nd rfl (by first | exact Or.inl rfl | exact Or.inr rfl) (pe_tup (pa_cons (pe_tup (pa_cons (pe_str) (pa_cons (pe_int) pa_nil))) (pa_cons (pe_tup (pa_cons (pe_str) (pa_cons (pe_int) (pa_cons (pe_int) pa_nil)))) pa_nil))))
      (pss_cons (ps_set (i := 21) nd rfl (by first | exact Or.inl rfl | exact Or.inr rfl) (pe_callTy (ND.call_dictN rfl hr.units) (by rfl) T.f_dict (by decide +kernel) (pa_cons (pv 2) pa_nil)))
      (pss_cons (ND.ps_put hr.units (pv 21) (pv 20) (pe_lst (pa_cons (pe_tup (pa_cons (pe_int) (pa_cons (pe_int) pa_nil))) pa_nil)) rfl)
      (pss_cons (ps_if (PW.pt (pw_or (pt_not (pt_val (pe_fn T.d_l_same (fn_l_same T 5) (hr.mono (by decide)) T.g_l_same pc (pa_cons (pe_cmpR (op_ownC (op := .Eq) (fun _ _ => rfl) T.nf_Plan T.t_Plan_eq.at_ T.t_Plan_eq.fn (fn_Plan_eq T) (hr.mono (by decide)) pc) (pe_fn T.d_l_made_plan (fn_l_made_plan T) (hr.mono (by decide)) T.g_l_made_plan pc (pa_cons (pv 21) pa_nil)) (pv 16) (nomark _)) (pa_cons (pe_bl) pa_nil))))) (pw_or1 (pt_not (pt_val (pe_fn T.d_l_same (fn_l_same T 5) (hr.mono (by decide)) T.g_l_same pc (pa_cons (pe_cmpR (op_ownC (op := .Eq) (fun _ _ => rfl) T.nf_Plan T.t_Plan_eq.at_ T.t_Plan_eq.fn (fn_Plan_eq T) (hr.mono (by decide)) pc) (pv 16) (pe_fn T.d_l_made_plan (fn_l_made_plan T) (hr.mono (by decide)) T.g_l_made_plan pc (pa_cons (pv 21) pa_nil)) (nomark _)) (pa_cons (pe_bl) pa_nil)))))))) (pss_one (ps_ret (pe_bl))) (pss_nil))
      (Evl.pss_cut (ps_if (pt_cmpR op_gt (pe_callB call_len_seq (by rfl) T.f_len PySem.boot_len (pa_cons (pv 2) pa_nil)) (pe_int) (nomark _)) (pss_cons (ps_set (i := 22) nd rfl (by first | exact Or.inl rfl | exact Or.inr rfl) (pe_fn T.d_l_made_plan (fn_l_made_plan T) (hr.mono (by decide)) T.g_l_made_plan pc (pa_cons (pe_callTy (ND.call_dictN rfl hr.units) (by rfl) T.f_dict (by decide +kernel) (pa_cons (pe_slice sl_list (pv 2) po_none (po_some (pe_un un_neg (pe_int)))) pa_nil)) pa_nil)))
      (pss_one (ps_if (PW.pt (pw_or (pt_not (pt_val (pe_fn T.d_l_same (fn_l_same T 5) (hr.mono (by decide)) T.g_l_same pc (pa_cons (pe_cmpR (op_ownC (op := .Eq) (fun _ _ => rfl) T.nf_Plan T.t_Plan_eq.at_ T.t_Plan_eq.fn (fn_Plan_eq T) (hr.mono (by decide)) pc) (pv 22) (pv 16) (nomark _)) (pa_cons (pe_bl) pa_nil))))) (pw_or1 (pt_not (pt_val (pe_fn T.d_l_same (fn_l_same T 5) (hr.mono (by decide)) T.g_l_same pc (pa_cons (pe_cmpR (op_ownC (op := .Eq) (fun _ _ => rfl) T.nf_Plan T.t_Plan_eq.at_ T.t_Plan_eq.fn (fn_Plan_eq T) (hr.mono (by decide)) pc) (pv 16) (pv 22) (nomark _)) (pa_cons (pe_bl) pa_nil)))))))) (pss_one (ps_ret (pe_bl))) (pss_nil)))) (pss_nil))
      (Evl.pss_cut (ps_if (PW.pt (pw_and (pt_cmpR op_gt (pe_callB call_len_seq (by rfl) T.f_len PySem.boot_len (pa_cons (pv 2) pa_nil)) (pe_int) (nomark _)) (pw_and1 (pt_not (pt_val (pe_fn T.d_l_same (fn_l_same T 5) (hr.mono (by decide)) T.g_l_same pc (pa_cons (pe_cmpR (op_ownC (op := .Eq) (fun _ _ => rfl) T.nf_Plan T.t_Plan_eq.at_ T.t_Plan_eq.fn (fn_Plan_eq T) (hr.mono (by decide)) pc) (pe_fn T.d_l_made_plan (fn_l_made_plan T) (hr.mono (by decide)) T.g_l_made_plan pc (pa_cons (pe_callTy (ND.call_dictN rfl hr.units) (by rfl) T.f_dict (by decide +kernel) (pa_cons (pe_revL (pv 2)) pa_nil)) pa_nil)) (pv 16) (nomark _)) (pa_cons (pe_bl) pa_nil)))))))) (pss_one (ps_ret (pe_bl))) (pss_nil))
      (Evl.pss_cut (ps_if (pt_cmpR op_gt (pe_callB call_len_seq (by rfl) T.f_len PySem.boot_len (pa_cons (pv 2) pa_nil)) (pe_int) (nomark _)) (pss_cons (ps_set (i := 23) nd rfl (by first | exact Or.inl rfl | exact Or.inr rfl) (pe_fn T.d_l_draw (fn_l_draw T) (hr.mono (by decide)) T.g_l_draw pc (pa_cons (pv 1) (pa_cons (pe_callB call_len_seq (by rfl) T.f_len PySem.boot_len (pa_cons (pv 2) pa_nil)) pa_nil))))
      (pss_cons (ps_set (i := 24) nd rfl (by first | exact Or.inl rfl | exact Or.inr rfl) (pe_fn T.d_l_made_plan (fn_l_made_plan T) (hr.mono (by decide)) T.g_l_made_plan pc (pa_cons (pe_callTy (ND.call_dictN rfl hr.units) (by rfl) T.f_dict (by decide +kernel) (pa_cons (pe_op op_cat (pe_op op_cat (pe_slice sl_list (pv 2) po_none (po_some (pv 23))) (pe_lst (pa_cons (pe_tup (pa_cons (pv 20) (pa_cons (pe_ix ix_tup (pe_ix ix_list (pv 2) (pv 23) (fun _ _ => rfl)) (pe_int) (fun _ _ => rfl)) pa_nil))) pa_nil))) (pe_slice sl_list (pv 2) (po_some (pe_op op_add (pv 23) (pe_int))) po_none)) pa_nil)) pa_nil)))
      (pss_one (ps_if (pt_not (pt_val (pe_fn T.d_l_same (fn_l_same T 5) (hr.mono (by decide)) T.g_l_same pc (pa_cons (pe_lst (pa_cons (pe_cmpR (op_ownC (op := .Eq) (fun _ _ => rfl) T.nf_Plan T.t_Plan_eq.at_ T.t_Plan_eq.fn (fn_Plan_eq T) (hr.mono (by decide)) pc) (pv 24) (pv 16) (nomark _)) (pa_cons (pe_cmpR (op_ownC (op := .Eq) (fun _ _ => rfl) T.nf_Plan T.t_Plan_eq.at_ T.t_Plan_eq.fn (fn_Plan_eq T) (hr.mono (by decide)) pc) (pv 16) (pv 24) (nomark _)) pa_nil))) (pa_cons (pe_lst (pa_cons (pe_bl) (pa_cons (pe_bl) pa_nil))) pa_nil))))) (pss_one (ps_ret (pe_bl))) (pss_nil))))) (pss_nil))
      (Evl.pss_cut (ps_if (pt_cmpR op_gt (pe_callB call_len_seq (by rfl) T.f_len PySem.boot_len (pa_cons (pv 2) pa_nil)) (pe_int) (nomark _)) (pss_cons (ps_set (i := 21) nd rfl (by first | exact Or.inl rfl | exact Or.inr rfl) (pe_callTy (ND.call_dictN rfl hr.units) (by rfl) T.f_dict (by decide +kernel) (pa_cons (pv 2) pa_nil)))
      (pss_cons (ps_asg (pe_fn T.d_l_weights (fn_l_weights T) (hr.mono (by decide)) T.g_l_weights pc (pa_cons (pv 1) pa_nil)) (pg_tup rfl (pgs_cons (pg_name (i := 6) nd rfl (by first | exact Or.inl rfl | exact Or.inr rfl)) (pgs_cons (pg_name (i := 7) nd rfl (by first | exact Or.inl rfl | exact Or.inr rfl)) pgs_nil))))
      (pss_one (ps_if (PW.pt (pw_and (pt_cmpR op_gt (pe_callB call_len_seq (by rfl) T.f_len PySem.boot_len (pa_cons (pv 6) pa_nil)) (pe_int) (nomark _)) (pw_and (pt_cmpR op_eq (pe_callB (cr_sum rfl) (by rfl) T.f_sum (by decide +kernel) (pa_cons (pv 6) pa_nil)) (pv 7) (nomark _)) (pw_and1 (pt_cmpR op_ge (pe_callB (cr_min rfl) (by rfl) T.f_min (by decide +kernel) (pa_cons (pv 6) pa_nil)) (pe_int) (nomark _)))))) (pss_cons (ps_set (i := 5) nd rfl (by first | exact Or.inl rfl | exact Or.inr rfl) (pe_ix ix_tup (pe_ix ix_list (pv 2) (pe_fn T.d_l_draw (fn_l_draw T) (hr.mono (by decide)) T.g_l_draw pc (pa_cons (pv 1) (pa_cons (pe_callB call_len_seq (by rfl) T.f_len PySem.boot_len (pa_cons (pv 2) pa_nil)) pa_nil))) (fun _ _ => rfl)) (pe_int) (fun _ _ => rfl)))
      (pss_cons (ND.ps_put hr.units (pv 21) (pv 5) (pe_lc (own := [("_law_weight", 10)]) (g := gName 10) (tt := tYes) rfl nd (pi_list (pv 6)) (blkOk_by (N := n_law) (sc := defScope s_law) (by decide +kernel)) (fun _ _ _ _ _ => pg_name (i := 10) nd rfl (by first | exact Or.inl rfl | exact Or.inr rfl)) (fun _ _ _ _ _ => pts_nil) (fun _ _ _ _ _ => pe_fn T.d_l_less (fn_l_less (w := w) (base := base) T) (hr.mono (by decide)) T.g_l_less pcF (pa_cons (pv 10) (pa_cons (pv 7) pa_nil)))) rfl)
      (pss_one (ps_if (pt_not (pt_val (pe_fn T.d_l_same (fn_l_same T 5) (hr.mono (by decide)) T.g_l_same pc (pa_cons (pe_cmpR (op_ownC (op := .Eq) (fun _ _ => rfl) T.nf_Plan T.t_Plan_eq.at_ T.t_Plan_eq.fn (fn_Plan_eq T) (hr.mono (by decide)) pc) (pe_fn T.d_l_made_plan (fn_l_made_plan T) (hr.mono (by decide)) T.g_l_made_plan pc (pa_cons (pv 21) pa_nil)) (pv 16) (nomark _)) (pa_cons (pe_cmpR (ND.op_eqB (NQ.u65 hr)) (pv 21) (pe_callTy (ND.call_dictN rfl hr.units) (by rfl) T.f_dict (by decide +kernel) (pa_cons (pv 2) pa_nil)) (nomark _)) pa_nil))))) (pss_one (ps_ret (pe_bl))) (pss_nil))))) (pss_nil))))) (pss_nil))
      (pss_one (ps_ret (pe_fn T.d_l_sure (fn_l_sure T) (hr.mono (by decide)) T.g_l_sure pc (pa_cons (pv 1) pa_nil))))))))))))))))))))))))), ?_⟩
  have hbig : (100000 : Nat) ≤ sizeLine := by decide
  refine ⟨_, rfl, a, ns, 0, rfl, ha, hl, fun p H1 P1 s1 np _ hP1 _ => ?_⟩
  obtain ⟨B1, e1, hb1, ⟨P0, hq1, hq2, hq3⟩⟩ := base_pool hP1
  have w1 : Wd p P0.bud B1 H1 := ⟨e1, hb1, P0, hq1, hq2, hq3, rfl⟩
  generalize P0.bud = u at w1
  clear hq1 hq2 hq3 hP1 hb1 s1 np ha hl
  dsimp only [gName]
  refine ⟨(show 0 ≤ sizeLine by omega), fun L nL => ?_⟩
  obtain ⟨pL, sL⟩ := (Stp.refl w1.e : Stp [p] B1 H1 B1 H1).prv (o := .lst []) nL (fun m hm => Wld.ne w1 hm)
  have wL : Wd p u B1 (upd H1 L (.lst [])) := Wd.cell w1 nL
  generalize upd H1 L (.lst []) = H2 at pL sL wL
  dsimp only [gName]
  refine ⟨fun σ H' => ∃ (B' : Hp) (vs : List V) (es : List Ent) (u4 u5 u6 u7 u9 : Option V), Stp [p] B1 H1 B' H' ∧ Wd p u B' H' ∧ Prv [p] H1 B' H' L (.lst vs) ∧ RwsAt K B' vs es ∧ (∀ e ∈ es, EOk e) ∧ es.length ≤ 6 ∧ σ = [some (.ref a), some (.ref p), some (.ref L), some (bv es), u4, u5, u6, u7, none, u9] ++ List.replicate 15 none, ?_, ?_⟩
  · refine for_rngG (ms := [p]) (W := Wd p u) (B := B1) (R := fun n => 0 ≤ n ∧ n ≤ 6) wL (gw_cons (gw_draw rfl ev_c (by decide) (by decide)) fun x B10 e10 ⟨r, hx, h1, h2⟩ => gw_nil fun _ _ => ⟨r, by rw [hx], by omega, by omega⟩) (fun n hn => ⟨hn.1, by omega⟩) fun n B3 H3 s3 w3 ⟨hn0, hn6⟩ => ?_
    refine for_range (lo := 0) (n := n.toNat) (fun i σ H' => ∃ (B' : Hp) (vs : List V) (es : List Ent) (u4 u5 u6 u7 u9 : Option V), Stp [p] B1 H1 B' H' ∧ Wd p u B' H' ∧ Prv [p] H1 B' H' L (.lst vs) ∧ RwsAt K B' vs es ∧ (∀ e ∈ es, EOk e) ∧ es.length = i ∧ σ = [some (.ref a), some (.ref p), some (.ref L), some (bv es), u4, u5, u6, u7, none, u9] ++ List.replicate 15 none) ⟨B3, [], [], none, none, none, none, none, sL.trans s3, w3, pL.stp s3, .nil, fun _ h => absurd h List.not_mem_nil, rfl, rfl⟩ ?_ ?_
    · rintro i σ H' hi ⟨B', vs, es, u4, u5, u6, u7, u9, st, w', pr, hrw, hok, hel, rfl⟩
      have hi6 : i < 6 := by omega
      have e0 : (0 : Int) + (i : Nat) = (i : Nat) := Int.zero_add _
      rw [e0]
      dsimp only [gName]
      refine gwq_asg (ms := [p]) (W := Wd p u) (R := fun v B5 => ∃ b xs v0, v = .ref b ∧ SqT K B5 b xs ∧ Paired (EvAt K B5) xs v0 ∧ VwOk v0 ∧ v0.length ≤ 1) w' ?_ fun v5 B5 H5 s5 w5 ⟨b, xs, v0, hv5, hb, hxs, hvo, hvl⟩ => ?_
      · refine gw_tup (S := fun us B5 => ∃ t, ∃ k : Nat, us = [.ref t] ∧ k < 4 ∧ SqT K B5 t [.str "asked", .int (k : Nat), .int 2]) (gw_cons (R1 := fun v B5 => ∃ t, ∃ k : Nat, v = .ref t ∧ k < 4 ∧ SqT K B5 t [.str "asked", .int (k : Nat), .int 2]) (gw_tup (S := fun us _ => ∃ k : Nat, us = [.str "asked", .int (k : Nat), .int 2] ∧ k < 4) (gw_c1 ev_c (gw_cons (gw_draw rfl ev_c (by decide) (by decide)) fun x B6 e6 ⟨r, hx, h1, h2⟩ => gw_c1 ev_c (gw_nil fun _ _ => ⟨r.toNat, by rw [hx, Int.toNat_of_nonneg h1], by omega⟩))) fun us B5 e5 ⟨k, hus, hk⟩ => ⟨by rw [hus]; exact (show 3 ≤ 100000 by decide), fun B6 t e6 ht => ⟨t, k, rfl, hk, by rw [hus] at ht; exact st_of ht⟩⟩) fun x B5 e5 ⟨t, k, hx, hk, ht⟩ => gw_nil fun B6 e6 => ⟨t, k, by rw [hx], hk, ex_t e6 ht⟩) fun us B5 e5 ⟨t, k, hus, hk, ht⟩ => ?_
        subst hus
        exact ⟨(show 1 ≤ 100000 by decide), fun B6 b e6 hb => ⟨b, _, [(("asked", [k, 2]) : Evt)], rfl, st_of hb, .cons ⟨t, rfl, ex_t e6 ht⟩ .nil, vw_one hk, Nat.le_refl 1⟩⟩
      subst hv5
      have st5 := st.trans s5
      have pr5 := pr.stp s5
      have hrw5 := hrw.mono s5.base
      clear st s5 w' pr hrw
      refine ⟨fun σ H' => ∃ (B' : Hp) (b : Addr) (xs : List V) (v0 : List Evt), Stp [p] B1 H1 B' H' ∧ Wd p u B' H' ∧ Prv [p] H1 B' H' L (.lst vs) ∧ RwsAt K B' vs es ∧ SqT K B' b xs ∧ Paired (EvAt K B') xs v0 ∧ VwOk v0 ∧ v0.length ≤ 2 ∧ σ = [some (.ref a), some (.ref p), some (.ref L), some (bv es), some (.int (i : Nat)), some (.ref b), u6, u7, none, u9] ++ List.replicate 15 none, ?_, ?_⟩
      · refine gws_when (ms := [p]) (W := Wd p u) (R := fun _ _ => True) w5 ?_ (fun B6 H6 s6 w6 _ => ?_) fun B6 H6 s6 w6 _ => ⟨B6, b, xs, v0, st5.trans s6, w6, pr5.stp s6, hrw5.mono s6.base, ex_t s6.base hb, paired_mono hxs fun _ _ (z : EvAt K B5 _ _) => z.mono s6.base, hvo, by omega, rfl⟩
        · exact gw_test (gw_op (gw_draw rfl ev_c (by decide) (by decide)) fun x B9 e9 ⟨rr, hx, h1, h2⟩ => (gw_val ev_c).imp fun y B10 e10 hy => by
            subst hx hy
            exact gw_ex (fun B11 H11 e11 w11 Q q => ⟨_, _, rfl, rfl, q H11 (Ex.refl _)⟩) fun _ _ => ⟨_, rfl, trivial⟩)
        · have hb6 := ex_t s6.base hb
          have hxs6 := paired_mono hxs fun _ _ (z : EvAt K B5 _ _) => z.mono s6.base
          have hxl : xs.length = v0.length := Paired.length hxs
          have hne : v0 ≠ [] := fun z => by obtain ⟨k, _, h⟩ := hvo.a; rw [z] at h; cases h
          refine gws_asg (ms := [p]) (W := Wd p u) (B := B6) (R := fun v B7 => ∃ b2 ys zs, v = .ref b2 ∧ SqT K B7 b2 (ys ++ zs) ∧ (∃ r : Nat, Paired (EvAt K B7) ys [(("shown", [r]) : Evt)]) ∧ Paired (EvAt K B7) zs v0) w6 ?_ fun v7 B7 H7 s7 w7 ⟨b2, ys, zs, hv7, hb2, ⟨r, hys⟩, hzs⟩ => ?_
          · refine gw_catT2 (R := fun ys B7 => ∃ r : Nat, Paired (EvAt K B7) ys [(("shown", [r]) : Evt)]) (S := fun zs B7 => Paired (EvAt K B7) zs v0) ?_ (fun B7 e7 => (gw_val (ev_var rfl)).imp fun v B8 e8 hv => ⟨b, xs, hv, ex_t (e7.trans e8) hb6, (by intro z; rw [z] at hxl; exact hne (List.eq_nil_of_length_eq_zero hxl.symm)), (by omega), paired_mono hxs6 fun _ _ (z : EvAt K B6 _ _) => z.mono (e7.trans e8)⟩) (fun ys B7 B8 e ⟨r, h⟩ => ⟨r, paired_mono h fun _ _ (z : EvAt K B7 _ _) => z.mono e⟩) (fun zs B7 B8 e h => paired_mono h fun _ _ (z : EvAt K B7 _ _) => z.mono e)
            refine gw_tup (S := fun us B7 => ∃ t, ∃ r : Nat, us = [.ref t] ∧ SqT K B7 t [.str "shown", .int (r : Nat)]) (gw_cons (R1 := fun v B7 => ∃ t, ∃ r : Nat, v = .ref t ∧ SqT K B7 t [.str "shown", .int (r : Nat)]) (gw_tup (S := fun us _ => ∃ r : Nat, us = [.str "shown", .int (r : Nat)]) (gw_c1 ev_c (gw_cons (gw_draw rfl ev_c (by decide) (by decide)) fun x B9 e9 ⟨r, hx, h1, h2⟩ => gw_nil fun _ _ => ⟨r.toNat, by rw [hx, Int.toNat_of_nonneg h1]⟩)) fun us B9 e9 ⟨r, hus⟩ => ⟨by rw [hus]; exact (show 2 ≤ 100000 by decide), fun B10 t e10 ht => ⟨t, r, rfl, by rw [hus] at ht; exact st_of ht⟩⟩) fun x B9 e9 ⟨t, r, hx, ht⟩ => gw_nil fun B10 e10 => ⟨t, r, by rw [hx], ex_t e10 ht⟩) fun us B9 e9 ⟨t, r, hus, ht⟩ => ?_
            subst hus
            exact ⟨(show 1 ≤ 100000 by decide), fun B10 b3 e10 hb3 => ⟨b3, [.ref t], rfl, st_of hb3, List.cons_ne_nil _ _, (show 1 ≤ 10000 by decide), r, .cons ⟨t, rfl, ex_t e10 ht⟩ .nil⟩⟩
          · subst hv7
            exact ⟨B7, b2, _, ("shown", [r]) :: v0, st5.trans (s6.trans s7), w7, (pr5.stp s6).stp s7, hrw5.mono (s6.base.trans s7.base), hb2, (paired_app hys hzs : Paired (EvAt K B7) (ys ++ zs) ([(("shown", [r]) : Evt)] ++ v0)), vw_cons hvo (by omega) (show 1 ≤ 2 by decide) nm_law.2.1, by rw [List.length_cons]; omega, rfl⟩
      rintro σ H6 ⟨B6, b, xs, v0, st6, w6, pr6, hrw6, hb, hxs, hvo, hvl, rfl⟩
      clear st5 pr5 hrw5 w5
      refine ⟨fun σ H' => ∃ (B' : Hp) (b : Addr) (xs : List V) (v0 : List Evt), Stp [p] B1 H1 B' H' ∧ Wd p u B' H' ∧ Prv [p] H1 B' H' L (.lst vs) ∧ RwsAt K B' vs es ∧ SqT K B' b xs ∧ Paired (EvAt K B') xs v0 ∧ VwOk v0 ∧ σ = [some (.ref a), some (.ref p), some (.ref L), some (bv es), some (.int (i : Nat)), some (.ref b), u6, u7, none, u9] ++ List.replicate 15 none, ?_, ?_⟩
      · refine gws_when (ms := [p]) (W := Wd p u) (R := fun _ _ => True) w6 ?_ (fun B7 H7 s7 w7 _ => ?_) fun B7 H7 s7 w7 _ => ⟨B7, b, xs, v0, st6.trans s7, w7, pr6.stp s7, hrw6.mono s7.base, ex_t s7.base hb, paired_mono hxs fun _ _ (z : EvAt K B6 _ _) => z.mono s7.base, hvo, rfl⟩
        · exact gw_test (gw_op (gw_draw rfl ev_c (by decide) (by decide)) fun x B9 e9 ⟨rr, hx, h1, h2⟩ => (gw_val ev_c).imp fun y B10 e10 hy => by
            subst hx hy
            exact gw_ex (fun B11 H11 e11 w11 Q q => ⟨rfl, q H11 (Ex.refl _)⟩) fun _ _ => ⟨_, rfl, trivial⟩)
        · have hb6 := ex_t s7.base hb
          have hxs6 := paired_mono hxs fun _ _ (z : EvAt K B6 _ _) => z.mono s7.base
          have hxl : xs.length = v0.length := Paired.length hxs
          have hne : v0 ≠ [] := fun z => by obtain ⟨k, _, h⟩ := hvo.a; rw [z] at h; cases h
          refine gws_asg (ms := [p]) (W := Wd p u) (B := B7) (R := fun v B8 => ∃ b2 ys zs, v = .ref b2 ∧ SqT K B8 b2 (ys ++ zs) ∧ (∃ q r : Nat, Paired (EvAt K B8) ys [(("did", [q]) : Evt), (("shown", [r]) : Evt)]) ∧ Paired (EvAt K B8) zs v0) w7 ?_ fun v8 B8 H8 s8 w8 ⟨b2, ys, zs, hv8, hb2, ⟨q, r, hys⟩, hzs⟩ => ?_
          · refine gw_catT2 (R := fun ys B8 => ∃ q r : Nat, Paired (EvAt K B8) ys [(("did", [q]) : Evt), (("shown", [r]) : Evt)]) (S := fun zs B8 => Paired (EvAt K B8) zs v0) ?_ (fun B8 e8 => (gw_val (ev_var rfl)).imp fun v B9 e9 hv => ⟨b, xs, hv, ex_t (e8.trans e9) hb6, (by intro z; rw [z] at hxl; exact hne (List.eq_nil_of_length_eq_zero hxl.symm)), (by omega), paired_mono hxs6 fun _ _ (z : EvAt K B7 _ _) => z.mono (e8.trans e9)⟩) (fun ys B8 B9 e ⟨q, r, h⟩ => ⟨q, r, paired_mono h fun _ _ (z : EvAt K B8 _ _) => z.mono e⟩) (fun zs B8 B9 e h => paired_mono h fun _ _ (z : EvAt K B8 _ _) => z.mono e)
            refine gw_tup (S := fun us B8 => ∃ t t2, ∃ q r : Nat, us = [.ref t, .ref t2] ∧ SqT K B8 t [.str "did", .int (q : Nat)] ∧ SqT K B8 t2 [.str "shown", .int (r : Nat)]) (gw_cons (R1 := fun v B8 => ∃ t, ∃ r : Nat, v = .ref t ∧ SqT K B8 t [.str "did", .int (r : Nat)]) (gw_tup (S := fun us _ => ∃ r : Nat, us = [.str "did", .int (r : Nat)]) (gw_c1 ev_c (gw_cons (gw_draw rfl ev_c (by decide) (by decide)) fun x B9 e9 ⟨r, hx, h1, h2⟩ => gw_nil fun _ _ => ⟨r.toNat, by rw [hx, Int.toNat_of_nonneg h1]⟩)) fun us B9 e9 ⟨r, hus⟩ => ⟨by rw [hus]; exact (show 2 ≤ 100000 by decide), fun B10 t e10 ht => ⟨t, r, rfl, by rw [hus] at ht; exact st_of ht⟩⟩) fun x B9 e9 ⟨t, q, hx, ht⟩ => gw_cons (R1 := fun v B8 => ∃ t, ∃ r : Nat, v = .ref t ∧ SqT K B8 t [.str "shown", .int (r : Nat)]) (gw_tup (S := fun us _ => ∃ r : Nat, us = [.str "shown", .int (r : Nat)]) (gw_c1 ev_c (gw_cons (gw_draw rfl ev_c (by decide) (by decide)) fun x B9 e9 ⟨r, hx, h1, h2⟩ => gw_nil fun _ _ => ⟨r.toNat, by rw [hx, Int.toNat_of_nonneg h1]⟩)) fun us B9 e9 ⟨r, hus⟩ => ⟨by rw [hus]; exact (show 2 ≤ 100000 by decide), fun B10 t e10 ht => ⟨t, r, rfl, by rw [hus] at ht; exact st_of ht⟩⟩) fun y B10 e10 ⟨t2, r, hy, ht2⟩ => gw_nil fun B11 e11 => ⟨t, t2, q, r, by rw [hx, hy], ex_t (e10.trans e11) ht, ex_t e11 ht2⟩) fun us B9 e9 ⟨t, t2, q, r, hus, ht, ht2⟩ => ?_
            subst hus
            exact ⟨(show 2 ≤ 100000 by decide), fun B10 b3 e10 hb3 => ⟨b3, [.ref t, .ref t2], rfl, st_of hb3, List.cons_ne_nil _ _, (show 2 ≤ 10000 by decide), q, r, .cons ⟨t, rfl, ex_t e10 ht⟩ (.cons ⟨t2, rfl, ex_t e10 ht2⟩ .nil)⟩⟩
          · subst hv8
            exact ⟨B8, b2, _, ("did", [q]) :: ("shown", [r]) :: v0, st6.trans (s7.trans s8), w8, (pr6.stp s7).stp s8, hrw6.mono (s7.base.trans s8.base), hb2, (paired_app hys hzs : Paired (EvAt K B8) (ys ++ zs) ([(("did", [q]) : Evt), (("shown", [r]) : Evt)] ++ v0)), vw_cons (vw_cons hvo (by omega) (show 1 ≤ 2 by decide) nm_law.2.1) (by rw [List.length_cons]; omega) (show 1 ≤ 2 by decide) nm_law.2.2, rfl⟩
      rintro σ H7 ⟨B7, b, xs, v0, st7, w7, pr7, hrw7, hb, hxs, hvo, rfl⟩
      clear st6 w6 pr6 hrw6
      have hkb : KeyAt K B7 b (viewK v0) := view_key hb hxs
      refine ⟨_, rfl, p, u, B7, rfl, w7, fun t Lw ws wh B8 H8 s8 w8 ht hLw hwk => ?_⟩
      refine ⟨t, _, rfl, ex_t w8.e ht, rfl, _, _, rfl, _, _, rfl, rfl, ?_⟩
      dsimp only
      have st8 := st7.trans s8
      have pr8 := pr7.stp s8
      have hrw8 := hrw7.mono s8.base
      have hkb8 := key_mono hkb s8.base
      clear st7 w7 pr7 hrw7 hkb s8 hb hxs ht
      -- wrong
      have eT : Ex (upd B8 L (.lst vs)) H8 := (Stp.keep w8.e pr8.h pr8.b).2
      have eB : Ex B8 (upd B8 L (.lst vs)) := Ex.new pr8.b
      refine gwq_asg (ms := []) (W := W0) (B := upd B8 L (.lst vs)) (R := fun v _ => v = .bl (!okE (es.map (·.1)) (viewK v0, lotG ws wh))) eT ?_ fun v9 B9 H9 s9 _ hv9 => ?_
      · have hL8 : upd B8 L (.lst vs) L = some (.lst vs) := upd_same
        have hLw8 := eB _ _ hLw
        have hr8 := hrw8.mono eB
        have hk8 := key_mono hkb8 eB
        generalize upd B8 L (.lst vs) = B9 at hL8 hLw8 hr8 hk8
        rw [wrong_eq hwk, Bool.not_not]
        refine gw_orV (a := decide (ws.length = 0)) ?_ fun B10 e10 h0 => gw_orV (a := !decide (ws.sum = wh)) ?_ fun B11 e11 _ => gw_orV (a := ws.any fun x => decide (x < 0)) ?_ fun B12 e12 _ => ?_
        · refine gw_op (gw_lenR rfl hLw8) fun x B10 e10 hx => (gw_val ev_c).imp fun y B11 e11 hy => ?_
          subst hx hy
          refine gw_ex (v := .bl (decide (ws.length = 0))) (fun B12 H12 e12 w12 Q q => ⟨rfl, ?_⟩) fun _ _ => rfl
          rw [List.length_map, show decide (V.int (ws.length : Nat) = V.int 0) = decide (ws.length = 0) from decide_eq_decide.mpr ⟨fun z => by have := V.int.inj z; omega, fun z => by rw [z]; rfl⟩]
          exact q H12 (Ex.refl _)
        · refine gw_op (gw_val (ev_sum (ev_var rfl) (sq_of (e10 _ _ hLw8)))) fun x B11 e11 hx => (gw_val (ev_var rfl)).imp fun y B12 e12 hy => ?_
          subst hx hy
          refine gw_ex (v := .bl (!decide (ws.sum = wh))) (fun B13 H13 e13 w13 Q q => ⟨rfl, ?_⟩) fun _ _ => rfl
          rw [show decide (V.int ws.sum = V.int wh) = decide (ws.sum = wh) from decide_eq_decide.mpr ⟨fun z => V.int.inj z, fun z => by rw [z]⟩]
          exact q H13 (Ex.refl _)
        · have hne : ws ≠ [] := fun z => by rw [z] at h0; cases h0
          have hLw11 := (e10.trans e11) _ _ hLw8
          refine gw_op (gw_min (L := Lw) ((gw_val (ev_var rfl)).imp fun v B12 e12 hv => ⟨hv, sq_of (e12 _ _ hLw11)⟩) hne) fun x B12 e12 ⟨m, hx, hm⟩ => (gw_val ev_c).imp fun y B13 e13 hy => ?_
          subst hx hy
          refine gw_ex (v := .bl (ws.any fun x => decide (x < 0))) (fun B14 H14 e14 w14 Q q => ⟨_, _, rfl, rfl, ?_⟩) fun _ _ => rfl
          show Q (V.bl (decide (m < 0))) H14
          rw [hm]
          exact q H14 (Ex.refl _)
        · have e912 := e10.trans (e11.trans e12)
          have hkl : ∀ e ∈ es, KLay e.1 := fun e he => by
            obtain ⟨v, hv, hk⟩ := (hok e he).v
            rw [hk]; exact vw_lay hv
          refine gw_op (R1 := fun v B13 => Dp K B13 v (viewK v0).data) (gw_dp rfl (key_mono hk8 e912).2.2) fun x B13 e13 hx => (?_ : GW [] W0 _ B13 (fun v B14 => Dp K B14 v (.list (es.map fun e => e.1.data)))).imp fun y B14 e14 hy => ?_
          · have e913 := e912.trans e13
            refine gw_lcL (gw_val (ev_var rfl)) fun u1 B14 e14 hu => ?_
            subst hu
            have hr14 := hr8.mono (e913.trans e14)
            have hrl := hr14.len
            refine ⟨L, vs, fun i v B15 => ∃ e, es[i]? = some e ∧ Dp K B15 v e.1.data, rfl, sq_of ((e913.trans e14) _ _ hL8), by omega, fun i v B1 B2 e ⟨en, g1, g2⟩ => ⟨en, g1, dp_mono e g2⟩, fun i y hy B15 e15 => ?_, fun D ys B15 e15 hD hyl hre => .lst (sq_of hD) (dpa_of (by rw [List.length_map]; omega) fun i y d hy hd => ?_)⟩
            · obtain ⟨en, hen, T', b', l', vs', rfl, g1, g2, g3, g4⟩ := paired_get hr14 hy
              exact LcE.name rfl (gw_ev (ev_ixT (ev_var rfl) ev_c (st_of (e15 _ _ g1)) at0) fun B16 e16 => ⟨en, hen, (key_mono g2 (e15.trans e16)).2.2⟩)
            · obtain ⟨e, g1, g2⟩ := hre i y hy
              rw [List.getElem?_map, g1] at hd
              cases hd
              exact g2
          · refine gw_ex (v := .bl (decide (viewK v0 ∈ es.map (·.1)))) (fun B15 H15 e15 w15 Q q => ⟨(viewK v0).data, es.map (fun (e : Ent) => e.1.data), dp_mono (e14.trans (e15.trans w15)) hx, dp_mono (e15.trans w15) hy, key_shaped (vw_lay hvo), keys_shaped hkl, ?_⟩) fun _ _ => rfl
            rw [keys_any fun e he => by
              obtain ⟨v, _, hk⟩ := (hok e he).v
              exact ⟨v, hk⟩]
            exact q H15 (Ex.refl _)
      subst hv9
      have x9 : Ex H8 H9 := fun b o h => s9.fr b o (fun z => nomatch z) h
      obtain ⟨s9', w9⟩ := Wld.ex (ms := [p]) (W := Wd p u) w8 x9
      have st9 := st8.trans s9'
      have pr9 := pr8.stp s9'
      clear s9 s9' x9 st8 pr8 w8 eT eB
      generalize hwr : (!okE (es.map (·.1)) (viewK v0, lotG ws wh)) = wr
      refine ⟨fun σ H' => Ex H9 H' ∧ σ = [some (.ref a), some (.ref p), some (.ref L), some (bv (es ++ [(viewK v0, lotG ws wh)])), some (.int (i : Nat)), some (.ref b), some (.ref Lw), some (.int wh), none, some (.bl wr)] ++ List.replicate 15 none, ?_, ?_⟩
      · refine s_if (b := decide (bv es = .non) && wr) (et_and (et_test (ev_op (ev_var rfl) ev_c fun H1 _ Q q => ⟨rfl, q H1 (Ex.refl _)⟩)) fun _ => et_test (ev_var rfl)) (fun hb H10 x10 => ?_) fun hb H10 x10 => ?_
        · refine ⟨_, rfl, x10, ?_⟩
          rw [bv_snoc, hwr, if_pos hb, hel]
          rfl
        · refine ⟨x10, ?_⟩
          rw [bv_snoc, hwr, if_neg (by rw [hb]; decide)]
          rfl
      rintro σ H10 ⟨x10, rfl⟩
      obtain ⟨s10, w10⟩ := Wld.ex (ms := [p]) (W := Wd p u) w9 x10
      have st10 := st9.trans s10
      have pr10 := pr9.stp s10
      have hrl := hrw8.len
      refine ⟨_, rfl, .inl ⟨rfl, _, sq_of pr10.h⟩, ?_⟩
      refine (gw_tup (ms := [p]) (W := Wd p u) (B := B8) (S := fun us2 B9 => ∃ l ys, us2 = [.ref b, .ref l] ∧ B9 l = some (.lst ys) ∧ LrsAt B9 ys (lotG ws wh)) (R := fun v B9 => RwAt K B9 v (viewK v0, lotG ws wh)) (gw_c1 (v := .ref b) (ev_var rfl) (gw_cons (gw_less (ws := ws) (wh := wh) (E := fun _ _ _ => False) (cs := [10]) (tw := tVar 7) (j := 10) T ((gw_val (ev_var rfl)).imp fun v B9 e9 hv => ⟨Lw, hv, e9 _ _ hLw⟩) hwk.h hwk.len (fun _ => rfl) (fun _ => rfl) (fun _ _ => ev_var rfl)) fun x B9 e9 ⟨l, ys, hx, h1, h2⟩ => gw_nil fun B10 e10 => ⟨l, ys, by rw [hx], e10 _ _ h1, h2.mono e10⟩)) fun us2 B9 e9 ⟨l, ys, hus, h1, h2⟩ => ?_).go w10 fun v11 B11 H11 s11 w11 hv11 => ?_
      · subst hus
        exact ⟨(show 2 ≤ 100000 by decide), fun B10 t e10 ht => ⟨t, b, l, ys, rfl, ht, key_mono hkb8 (e9.trans e10), e10 _ _ h1, h2.mono e10⟩⟩
      · have pr11 := pr10.stp s11
        refine ⟨L, vs, v11, rfl, rfl, pr11.h, by omega, B11, vs ++ [v11], es ++ [(viewK v0, lotG ws wh)], _, _, _, _, _, (st10.trans s11).mut pr11, Wld.put (ms := [p]) w11 pr11.b pr11.nf, pr11.self, paired_app (hrw8.mono s11.base) (.cons hv11 .nil), fun e he => ?_, by rw [List.length_append, List.length_singleton, hel], rfl⟩
        rcases List.mem_append.mp he with he | he
        · exact hok e he
        · rw [List.mem_singleton.mp he]; exact eok_of hvo hwk
    · rintro σ H' ⟨B', vs, es, u4, u5, u6, u7, u9, st, w', pr, hrw, hok, hel, rfl⟩
      exact ⟨B', vs, es, u4, u5, u6, u7, u9, st, w', pr, hrw, hok, by omega, rfl⟩
  rintro σ H2 ⟨B2, vs, es, u4, u5, u6, u7, u9, s2, w2, p2, hrw, hok, hel, rfl⟩
  have hL : upd B2 L (.lst vs) L = some (.lst vs) := upd_same
  have w3 : Wd p u (upd B2 L (.lst vs)) H2 := Wld.keep (ms := [p]) w2 p2.b p2.h p2.nf
  have hrw := hrw.mono (Ex.new (o := .lst vs) p2.b)
  generalize upd B2 L (.lst vs) = B3 at hL w3 hrw
  clear s2 p2 w2 sL pL wL
  have hrl := hrw.len
  have e3 : Ex B3 H2 := w3.e
  have hlen5 : ∀ e ∈ es, e.2.length ≤ 5 := fun e he => (hok e he).l
  have hview : ∀ e ∈ es, ∃ u, e.1 = viewK u := fun e he => by
    obtain ⟨v, _, hk⟩ := (hok e he).v
    exact ⟨v, hk⟩
  have hklay : ∀ e ∈ es, KLay e.1 := fun e he => by
    obtain ⟨v, hv, hk⟩ := (hok e he).v
    rw [hk]; exact vw_lay hv
  -- the entries
  refine gwq_lcE (H0 := H2) (B := B3) (Re := fun i v B => ∃ e, es[i]? = some e ∧ EnAt K H2 B v e) (wa_refl e3) (ev_var rfl) (sq_of hL) (by omega) (fun i v B1 B2 e ⟨en, g1, g2⟩ => ⟨en, g1, g2.mono e⟩) (fun i y hy B4 e4 => ?_) fun D ys B' H4 nD s4 w4 bD eB' hyl hre => ?_
  · obtain ⟨en, hen, T', b, l, ls, rfl, hT, hkb, hl, hls⟩ := paired_get (hrw.mono e4) hy
    have hz5 := hlen5 en (List.mem_of_getElem? hen)
    have hsz := (hok en (List.mem_of_getElem? hen)).z
    have hll : ls.length = en.2.length := Paired.length hls
    refine LcE.pair (st_of hT) rfl ?_
    refine (gw_tup (S := fun us B5 => ∃ l2 rs, us = [.ref b, .ref l2] ∧ B5 l2 = some (.lst rs) ∧ RatsAt K B5 rs en.2 ∧ H2 l2 = none) (gw_c1 (v := .ref b) (ev_var rfl) (gw_cons (R1 := fun v B5 => ∃ l2 rs, v = .ref l2 ∧ B5 l2 = some (.lst rs) ∧ RatsAt K B5 rs en.2 ∧ H2 l2 = none) ?_ fun x B5 e5 ⟨l2, rs, hx, h1, h2, h3⟩ => gw_nil fun B6 e6 => ⟨l2, rs, by rw [hx], e6 _ _ h1, rats_mono h2 e6, h3⟩)) fun us B5 e5 ⟨l2, rs, hus, h1, h2, h3⟩ => ?_)
    · refine gw_lcLA (gw_val (ev_var rfl)) fun u1 B5 e5 hu => ?_
      subst hu
      refine ⟨l, ls, fun i v B6 => ∃ q, en.2[i]? = some q ∧ RatAt K B6 v q, rfl, sq_of (e5 _ _ hl), by omega, fun i v B1 B2 e ⟨q, h1, h2⟩ => ⟨q, h1, ratAt_mono e h2⟩, fun i z hz B6 e6 => ?_, fun D2 zs B6 e6 hD2 nD2 hzl hre2 => ⟨D2, zs, rfl, hD2, paired_of (by rw [hzl, hll]) fun i z q hz hq => ?_, nD2⟩⟩
      · obtain ⟨q, hq, c, rfl, hc⟩ := paired_get hls hz
        have dp := q.den_pos
        refine LcE.pair (st_of ((e5.trans e6) _ _ hc)) rfl ?_
        refine (gw_ratio2 (n := q.num) (d := (q.den : Int)) (gw_val (ev_var rfl)) (fun B7 e7 => gw_val (ev_var rfl)) (by omega) ?_).imp fun v B7 e7 r => ⟨q, hq, ?_⟩
        · rw [Int.natAbs_natCast]
          exact Nat.lt_trans (hsz q (List.mem_of_getElem? hq)).2 (by decide)
        · rw [Int.toNat_natCast, Rat.mkRat_self] at r
          exact r
      · obtain ⟨q2, h1, h2⟩ := hre2 i z hz
        rw [hq] at h1
        cases h1
        exact h2
    · subst hus
      exact ⟨(show 2 ≤ 100000 by decide), fun B6 t e6 ht => ⟨en, hen, t, b, l2, rs, rfl, ht, key_mono hkb (e5.trans e6), e6 _ _ h1, rats_mono h2 e6, h3⟩⟩
  have hys' : Paired (EnAt K H2 B') ys es := paired_of (by rw [hyl, hrl]) fun i y e hy he => by
    obtain ⟨en, g1, g2⟩ := hre i y hy
    rw [he] at g1
    cases g1
    exact g2
  have hlD : ∀ v ∈ ys, ∀ T bb l, v = .ref T → B' T = some (.tup [.ref bb, .ref l]) → l ≠ D := fun v hv T' bb l hvT hT z => by
    obtain ⟨e, _, T2, b2, l2, ws2, h1, h2, _, h4, _, _⟩ := paired_any hys' v hv
    rw [hvT] at h1
    cases h1
    rw [hT] at h2
    cases h2
    rw [z, bD] at h4
    cases h4
  have eD : Ex B' (upd B' D (.lst ys)) := Ex.new bD
  have hys : Paired (EnAt K H2 (upd B' D (.lst ys))) ys es := paired_mono hys' fun _ _ z => z.mono eD
  have hlD : ∀ v ∈ ys, ∀ T bb l, v = .ref T → upd B' D (.lst ys) T = some (.tup [.ref bb, .ref l]) → l ≠ D := fun v hv T' bb l hvT hT => by
    refine hlD v hv T' bb l hvT ?_
    have : T' ≠ D := fun z => by rw [z, upd_same] at hT; cases hT
    rwa [upd_ne this] at hT
  have hD4 : upd B' D (.lst ys) D = some (.lst ys) := upd_same
  generalize upd B' D (.lst ys) = B4 at s4 w4 hys hlD hD4
  clear hys' hre eD bD eB'
  have hyl2 : ys.length = es.length := by rw [hyl, hrl]
  have hein : Paired (EinAt K B4 B4) ys es := paired_mono hys fun _ _ z => z.ein
  -- what is kept
  refine gwq_asg (ms := []) (W := W0) (B := B4) (R := fun v B5 => Dp K B5 v (.list (es.map keptD))) w4.1 (gw_kept rfl hD4 hein (by omega) fun e he => by have := hlen5 e he; omega) fun v15 B5 H5 s5 w5 hk15 => ?_
  have hD5 := s5.base _ _ hD4
  have hein5 := paired_mono hein fun _ _ z => einb_mono z s5.base
  have hzz : ∀ e ∈ es, 1 + e.2.length * (20 + 1) ≤ 8000 ∧ ∀ q ∈ e.2, Sz 20 q := fun e he => by
    have := hlen5 e he
    exact ⟨by omega, (hok e he).z⟩
  -- the try
  refine gws_planB (K := K) 20 w5 rfl (w5 _ _ hD5) hein5 (by omega) (by decide) hzz (fun hb v16 B6 H6 s6 h16 => ?_) fun i hi d H6 x6 hd6 => ?_
  · have hbv : bv es = .non := by unfold bv; rw [hb]
    rw [hbv]
    have dok := dr_of hok hb
    have s36 : Stp [] B3 H2 B6 H6 := s4.trans (s5.trans s6)
    have e46 : Ex B4 B6 := s5.base.trans s6.base
    have hk6 := dp_mono s6.base hk15
    dsimp only
    -- due
    refine gwq_lcE (H0 := H6) (B := B6) (Re := fun i v B => ∃ e, es[i]? = some e ∧ DueAt K B v e) (wa_refl s6.in_) (ev_var rfl) (sq_of (s36.base _ _ hL)) (by omega) (fun i v B1 B2 e ⟨en, g1, g2⟩ => ⟨en, g1, g2.mono e⟩) (fun i y hy B7 e7 => ?_) fun Dd ds B' H7 nDd s7 w7 bDd eB7 hdl hre => ?_
    · obtain ⟨en, hen, T', b, l, ls, rfl, hT, hkb, hl, hls⟩ := paired_get (hrw.mono (s36.base.trans e7)) hy
      refine LcE.pair (st_of hT) rfl ?_
      refine gw_tup (S := fun us B8 => ∃ t, us = [.ref b, .ref t] ∧ B8 t = some (.tup ls)) (gw_c1 (v := .ref b) (ev_var rfl) (gw_cons (R1 := fun v B8 => ∃ t, v = .ref t ∧ B8 t = some (.tup ls)) ?_ fun x B8 e8 ⟨t, hx, h1⟩ => gw_nil fun B9 e9 => ⟨t, by rw [hx], e9 _ _ h1⟩)) fun us B8 e8 ⟨t, hus, h1⟩ => ?_
      · refine gw_cb (S := fun xs _ => xs = [.ref l]) (gw_c1 (ev_var rfl) (gw_nil fun _ _ => rfl)) fun xs B8 e8 hx => ?_
        subst hx
        intro B9 H9 e9 w9 Q q
        refine ⟨l, ls, rfl, .inl ⟨sq_of (w9.1 _ _ ((e8.trans e9) _ _ hl)), fun t nt => ?_⟩⟩
        obtain ⟨s10, w10⟩ := Wld.new (ms := []) (W := WA H6) (o := .tup ls) w9 nt
        exact q _ _ _ s10 w10 ⟨t, rfl, upd_same⟩
      · subst hus
        exact ⟨(show 2 ≤ 100000 by decide), fun B9 T2 e9 hT2 => ⟨en, hen, T2, b, t, ls, rfl, hT2, key_mono hkb (e8.trans e9), e9 _ _ h1, hls.mono (e8.trans e9)⟩⟩
    have hds : Paired (DueAt K (upd B' Dd (.lst ds))) ds es := paired_of (by rw [hdl, hrl]) fun i y e hy he => by
      obtain ⟨en, g1, g2⟩ := hre i y hy
      rw [he] at g1
      cases g1
      exact g2.mono (Ex.new bDd)
    have hDd : upd B' Dd (.lst ds) Dd = some (.lst ds) := upd_same
    generalize upd B' Dd (.lst ds) = B7 at s7 w7 hds hDd
    clear bDd eB7 hre
    have e67 := s7.base
    have s37 := s36.trans s7
    have hdue7 : Dp K B7 (.ref Dd) (.list (es.map rowD)) := .lst (sq_of hDd) (dues_dp hds)
    have h167 := h16.mono e67
    have z5 : ∀ e ∈ es, e.2.length ≤ 1000 := fun e he => by have := hlen5 e he; omega
    have hdep := rows_dep hok (by omega)
    refine gwq_when (ms := []) (W := W0) (B := B7) (R := fun (b : Bool) _ => b = false) w7.1 (gw_orF (gw_tC (b := false) ?_) fun B8 e8 => gw_orF (gw_tC (b := false) ?_) fun B9 e9 => gw_notF (gw_tBC (b := true) ?_)) (fun _ _ _ _ hb => Bool.noConfusion hb) fun B8 H8 s8 w8 _ => ?_
    · exact (gw_val (ev_op (ev_var rfl) ev_c fun H1 _ Q q => ⟨rfl, q H1 (Ex.refl _)⟩)).imp fun v B8 e8 hv => by rw [hv, decide_eq_true rfl]; rfl
    · have e48 := e46.trans (e67.trans e8)
      exact gw_neD (gw_dp rfl (dp_mono (e67.trans e8) hk6)) (fun B9 e9 => gw_kept rfl ((e48.trans e9) _ _ hD4) (paired_mono hein fun _ _ z => einb_mono z (e48.trans e9)) (by omega) z5) (kept_shaped hklay)
    · have e79 := e8.trans e9
      exact (gw_same (d := .list (es.map rowD)) (e := .list (es.map rowD)) (gw_cons (gw_told rfl (h167.mono e79) (by omega) z5) fun x B10 e10 hx => gw_cons (gw_dp rfl (dp_mono (e79.trans e10) hdue7)) fun y B11 e11 hy => gw_nil fun B12 e12 => ⟨x, y, rfl, dp_mono (e11.trans e12) hx, dp_mono e12 hy⟩) hdep).imp fun v B10 e10 hv => by rw [hv, same_t rfl]
    have s38 := s37.trans s8
    have e48 := e46.trans (e67.trans s8.base)
    have hN6 : NewL (SE D ys B4) H2 B6 := se_new hD4 nD hys e46
    have hN : NewL (SE D ys B4) H2 B8 := se_new hD4 nD hys e48
    have nSd : ¬ SE D ys B4 Dd := fun z => by
      obtain ⟨xs, hx⟩ := hN6.l Dd z
      rw [s6.in_ _ _ hx] at nDd
      cases nDd
    have hl4 := se_len (D := D) hys hlen5
    -- the lots are changed
    refine ⟨fun σ H' => ∃ (u5 u13 : Option V), (∀ b o, ¬ SE D ys B4 b → H8 b = some o → H' b = some o) ∧ H' D = some (.lst ys) ∧ (∀ l, SE D ys B4 l → l ≠ D → ∃ ws, H' l = some (.lst ws)) ∧ σ = [some (.ref a), some (.ref p), some (.ref L), some .non, u4, u5, u6, u7, none, u9, none, none, none, u13, some (.ref D), some v15, some v16, none, some (.ref Dd), none, none, none, none, none, none], ?_, ?_⟩
    · refine ⟨_, rfl, D, rfl, ⟨_, sq_of (w8 _ _ (e48 _ _ hD4))⟩, for_it (walk_list (xs := ys)) (fun j σ H' => ∃ (u5 u13 : Option V), (∀ b o, ¬ SE D ys B4 b → H8 b = some o → H' b = some o) ∧ H' D = some (.lst ys) ∧ (∀ l, SE D ys B4 l → l ≠ D → ∃ ws, H' l = some (.lst ws) ∧ ws.length ≤ 5 + j) ∧ σ = [some (.ref a), some (.ref p), some (.ref L), some .non, u4, u5, u6, u7, none, u9, none, none, none, u13, some (.ref D), some v15, some v16, none, some (.ref Dd), none, none, none, none, none, none]) ⟨_, _, fun _ _ _ h => h, w8 _ _ (e48 _ _ hD4), fun l hs hn => ?_, rfl⟩ ?_ ?_ ?_⟩
      · obtain ⟨ws, h1, h2⟩ := hl4 l hs hn
        exact ⟨ws, w8 _ _ (e48 _ _ h1), h2⟩
      · rintro j σ H' _ ⟨_, _, _, hD', _⟩
        exact sq_of hD'
      · rintro j y σ H9 H10 hj ⟨u5', u13', f1, hD9, f3, rfl⟩ ⟨rfl, hy⟩
        obtain ⟨en, hen, T', b, l, ws0, rfl, hT, hkb, hl, hls, _⟩ := paired_get hys hy
        have hSl : SE D ys B4 l := .inr ⟨.ref T', List.mem_of_getElem? hy, T', b, rfl, hT⟩
        have hlD2 := hlD (.ref T') (List.mem_of_getElem? hy) T' b l rfl hT
        have nST : ¬ SE D ys B4 T' := fun z => by
          obtain ⟨xs, hx⟩ := hN.l T' z
          rw [e48 _ _ hT] at hx
          cases hx
        have hT9 := f1 T' _ nST (w8 _ _ (e48 _ _ hT))
        obtain ⟨ws, hw, hwl⟩ := f3 l hSl hlD2
        have eR : Ex (res (SE D ys B4) B8) H10 := fun b o hb => by
          by_cases c : SE D ys B4 b
          · rw [res_in c] at hb; cases hb
          · rw [res_out c] at hb; exact f1 b o c (w8 _ _ hb)
        refine ⟨T', _, rfl, st_of hT9, rfl, _, _, rfl, _, _, rfl, rfl, ?_⟩
        refine ⟨_, rfl, .inl ⟨rfl, _, sq_of hw⟩, ?_⟩
        refine (gw_ratio1 (K := K) (ms := []) (W := W0) (B := res (SE D ys B4) B8) (n := 1) (gw_val ev_c)).go eR fun v B11 H11 s11 w11 hv => ?_
        have x11 : Ex H10 H11 := fun b o h => s11.fr b o (fun z => nomatch z) h
        have hjl : j < 7 := by omega
        refine ⟨l, ws, v, rfl, rfl, x11 _ _ hw, by omega, _, _, fun b o hb ho => ?_, ?_, fun l' hs' hn' => ?_, rfl⟩
        · rw [upd_ne (fun z => hb (by rw [z]; exact hSl))]
          exact x11 _ _ (f1 b o hb ho)
        · rw [upd_ne hlD2.symm]; exact x11 _ _ hD9
        · by_cases c : l' = l
          · rw [c, upd_same]
            exact ⟨_, rfl, by rw [List.length_append, List.length_singleton]; omega⟩
          · rw [upd_ne c]
            obtain ⟨ws', h1, h2⟩ := f3 l' hs' hn'
            exact ⟨ws', x11 _ _ h1, by omega⟩
      · rintro σ H9 ⟨u5', u13', f1, hD9, f3, rfl⟩
        exact ⟨u5', u13', f1, hD9, fun l hs hn => by
          obtain ⟨ws, h1, _⟩ := f3 l hs hn
          exact ⟨ws, h1⟩, rfl⟩
    rintro σ H9 ⟨u5', u13', f1, hD9, f3, rfl⟩
    refine ⟨_, rfl, .inl ⟨rfl, _, sq_of hD9⟩, D, ys, rfl, rfl, hD9, ?_⟩
    have sR : Stp [] B3 H2 (res (SE D ys B4) B8) (upd H9 D (.lst [])) := stp_res hN e3 s38 (fun b o hb ho => by
        rw [upd_ne (fun z => hb (by rw [z]; exact .inl rfl))]
        exact f1 b o hb ho) fun b hb => by
      by_cases c : b = D
      · rw [c, upd_same]; nofun
      · rw [upd_ne c]
        obtain ⟨ws, h1⟩ := f3 b hb c
        rw [h1]; nofun
    have wR : Wd p u (res (SE D ys B4) B8) (upd H9 D (.lst [])) := Wld.st (ms := [p]) w3 sR
    have hLR := sR.base _ _ hL
    have hrwR := hrw.mono sR.base
    have h16R := plan_res hN hview (h167.mono s8.base)
    have hdsR := dues_res hN hview (paired_mono hds fun _ _ z => z.mono s8.base)
    have hDdR : res (SE D ys B4) B8 Dd = some (.lst ds) := (res_out nSd).trans (s8.base _ _ hDd)
    generalize res (SE D ys B4) B8 = R0 at sR wR hLR hrwR h16R hdsR hDdR
    generalize upd H9 D (.lst []) = H10 at sR wR
    have hdueR : Dp K R0 (.ref Dd) (.list (es.map rowD)) := .lst (sq_of hDdR) (dues_dp hdsR)
    clear sR f1 hD9 f3 hN hN6 nSd hl4 s38 e48 s8 w8 h167 hdue7 s37 e67 hDd hds s7 w7 e46 s36 hk6 s6 h16 hein5 hD5 s5 w5 hk15 hein hlD hys hD4 s4 w4 nDd nD hdsR hDdR hL hrw w3 e3
    dsimp only [gName]
    -- entries of the plan
    obtain ⟨x, dx, tt, kt, hv16, hx, _, _⟩ := id h16R
    refine ⟨_, rfl, x, dx, _, hv16, wR.e _ _ hx, rfl, R0, v16, es, by rw [hv16], wR.e, h16R, fun l vs2 H11 nl x11 hl11 he11 => ?_⟩
    have hl2 : vs2.length = es.length := Paired.length he11
    refine ⟨_, rfl, .inl ⟨rfl, _, sq_of hl11⟩, l, vs2, .int 7, rfl, rfl, hl11, by omega, ?_⟩
    have x12 : Ex H10 (upd H11 l (.lst (vs2 ++ [.int 7]))) := fun b o h => by
      rw [upd_ne (ne_of_none h nl)]
      exact x11 _ _ h
    obtain ⟨s12, w12⟩ := Wld.ex (ms := [p]) (W := Wd p u) wR x12
    generalize upd H11 l (.lst (vs2 ++ [.int 7])) = H12 at x12 s12 w12
    clear hl11 he11 x11 x12 s12 nl hl2
    dsimp only [gName]
    have hrows : ∀ {B' : Hp} {σ : L2.St}, Ex R0 B' → σ[2]? = some (some (.ref L)) → GW [p] (Wd p u) (tVar 2 σ) B' (fun v B2 => ∃ a vs, v = .ref a ∧ B2 a = some (.lst vs) ∧ RwsAt K B2 vs es) := fun e hσ => (gw_val (ev_var hσ)).imp fun v B2 e2 hv => ⟨L, vs, hv, (e.trans e2) _ _ hLR, hrwR.mono (e.trans e2)⟩
    refine gwq_when (ms := [p]) (W := Wd p u) (B := R0) (R := fun (b : Bool) _ => b = false) w12 (gw_orF (gw_notF (gw_tBC (b := true) ?_)) fun B8 e8 => gw_notF (gw_tBC (b := true) (gw_sameB (a := decide (es = es)) (b := true) (gw_planEq (gw_plan rfl (h16R.mono e8)) fun B9 e9 => gw_made (gw_dictR (hrows (e8.trans e9) rfl) dok.nd) dok (by omega)) (fun _ _ => gw_val ev_c) (decide_eq_true rfl)))) (fun _ _ _ _ hb => Bool.noConfusion hb) fun B13 H13 s13 w13 _ => ?_
    · exact (gw_same (d := .list (es.map rowD)) (e := .list (es.map rowD)) (gw_cons (gw_told rfl h16R (by omega) z5) fun x B10 e10 hx => gw_cons (gw_dp rfl (dp_mono e10 hdueR)) fun y B11 e11 hy => gw_nil fun B12 e12 => ⟨x, y, rfl, dp_mono (e11.trans e12) hx, dp_mono e12 hy⟩) hdep).imp fun v B10 e10 hv => by rw [hv, same_t rfl]
    have e13 := s13.base
    -- one more
    refine gwq_asg (ms := [p]) (W := Wd p u) (B := B13) (R := fun v B => ∃ b, v = .ref b ∧ KeyAt K B b (viewK moreV)) w13 ?_ fun v20 B14 H14 s14 w14 ⟨mb, hv20, hmb⟩ => ?_
    · refine gw_tup (S := fun us B => ∃ t1 t2, us = [.ref t1, .ref t2] ∧ SqT K B t1 [.str "shown", .int (9 : Nat)] ∧ SqT K B t2 [.str "asked", .int (9 : Nat), .int (2 : Nat)]) (gw_cons (R1 := fun v B => ∃ t, v = .ref t ∧ SqT K B t [.str "shown", .int (9 : Nat)]) (gw_tup (S := fun us _ => us = [.str "shown", .int (9 : Nat)]) (gw_c1 ev_c (gw_c1 ev_c (gw_nil fun _ _ => rfl))) fun us B e hus => ⟨by rw [hus]; exact (show 2 ≤ 100000 by decide), fun B2 t e2 ht => ⟨t, rfl, by rw [hus] at ht; exact st_of ht⟩⟩) fun x B e ⟨t1, hx, h1⟩ => gw_cons (R1 := fun v B => ∃ t, v = .ref t ∧ SqT K B t [.str "asked", .int (9 : Nat), .int (2 : Nat)]) (gw_tup (S := fun us _ => us = [.str "asked", .int (9 : Nat), .int (2 : Nat)]) (gw_c1 ev_c (gw_c1 ev_c (gw_c1 ev_c (gw_nil fun _ _ => rfl)))) fun us B e hus => ⟨by rw [hus]; exact (show 3 ≤ 100000 by decide), fun B2 t e2 ht => ⟨t, rfl, by rw [hus] at ht; exact st_of ht⟩⟩) fun y B2 e2 ⟨t2, hy, h2⟩ => gw_nil fun B3 e3 => ⟨t1, t2, by rw [hx, hy], ex_t (e2.trans e3) h1, ex_t e3 h2⟩) fun us B e ⟨t1, t2, hus, h1, h2⟩ => ?_
      subst hus
      exact ⟨(show 2 ≤ 100000 by decide), fun B2 b e2 hb => ⟨b, rfl, view_key (st_of hb) (.cons ⟨t1, rfl, ex_t e2 h1⟩ (.cons ⟨t2, rfl, ex_t e2 h2⟩ .nil))⟩⟩
    subst hv20
    have e14 := e13.trans s14.base
    have hmore : ∀ e ∈ es, e.1 ≠ viewK moreV := fun e he => more_ne (hok e he)
    -- another dict
    refine gwq_dictR (ms := [p]) (W := Wd p u) (K := K) w14 (ev_var rfl) (e14 _ _ hLR) (hrwR.mono e14) dok.nd fun F kvs H15 s15 w15 nF bF hF hkv => ?_
    have pF : Prv [p] H14 B14 H15 F (NDo P w F kvs) := ⟨nF, bF, hF, fun z => Wld.ne (ms := [p]) w14 z nF⟩
    have hkvl : kvs.length = es.length := Paired.length hkv
    refine gwq_put (w := w) (K := K) (R := fun v B => LvAt B v [1]) w15 (gw_lst (ms := [p]) (W := Wd p u) (B := B14) (S := fun us B => ∃ c, us = [.ref c] ∧ B c = some (.tup [.int 1, .int 1])) (R := fun v B => LvAt B v [1]) (gw_cons (R1 := fun v B => ∃ c, v = .ref c ∧ B c = some (.tup [.int 1, .int 1])) (gw_tup (S := fun us _ => us = [.int 1, .int 1]) (gw_c1 ev_c (gw_c1 ev_c (gw_nil fun _ _ => rfl))) fun us B e hus => ⟨by rw [hus]; exact (show 2 ≤ 100000 by decide), fun B2 t e2 ht => ⟨t, rfl, by rw [hus] at ht; exact ht⟩⟩) fun x B e ⟨c, hx, h1⟩ => gw_nil fun B2 e2 => ⟨c, by rw [hx], e2 _ _ h1⟩) fun us B e ⟨c, hus, h1⟩ => ?_) fun v B16 H16 s16 w16 hv => ?_
    · subst hus
      exact ⟨(show 1 ≤ 100000 by decide), fun B2 l e2 hl => ⟨l, _, rfl, hl, .cons ⟨c, rfl, e2 _ _ h1⟩ .nil⟩⟩
    have pF16 := pF.stp s16
    have hkv16 := hkv.mono s16.base
    have hmb16 := key_mono hmb s16.base
    refine ⟨_, rfl, _, rfl, F, mb, viewK moreV, kvs, rfl, rfl, pF16.h, fun e he => key_mono (hkv16.ks e he) w16.e, key_mono hmb16 w16.e, by omega, ?_⟩
    have hnp : nPut kvs (viewK moreV) mb v = kvs ++ [(viewK moreV, mb, v)] := nPut_new (by
      rw [hkv16.keys]
      intro z
      obtain ⟨e, he, hk⟩ := List.mem_map.mp z
      exact hmore e he hk)
    rw [hnp]
    have hkv17 : LtAt K B16 (kvs ++ [(viewK moreV, mb, v)]) (es ++ [(viewK moreV, [1])]) := paired_app hkv16 (.cons ⟨rfl, hmb16, hv⟩ .nil)
    have pF17 : Prv [p] H14 B16 (upd H16 F (NDo P w F (kvs ++ [(viewK moreV, mb, v)]))) F (NDo P w F (kvs ++ [(viewK moreV, mb, v)])) := pF16.self
    have s17 : Stp [p] B14 H14 B16 (upd H16 F (NDo P w F (kvs ++ [(viewK moreV, mb, v)]))) := (s15.trans s16).mut pF16
    have w17 : Wd p u B16 (upd H16 F (NDo P w F (kvs ++ [(viewK moreV, mb, v)]))) := Wld.put (ms := [p]) w16 pF16.b pF16.nf
    have s18 := s17.take pF17.n0 pF17.b pF17.h
    have w18 : Wd p u (upd B16 F (NDo P w F (kvs ++ [(viewK moreV, mb, v)]))) (upd H16 F (NDo P w F (kvs ++ [(viewK moreV, mb, v)]))) := Wld.keep (ms := [p]) w17 pF17.b pF17.h pF17.nf
    have eF : Ex B16 (upd B16 F (NDo P w F (kvs ++ [(viewK moreV, mb, v)]))) := Ex.new pF17.b
    have hoth : LpAt w K (upd B16 F (NDo P w F (kvs ++ [(viewK moreV, mb, v)]))) (.ref F) (es ++ [(viewK moreV, [1])]) := ⟨F, _, rfl, upd_same, hkv17.mono eF⟩
    generalize upd B16 F (NDo P w F (kvs ++ [(viewK moreV, mb, v)])) = B18 at s18 w18 hoth
    generalize upd H16 F (NDo P w F (kvs ++ [(viewK moreV, mb, v)])) = H18 at s18 w18
    clear pF pF16 pF17 s17 w17 s16 w16 s15 w15 hkv hkv16 hkv17 hF nF bF hnp hv eF hkvl hmb16
    have e18 := e14.trans s18.base
    have hmb18 := key_mono hmb s18.base
    have ok2 : DrOk (es ++ [(viewK moreV, [1])]) := snoc_ok dok hmore more_lay one_lot
    have l2 : (es ++ [(viewK moreV, [(1 : Rat)])]).length ≤ 401 := by rw [List.length_append, List.length_singleton]; omega
    have hoth' : ∀ {B' : Hp} {σ : L2.St}, Ex B18 B' → σ[21]? = some (some (.ref F)) → GW [p] (Wd p u) (tVar 21 σ) B' (fun v B2 => LpAt w K B2 v (es ++ [(viewK moreV, [1])])) := fun e hσ => (gw_val (ev_var hσ)).imp fun v B2 e2 hv => by rw [hv]; exact hoth.mono (e.trans e2)
    have h1618 := h16R.mono e18
    refine gwq_when (ms := [p]) (W := Wd p u) (B := B18) (R := fun (b : Bool) _ => b = false) w18 (gw_orF (gw_notF (gw_tBC (b := true) (gw_sameB (b := false) (gw_planEq (gw_made (hoth' (Ex.refl _) rfl) ok2 l2) fun B9 e9 => gw_plan rfl (h1618.mono e9)) (fun _ _ => gw_val ev_c) (decide_eq_false snoc_ne)))) fun B8 e8 => gw_notF (gw_tBC (b := true) (gw_sameB (b := false) (gw_planEq (gw_plan rfl (h1618.mono e8)) fun B9 e9 => gw_made (hoth' (e8.trans e9) rfl) ok2 l2) (fun _ _ => gw_val ev_c) (decide_eq_false fun z => snoc_ne z.symm)))) (fun _ _ _ _ hb => Bool.noConfusion hb) fun B19 H19 s19 w19 _ => ?_
    have e19 := e18.trans s19.base
    have hmb19 := key_mono hmb18 s19.base
    clear hoth hoth' ok2 l2 hmb hmb18 s19 s18 w18 s14 w14 s13 w13 w12 e18 e14 e13
    have hLen : ∀ {B' : Hp} {σ : L2.St}, Ex R0 B' → σ[2]? = some (some (.ref L)) → GW [p] (Wd p u) (tCB (rLenS K) (tCons (tVar 2) tNil) σ) B' (fun v _ => v = .int (es.length : Nat)) := fun e hσ => by rw [← hrl]; exact gw_lenR hσ (e _ _ hLR)
    have hgt : ∀ {B' : Hp} {σ : L2.St} (m : Nat), Ex R0 B' → σ[2]? = some (some (.ref L)) → GW [p] (Wd p u) (tTest (tOp (rI0 fun i j => .bl (decide (j < i))) (tCB (rLenS K) (tCons (tVar 2) tNil)) (tC (.int (m : Nat)))) σ) B' (fun (c : Bool) _ => c = decide (m < es.length)) := fun m e hσ => gw_tC (gw_op (hLen e hσ) fun x B e2 hx => (gw_val ev_c).imp fun y B2 e3 hy => by
      subst hx hy
      refine gw_ex (v := .bl (decide (m < es.length))) (fun B3 H3 e4 w4 Q q => ⟨_, _, rfl, rfl, ?_⟩) fun _ _ => rfl
      show Q (V.bl (decide ((m : Int) < (es.length : Nat)))) H3
      rw [show decide ((m : Int) < (es.length : Nat)) = decide (m < es.length) from decide_eq_decide.mpr (by omega)]
      exact q H3 (Ex.refl _))
    have keep : ∀ {B' B'' : Hp}, Ex R0 B' → Ex B' B'' → KeyAt K B' mb (viewK moreV) → Ex R0 B'' ∧ KeyAt K B'' mb (viewK moreV) := fun e x hk => ⟨e.trans x, key_mono hk x⟩
    have nodup : (es.map (·.1)).Nodup := dok.nd
    -- all but the last
    refine ⟨fun σ H' => ∃ (B' : Hp) (u22 : Option V), Ex R0 B' ∧ Wd p u B' H' ∧ KeyAt K B' mb (viewK moreV) ∧ σ = [some (.ref a), some (.ref p), some (.ref L), some .non, u4, u5', u6, u7, none, u9, none, none, none, u13', some (.ref D), some v15, some v16, none, some (.ref Dd), some (.ref l), some (.ref mb), some (.ref F), u22, none, none], ?_, ?_⟩
    · refine gws_when (ms := [p]) (W := Wd p u) w19 (hgt 0 e19 rfl) (fun B20 H20 s20 w20 hc => ?_) fun B20 H20 s20 w20 _ => ⟨B20, _, e19.trans s20.base, w20, key_mono hmb19 s20.base, rfl⟩
      have h0 : 0 < es.length := of_decide_eq_true hc.symm
      have e20 := e19.trans s20.base
      have okS : DrOk (es.take (es.length - 1)) := drop_ok dok (List.take_sublist _ _)
      refine gwq_asg (ms := [p]) (W := Wd p u) (B := B20) w20 (gw_made (gw_dictR (es := es.take (es.length - 1)) ((gw_slL (lo := none) (hi := some (-1)) (ev_var rfl) (e20 _ _ hLR) eo_none (eo_some (fun H1 e Q q => ⟨1, rfl, q H1 (Ex.refl _)⟩))).imp fun v B e ⟨l, hv, hl⟩ => ⟨l, _, hv, hl, by rw [cut_last, hrl]; exact paired_take _ (hrwR.mono (e20.trans e))⟩) okS.nd) okS (by rw [List.length_take]; omega)) fun v22 B21 H21 s21 w21 h22 => ?_
      have e21 := e20.trans s21.base
      have h1621 := h16R.mono e21
      refine gws_when (ms := [p]) (W := Wd p u) (B := B21) (R := fun (b : Bool) _ => b = false) w21 (gw_orF (gw_notF (gw_tBC (b := true) (gw_sameB (b := false) (gw_planEq (gw_plan rfl h22) fun B9 e9 => gw_plan rfl (h1621.mono e9)) (fun _ _ => gw_val ev_c) (decide_eq_false (short_ne h0))))) fun B8 e8 => gw_notF (gw_tBC (b := true) (gw_sameB (b := false) (gw_planEq (gw_plan rfl (h1621.mono e8)) fun B9 e9 => gw_plan rfl (h22.mono (e8.trans e9))) (fun _ _ => gw_val ev_c) (decide_eq_false fun z => short_ne h0 z.symm)))) (fun _ _ _ _ hb => Bool.noConfusion hb) fun B22 H22 s22 w22 _ => ⟨B22, _, e21.trans s22.base, w22, key_mono hmb19 (s20.base.trans (s21.base.trans s22.base)), rfl⟩
    clear hmb19 e19 w19
    rintro σ H19 ⟨B19, u22, e19, w19, hmb19, rfl⟩
    -- in reverse
    refine ⟨fun σ H' => ∃ (B' : Hp), Ex R0 B' ∧ Wd p u B' H' ∧ KeyAt K B' mb (viewK moreV) ∧ σ = [some (.ref a), some (.ref p), some (.ref L), some .non, u4, u5', u6, u7, none, u9, none, none, none, u13', some (.ref D), some v15, some v16, none, some (.ref Dd), some (.ref l), some (.ref mb), some (.ref F), u22, none, none], ?_, ?_⟩
    · have okV : DrOk es.reverse := rev_ok dok
      refine gws_when (ms := [p]) (W := Wd p u) (B := B19) (R := fun (b : Bool) _ => b = (decide (1 < es.length) && false)) w19 (gw_andC (hgt 1 e19 rfl) fun B20 e20 hc => (gw_notF (gw_tBC (b := true) (gw_sameB (b := false) (gw_planEq (gw_made (gw_dictR (es := es.reverse) ((gw_revL (ev_var rfl) ((e19.trans e20) _ _ hLR)).imp fun v B e ⟨l, hv, hl⟩ => ⟨l, _, hv, hl, paired_rev (hrwR.mono ((e19.trans e20).trans e))⟩) okV.nd) okV (by rw [List.length_reverse]; omega)) fun B9 e9 => gw_plan rfl (h16R.mono ((e19.trans e20).trans e9))) (fun _ _ => gw_val ev_c) (decide_eq_false (rev_ne (of_decide_eq_true hc) nodup)))))) (fun _ _ _ _ hb => (by rw [Bool.and_false] at hb; exact Bool.noConfusion hb)) fun B20 H20 s20 w20 _ => ⟨B20, e19.trans s20.base, w20, key_mono hmb19 s20.base, rfl⟩
    clear hmb19 e19 w19
    rintro σ H19 ⟨B19, e19, w19, hmb19, rfl⟩
    -- a row at another view
    refine ⟨fun σ H' => ∃ (B' : Hp) (u23 u24 : Option V), Ex R0 B' ∧ Wd p u B' H' ∧ σ = [some (.ref a), some (.ref p), some (.ref L), some .non, u4, u5', u6, u7, none, u9, none, none, none, u13', some (.ref D), some v15, some v16, none, some (.ref Dd), some (.ref l), some (.ref mb), some (.ref F), u22, u23, u24], ?_, ?_⟩
    · refine gws_when (ms := [p]) (W := Wd p u) w19 (hgt 0 e19 rfl) (fun B20 H20 s20 w20 hc => ?_) fun B20 H20 s20 w20 _ => ⟨B20, _, _, e19.trans s20.base, w20, rfl⟩
      have h0 : 0 < es.length := of_decide_eq_true hc.symm
      have e20 := e19.trans s20.base
      have hmb20 := key_mono hmb19 s20.base
      refine gwq_asg (ms := [p]) (W := Wd p u) (B := B20) (R := fun v _ => ∃ r : Nat, v = .int (r : Nat) ∧ r < es.length) w20 ((gw_draw' (P := fun n => n = (es.length : Nat)) rfl ((hLen e20 rfl).imp fun v B e hv => ⟨_, hv, rfl⟩) (fun n hn => by omega)).imp fun v B e ⟨r, n, g1, g2, g3, g4⟩ => ⟨r.toNat, by rw [g1, Int.toNat_of_nonneg g3], by omega⟩) fun v23 B21 H21 s21 w21 ⟨r, hv23, hr⟩ => ?_
      subst hv23
      have e21 := e20.trans s21.base
      have hmb21 := key_mono hmb20 s21.base
      obtain ⟨en, hen⟩ : ∃ en, es[r]? = some en := ⟨_, List.getElem?_eq_getElem hr⟩
      have hem := List.mem_of_getElem? hen
      obtain ⟨y, hy⟩ : ∃ y, vs[r]? = some y := ⟨_, List.getElem?_eq_getElem (by omega)⟩
      have hat : atI vs (r : Nat) = some y := by
        unfold atI
        rw [ixN_nat (by omega)]
        exact hy
      have okM := moved_ok (at_ := r) dok hem (k := viewK moreV) hmore more_lay
      refine gwq_asg (ms := [p]) (W := Wd p u) (B := B21) w21 (gw_made (gw_dictR (es := es.take r ++ [(viewK moreV, en.2)] ++ es.drop (r + 1)) ?_ okM.nd) okM (by rw [List.length_append, List.length_append, List.length_take, List.length_drop, List.length_singleton]; omega)) fun v24 B22 H22 s22 w22 h24 => ?_
      · refine (gw_cat (R := fun xs B => RwsAt K B xs (es.take r ++ [(viewK moreV, en.2)])) (S := fun xs B => RwsAt K B xs (es.drop (r + 1))) ?_ (fun B4 e4 => (gw_slL (lo := some ((r + 1 : Nat) : Int)) (hi := none) (ev_var rfl) ((e21.trans e4) _ _ hLR) (eo_some (fun H1 e Q q => ⟨_, rfl, _, _, rfl, rfl, q H1 (Ex.refl _)⟩)) eo_none).imp fun v B5 e5 ⟨l5, hv, h5⟩ => ⟨l5, _, hv, h5, ?_, ?_⟩) (fun xs B1 B2 e h => h.mono e) (fun xs B1 B2 e h => h.mono e)).imp fun v B5 e5 ⟨l5, xs, ys, hv, hl5, _, _, h1, h2⟩ => ⟨l5, _, hv, hl5, paired_app h1 h2⟩
        · refine (gw_cat (R := fun xs B => RwsAt K B xs (es.take r)) (S := fun xs B => RwsAt K B xs [(viewK moreV, en.2)]) ((gw_slL (lo := none) (hi := some ((r : Nat) : Int)) (ev_var rfl) (e21 _ _ hLR) eo_none (eo_some (ev_var rfl))).imp fun v B5 e5 ⟨l5, hv, h5⟩ => ⟨l5, _, hv, h5, ?_, ?_⟩) (fun B4 e4 => ?_) (fun xs B1 B2 e h => h.mono e) (fun xs B1 B2 e h => h.mono e)).imp fun v B5 e5 ⟨l5, xs, ys, hv, hl5, h6, h7, h8, h9⟩ => ⟨l5, _, hv, hl5, ?_, paired_app h8 h9⟩
          · rw [cut_take (by omega), List.length_take]; omega
          · rw [cut_take (by omega)]; exact paired_take _ (hrwR.mono (e21.trans e5))
          · have e4' := e21.trans e4
            obtain ⟨en2, hen2, T', b, l', ls, hyT, hT, hkb, hl', hls⟩ := paired_get (hrwR.mono e4') hy
            rw [hen] at hen2
            cases hen2
            subst hyT
            refine gw_lst (S := fun us B => ∃ T2, us = [.ref T2] ∧ B T2 = some (.tup [.ref mb, .ref l'])) (gw_cons (R1 := fun v B => ∃ T2, v = .ref T2 ∧ B T2 = some (.tup [.ref mb, .ref l'])) (gw_tup (S := fun us _ => us = [.ref mb, .ref l']) (gw_c1 (ev_var rfl) (gw_c1 (v := .ref l') (ev_ixT (ev_ixL (ev_var rfl) (ev_var rfl) (sq_of (e4' _ _ hLR)) hat) ev_c (st_of hT) rfl) (gw_nil fun _ _ => rfl))) fun us B e hus => ⟨by rw [hus]; exact (show 2 ≤ 100000 by decide), fun B2 t e2 ht => ⟨t, rfl, by rw [hus] at ht; exact ht⟩⟩) fun x B e ⟨T2, hx, h1⟩ => gw_nil fun B2 e2 => ⟨T2, by rw [hx], e2 _ _ h1⟩) fun us B e ⟨T2, hus, h1⟩ => ?_
            subst hus
            exact ⟨(show 1 ≤ 100000 by decide), fun B2 c e2 hc => ⟨c, _, rfl, hc, (show 1 ≤ 10000 by decide), .cons ⟨T2, mb, l', ls, rfl, e2 _ _ h1, key_mono hmb21 (e4.trans (e.trans e2)), (e.trans e2) _ _ hl', hls.mono (e.trans e2)⟩ .nil⟩⟩
          · have a1 := h8.len
            have a2 := h9.len
            rw [List.length_append, a1, a2, List.length_take, List.length_singleton]; omega
        · rw [cut_drop (by omega), List.length_drop]; omega
        · rw [cut_drop (by omega)]; exact paired_drop _ (hrwR.mono ((e21.trans e4).trans e5))
      have e22 := e21.trans s22.base
      have h1622 := h16R.mono e22
      have hne : es.take r ++ [(viewK moreV, en.2)] ++ es.drop (r + 1) ≠ es := moved_ne hr hmore
      refine gws_when (ms := [p]) (W := Wd p u) (B := B22) (R := fun (b : Bool) _ => b = false) w22 (gw_notF (gw_tBC (b := true) ((gw_same (n := 5) (d := .list [.bool false, .bool false]) (e := .list [.bool false, .bool false]) ?_ (dep_two 4 false false)).imp fun v B12 e12 hv => by rw [hv, same_t rfl]))) (fun _ _ _ _ hb => Bool.noConfusion hb) fun B23 H23 s23 w23 _ => ⟨B23, _, _, e22.trans s23.base, w23, rfl⟩
      refine gw_cons (R1 := fun v B12 => Dp K B12 v (.list [.bool false, .bool false])) ?_ fun x B12 e12 hx => gw_cons (R1 := fun v B12 => Dp K B12 v (.list [.bool false, .bool false])) ?_ fun y B13 e13 hy => gw_nil fun B14 e14 => ⟨x, y, rfl, dp_mono (e13.trans e14) hx, dp_mono e14 hy⟩
      · refine gw_lst (S := fun xs _ => xs = [.bl false, .bl false]) (gw_cons (gw_planEq (gw_plan rfl h24) fun B9 e9 => gw_plan rfl (h1622.mono e9)) fun x B12 e12 hx => gw_cons (gw_planEq (gw_plan rfl (h1622.mono e12)) fun B9 e9 => gw_plan rfl (h24.mono (e12.trans e9))) fun y B13 e13 hy => gw_nil fun _ _ => by rw [hx, hy, decide_eq_false hne, decide_eq_false (fun z => hne z.symm)]) fun xs B12 e12 hx => ?_
        subst hx
        exact ⟨(show 2 ≤ 100000 by decide), fun B13 a e13 ha => .lst (sq_of ha) (.cons (.bl _) (.cons (.bl _) .nil))⟩
      · refine gw_lst (S := fun xs _ => xs = [.bl false, .bl false]) (gw_c1 ev_c (gw_c1 ev_c (gw_nil fun _ _ => rfl))) fun xs B12 e12 hx => ?_
        subst hx
        exact ⟨(show 2 ≤ 100000 by decide), fun B13 a e13 ha => .lst (sq_of ha) (.cons (.bl _) (.cons (.bl _) .nil))⟩
    clear hmb19 e19 w19
    rintro σ H19 ⟨B19, u23, u24, e19, w19, rfl⟩
    refine ⟨fun σ H' => ∃ (B' : Hp) (u5 u6 u7 u21 : Option V), Wd p u B' H' ∧ σ = [some (.ref a), some (.ref p), some (.ref L), some .non, u4, u5, u6, u7, none, u9, none, none, none, u13', some (.ref D), some v15, some v16, none, some (.ref Dd), some (.ref l), some (.ref mb), u21, u22, u23, u24], ?_, ?_⟩
    · refine gws_when (ms := [p]) (W := Wd p u) w19 (hgt 0 e19 rfl) (fun B20 H20 s20 w20 hc => ?_) fun B20 H20 s20 w20 _ => ⟨B20, _, _, _, _, w20, rfl⟩
      have h0 : 0 < es.length := of_decide_eq_true hc.symm
      have e20 := e19.trans s20.base
      refine gwq_dictR (ms := [p]) (W := Wd p u) (K := K) w20 (ev_var rfl) (e20 _ _ hLR) (hrwR.mono e20) nodup fun F2 kvs2 H21 s21 w21 nF bF hF hkv => ?_
      have pF : Prv [p] H20 B20 H21 F2 (NDo P w F2 kvs2) := ⟨nF, bF, hF, fun z => Wld.ne (ms := [p]) w20 z nF⟩
      have hkvl : kvs2.length = es.length := Paired.length hkv
      refine ⟨_, rfl, p, u, B20, rfl, w21, fun t Lw ws wh B22 H22 s22 w22 ht hLw hwk => ?_⟩
      refine ⟨t, _, rfl, ex_t w22.e ht, rfl, _, _, rfl, _, _, rfl, rfl, ?_⟩
      dsimp only
      have pF22 := pF.stp s22
      have s2022 := s21.trans s22
      have hkv22 := hkv.mono s22.base
      have e22 := e20.trans s22.base
      clear pF hkv s21 s22 w21 hF nF bF ht
      refine gws_when (ms := [p]) (W := Wd p u) (B := B22) (R := fun (b : Bool) _ => b = (decide (0 < ws.length) && (decide (ws.sum = wh) && !(ws.any fun x => decide (x < 0))))) w22 (gw_andC (gw_tC ?_) fun B e h1 => gw_andC (gw_tC ?_) fun B' e' h2 => gw_tC ?_) (fun B23 H23 s23 w23 hb => ?_) fun B23 H23 s23 w23 _ => ⟨B23, _, _, _, _, w23, rfl⟩
      · refine gw_op (gw_lenR rfl hLw) fun x B10 e10 hx => (gw_val ev_c).imp fun y B11 e11 hy => ?_
        subst hx hy
        refine gw_ex (v := .bl (decide (0 < ws.length))) (fun B12 H12 e12 w12 Q q => ⟨_, _, rfl, rfl, ?_⟩) fun _ _ => rfl
        show Q (V.bl (decide ((0 : Int) < (((ws.map V.int).length : Nat) : Int)))) H12
        rw [List.length_map, show decide ((0 : Int) < ((ws.length : Nat) : Int)) = decide (0 < ws.length) from decide_eq_decide.mpr (by omega)]
        exact q H12 (Ex.refl _)
      · refine gw_op (gw_val (ev_sum (ev_var rfl) (sq_of (e _ _ hLw)))) fun x B11 e11 hx => (gw_val (ev_var rfl)).imp fun y B12 e12 hy => ?_
        subst hx hy
        refine gw_ex (v := .bl (decide (ws.sum = wh))) (fun B13 H13 e13 w13 Q q => ⟨rfl, ?_⟩) fun _ _ => rfl
        rw [show decide (V.int ws.sum = V.int wh) = decide (ws.sum = wh) from decide_eq_decide.mpr ⟨fun z => V.int.inj z, fun z => by rw [z]⟩]
        exact q H13 (Ex.refl _)
      · have hne : ws ≠ [] := fun z => by rw [z] at h1; cases h1
        have hLw11 := (e.trans e') _ _ hLw
        refine gw_op (gw_min (L := Lw) ((gw_val (ev_var rfl)).imp fun v B12 e12 hv => ⟨hv, sq_of (e12 _ _ hLw11)⟩) hne) fun x B12 e12 ⟨m, hx, hm⟩ => (gw_val ev_c).imp fun y B13 e13 hy => ?_
        subst hx hy
        refine gw_ex (v := .bl (!(ws.any fun x => decide (x < 0)))) (fun B14 H14 e14 w14 Q q => ⟨_, _, rfl, rfl, ?_⟩) fun _ _ => rfl
        show Q (V.bl (decide ((0 : Int) ≤ m))) H14
        rw [← hm, show decide ((0 : Int) ≤ m) = !decide (m < 0) by
          by_cases c : m < 0
          · rw [decide_eq_true c, decide_eq_false (by omega)]; rfl
          · rw [decide_eq_false c, decide_eq_true (by omega)]; rfl] at *
        exact q H14 (Ex.refl _)
      · have hb := hb.symm
        simp only [Bool.and_eq_true, decide_eq_true_eq, Bool.not_eq_true'] at hb
        obtain ⟨hb1, hb2, hb3⟩ := hb
        have hne : ws ≠ [] := List.ne_nil_of_length_pos hb1
        have hnn : ∀ x ∈ ws, 0 ≤ x := fun x hx => Int.not_lt.mp fun z => by
          have := List.any_eq_false.mp hb3 x hx
          exact this (decide_eq_true z)
        have hq : LotOk (lotG ws wh) := ⟨lotG_ok hwk hb2 hnn, fun k => lotG_good hwk hne hb2 hnn k, by rw [lotG_len]; exact hwk.len⟩
        have e23 := e22.trans s23.base
        refine gwq_asg (ms := [p]) (W := Wd p u) (B := B23) (R := fun v B => ∃ b e, v = .ref b ∧ e ∈ es ∧ KeyAt K B b e.1) w23 ?_ fun v5 B24 H24 s24 w24 ⟨b, en, hv5, hem, hkb⟩ => ?_
        · refine gw_op (R1 := fun v B => ∃ T b l, ∃ e ∈ es, v = .ref T ∧ B T = some (.tup [.ref b, .ref l]) ∧ KeyAt K B b e.1) (gw_op (gw_val (ev_var rfl)) fun x B e hx => (gw_draw' (P := fun n => n = (es.length : Nat)) rfl ((hLen (e23.trans e) rfl).imp fun v B e hv => ⟨_, hv, rfl⟩) (fun n hn => by omega)).imp fun y B2 e2 ⟨r, n, g1, g2, g3, g4⟩ => ?_) fun x B e ⟨T', b, l, en, hem, hx, hT, hkb⟩ => (gw_val ev_c).imp fun y B2 e2 hy => ?_
          · subst hx g1
            have er := e23.trans (e.trans e2)
            have hrlt : r.toNat < vs.length := by omega
            obtain ⟨y, hy⟩ : ∃ y, vs[r.toNat]? = some y := ⟨_, List.getElem?_eq_getElem hrlt⟩
            obtain ⟨en, hen, T', b, l, ls, rfl, hT, hkb, _, _⟩ := paired_get (hrwR.mono er) hy
            have hat : atI vs r = some (.ref T') := by
              unfold atI
              rw [show r = ((r.toNat : Nat) : Int) by omega, ixN_nat hrlt]
              exact hy
            exact gw_ex (v := .ref T') (fun B3 H3 e3 w3 Q q => ⟨L, vs, r, .ref T', rfl, rfl, sq_of (w3 _ _ ((er.trans e3) _ _ hLR)), hat, q H3 (Ex.refl _)⟩) fun B3 e3 => ⟨T', b, l, en, List.mem_of_getElem? hen, rfl, e3 _ _ hT, key_mono hkb e3⟩
          · subst hx hy
            exact gw_ex (v := .ref b) (fun B3 H3 e3 w3 Q q => ⟨T', _, 0, .ref b, rfl, rfl, st_of (w3 _ _ ((e2.trans e3) _ _ hT)), at0, q H3 (Ex.refl _)⟩) fun B3 e3 => ⟨b, en, rfl, hem, key_mono hkb (e2.trans e3)⟩
        subst hv5
        refine gwq_put (w := w) (K := K) (R := fun v B => LvAt B v (lotG ws wh)) w24 ((gw_less (ws := ws) (wh := wh) (E := fun _ _ _ => False) (cs := [10]) (tw := tVar 7) (j := 10) T ((gw_val (ev_var rfl)).imp fun v B9 e9 hv => ⟨Lw, hv, (s23.base.trans (s24.base.trans e9)) _ _ hLw⟩) hwk.h hwk.len (fun _ => rfl) (fun _ => rfl) (fun _ _ => ev_var rfl))) fun v B25 H25 s25 w25 hv => ?_
        have e2225 := s23.base.trans (s24.base.trans s25.base)
        have pF25 := ((pF22.stp s23).stp s24).stp s25
        have hkv25 := hkv22.mono e2225
        have hkb25 := key_mono hkb s25.base
        refine ⟨_, rfl, _, rfl, F2, b, en.1, kvs2, rfl, rfl, pF25.h, fun e he => key_mono (hkv25.ks e he) w25.e, key_mono hkb25 w25.e, by omega, ?_⟩
        have hset : LtAt K B25 (nPut kvs2 en.1 b v) (setE es en.1 (lotG ws wh)) := lt_set hkv25 (List.mem_map_of_mem (f := (·.1)) hem) hv
        generalize nPut kvs2 en.1 b v = kvs3 at hset
        have pF26 : Prv [p] H20 B25 (upd H25 F2 (NDo P w F2 kvs3)) F2 (NDo P w F2 kvs3) := pF25.self
        have s26 : Stp [p] B20 H20 B25 (upd H25 F2 (NDo P w F2 kvs3)) := (s2022.trans (s23.trans (s24.trans s25))).mut pF25
        have w26 : Wd p u B25 (upd H25 F2 (NDo P w F2 kvs3)) := Wld.put (ms := [p]) w25 pF25.b pF25.nf
        have s27 := s26.take pF26.n0 pF26.b pF26.h
        have w27 : Wd p u (upd B25 F2 (NDo P w F2 kvs3)) (upd H25 F2 (NDo P w F2 kvs3)) := Wld.keep (ms := [p]) w26 pF26.b pF26.h pF26.nf
        have eF : Ex B25 (upd B25 F2 (NDo P w F2 kvs3)) := Ex.new pF26.b
        have hoth : LpAt w K (upd B25 F2 (NDo P w F2 kvs3)) (.ref F2) (setE es en.1 (lotG ws wh)) := ⟨F2, _, rfl, upd_same, hset.mono eF⟩
        generalize upd B25 F2 (NDo P w F2 kvs3) = B27 at s27 w27 hoth
        generalize upd H25 F2 (NDo P w F2 kvs3) = H27 at s27 w27
        have e27 := e20.trans s27.base
        have okE2 : DrOk (setE es en.1 (lotG ws wh)) := setE_ok dok hq
        have hkeys := setE_keys es en.1 (lotG ws wh)
        have lE : (setE es en.1 (lotG ws wh)).length ≤ 401 := by unfold setE; rw [List.length_map]; omega
        have hoth' : ∀ {B' : Hp} {σ : L2.St}, Ex B27 B' → σ[21]? = some (some (.ref F2)) → GW [p] (Wd p u) (tVar 21 σ) B' (fun v B2 => LpAt w K B2 v (setE es en.1 (lotG ws wh))) := fun e hσ => (gw_val (ev_var hσ)).imp fun v B2 e2 hv => by rw [hv]; exact hoth.mono (e.trans e2)
        refine gws_when (ms := [p]) (W := Wd p u) (B := B27) (R := fun (b : Bool) _ => b = false) w27 (gw_notF (gw_tBC (b := true) (gw_sameB (gw_planEq (gw_made (hoth' (Ex.refl _) rfl) okE2 lE) fun B9 e9 => gw_plan rfl (h16R.mono (e27.trans e9))) (fun B9 e9 => gw_dictEq (hoth' e9 rfl) (fun B8 e8 => gw_dictR (hrows (e27.trans (e9.trans e8)) rfl) nodup) hkeys okE2.nd) rfl))) (fun _ _ _ _ hb => Bool.noConfusion hb) fun B28 H28 s28 w28 _ => ⟨B28, _, _, _, _, w28, rfl⟩
    rintro σ H19 ⟨B28, u5, u6, u7, u21, w28, rfl⟩
    exact ⟨_, rfl, p, u, B28, rfl, w28, fun H2 => k H2⟩
  · refine ⟨true, T.em_BadPlan_LossError, fun _ a' na => ⟨⟨rfl, rfl⟩, ?_⟩, fun h => Bool.noConfusion h⟩
    have e56 := w5.trans x6
    have hbv : bv es = .int (i : Nat) := by unfold bv; rw [hi]
    refine gwq_when (ms := []) (W := W0) (B := H6) (R := fun (b : Bool) _ => b = false) (Ex.refl _) (gw_orF (gw_tBC (b := false) ?_) fun B7 e7 => gw_orF (gw_notF (gw_tBC (b := true) ?_)) fun B8 e8 => gw_tC (b := false) ?_) (fun _ _ _ _ hb => Bool.noConfusion hb) fun B7 H7 s7 w7 _ => ?_
    · intro B7 H7 e7 w7 Q q
      refine ⟨_, rfl, by show 6 ≤ sizeLine; decide, fun t nt => ?_⟩
      have x8 := Ex.new (o := .tup [.ref (ga K "BadPaper"), .ref (ga K "BadRatio"), .ref (ga K "BadText"), .ref (ga K "NoPlan"), .ref (ga K "NoShare"), .ref (ga K "TooLarge")]) nt
      refine ⟨t, _, _, false, _, rfl, x8 _ _ (w7 _ _ (e7 _ _ hd6)), upd_same, .cons (.own _) (.cons (.own _) (.cons (.own _) (.cons (.own _) (.cons (.own _) (.cons (.own _) .nil))))), ?_, q _ B7 _ (Stp.ofEx w7 x8) (w7.trans x8) rfl⟩
      simp only [PySem.W.kitAny, T.ki_BadPlan_BadPaper, T.ki_BadPlan_BadRatio, T.ki_BadPlan_BadText, T.ki_BadPlan_NoPlan, T.ki_BadPlan_NoShare, T.ki_BadPlan_TooLarge]
    · exact gw_ex (fun B8 H8 e8 w8 Q q => ⟨_, rfl, _, _, _, _, rfl, w8 _ _ (e8 _ _ (e7 _ _ hd6)), (fun u r => r), T.ki_BadPlan_BadPlan, q H8 (Ex.refl _)⟩) fun _ _ => rfl
    · have e58 := e56.trans (e7.trans e8)
      exact gw_neD (gw_dp rfl (dp_mono e58 hk15)) (fun B9 e9 => gw_kept rfl ((e58.trans e9) _ _ hD5) (paired_mono hein5 fun _ _ z => einb_mono z (e58.trans e9)) (by omega) fun e he => by have := hlen5 e he; omega) (kept_shaped hklay)
    · rw [hbv]
      refine s_ret (v := .bl true) (ev_is (ev_andV (a := true) (b := true) (fun H1 e Q q => ⟨_, rfl, rfl, q H1 (Ex.refl _)⟩) fun _ => fun H1 e1 Q1 q1 => ?_) rfl) fun H10 x10 => k H10
      refine ⟨_, rfl, rfl, rfl, d, _, .int (i : Nat), rfl, e1 _ _ (w7 _ _ (s7.base _ _ hd6)), rfl, _, rfl, (i : Nat), (i : Nat), rfl, fun H2 e2 => ?_⟩
      rw [decide_eq_true rfl]
      exact q1 H2 e2
end
end LL
namespace LL
open PySem PySem.Spec PyProof.Rows L2 He Evl
/-- the end of a law whose defs may let errors out -/
theorem walk_ofX {l : PySem.W.OpenLaw} {n k : Nat} {q : Program} {loose : List Str} {XP : (Str → Option Value) → Heap → Prop} {YP : World → Heap → Prop} {d : DefRec} {CX : World → CXT} {x : Str}
    (hn : l.most = some n) (hn2 : n ≤ sizeLine) (hdf : d.params.defaults = []) (hr : Room k callerA)
    (F : ∀ (w : World) (mg : Str → Option Value) (fa : Addr) (h : Heap), YP w h → h.Ns mainGlobals mg → mg d.name = some (.ref fa) →
      ∃ (K : PySem.W.Frag) (fd : FuncData) (sp : Sp), K.In h ∧ (∀ (s : Shared) (u : Value), BindsTo s fd ⟨[u], []⟩ [(x, u)]) ∧
        (∀ (H : Hp) (a : Addr) (ns : List Int), ns.length ≤ n → Only H → SqL K H a (ns.map V.int) → sp [.ref a] H (fun v _ => v = .bl true) fun _ _ _ => False) ∧
        ∀ base : Heap, K.In base → base.Ns mainGlobals mg → FnOk l.prog w K mg base (CX w) k fa fd [x] sp)
    (hCX : ∀ (w : World) (H : Hp) (s : Shared) (e : Value) (s' : Shared), CX w [] H s (fun _ _ _ => False) e s' → False) :
    PySem.W.WalkO q loose XP YP l.row.toRowW d [] (fun f vs => PySem.call f vs) := by
  refine Att.attach_call hn hdf fun w s₀ s₁ mg mb fa o pm cd doc a vs ns G Y ho hd hcd hmg hobj hints hlen hg => ?_
  obtain ⟨K, fd, sp, KX, hb, hsp, hF⟩ := F w mg fa _ Y G.T.g hmg
  exact law_call KX G.T.g G.T.b G.T.builtins G.T.nolimit hg hobj hints (Nat.le_trans hlen hn2) hr hF hb (fun H hO hS => hsp H a ns hlen hO hS) fun H e s' => hCX w H s₁ e s'
theorem cx_end {P : Program} {w : World} {H : Hp} {s : Shared} {e : Value} {s' : Shared} (h : L2.CX P w [] H s (fun _ _ _ => False) e s') : False := by
  obtain ⟨a, B, H', cls, d, _, _, _, _, _, _, _, q⟩ := h
  exact q
theorem law_facts {w : World} {K : PySem.W.Frag} {h : Heap} {mg : Str → Option Value} {f : Addr} (X : K.In h) (G : h.Ns mainGlobals mg) (hfa : mg ("law" : Str) = some (.ref f)) (T : Txt K mg) :
    ∃ fd : FuncData, (∀ (s : Shared) (v : Value), BindsTo s fd ⟨[v], []⟩ [("_law_script", v)]) ∧ ∀ base : Heap, K.In base → base.Ns mainGlobals mg → FnOk P w K mg base (L2.CX P w) 24 f fd ["_law_script"] (spLaw K) := by
  obtain ⟨fd, F⟩ := T.d_law
  have e := hfa.symm.trans T.g_law
  cases e
  have b := FunD.bindsA (ps := ["_law_script"]) F fun _ _ _ _ _ _ us hl => match us, hl with | [_], _ => rfl
  exact ⟨fd, fun s v => b s [v] rfl, fun base _ _ => ok_law T F⟩
end LL
open PySem PySem.W PySem.Calls PyProof.Rows
set_option maxRecDepth 100000 in
set_option maxHeartbeats 0 in
theorem PySem.Challenge.cw_lostleast_k11_plans_holds : PySem.Challenge.rw_lostleast_k11_plans.Holds := by
  w_on; o_law
  refine HandSHeadRun.head_any (r := LL.R) (q := view LL.R.prog [LL.lawAt]) (H := LL.hk) (ob := LL.ob) (M := 60000) (loose := LL.names) (d := HandSHeadRun.topDef LL.R.prog LL.lawAt) (kwd := []) LL.ob_eq
    (by kernel_rfl) (fun s => by kernel_rfl) LL.run (by kernel_rfl) (by kernel_rfl) (by kernel_rfl) (by rfl) (by first | assumption | decide +kernel) (by decide +kernel) ⟨rfl, rfl, rfl, rfl, rfl, by decide +kernel⟩ ?hw ?hc
  case hw => w_witness2
  case hc =>
    refine LL.walk_ofX (l := PySem.Challenge.rw_lostleast_k11_plans) (n := 63) (k := 24) (x := "_law_script") (CX := fun w => L2.CX (PySem.Challenge.rw_lostleast_k11_plans).prog w) rfl (by decide) (by kernel_rfl) ⟨rfl, by decide, by decide⟩ ?F (fun _ _ _ _ _ z => LL.cx_end z)
    intro w mg fa h Y G hmg0
    obtain ⟨K, KX, c, z⟩ := Y
    have hmg : mg ("law" : PySem.Str) = some (.ref fa) := by
      have e : (HandSHeadRun.topDef LL.R.prog LL.lawAt).name = ("law" : PySem.Str) := by kernel_rfl
      rw [← e]
      exact hmg0
    obtain ⟨fd, hb, hF⟩ := LL.law_facts (w := w) KX G hmg (LL.txt_of KX G c z)
    exact ⟨K, fd, LL.spLaw K, KX, hb, fun H a ns hl _ hS => ⟨a, ns, rfl, hS, hl, fun _ => rfl⟩, hF⟩
#print axioms PySem.Challenge.cw_lostleast_k11_plans_holds
