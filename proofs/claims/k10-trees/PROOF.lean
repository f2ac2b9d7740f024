import PyProof.Rows.All
import Wide.All
import OpenK.AllK
import Wide.FinOn
import KE.KStateDown
import Lean
import HandS.ForMost
import HandS.Exc
import HandS.ExcOwn
import HandS.ExcSuper
import HandS.ExcIs
import HandS.TryOnly
import HandS.WordsExc
import HandS.Defaults
import HandS.MakeKw
import HandS.MakeKwOnly
import HandS.More
import HandS.Star
import HandS.IsInst
import HandS.FStr
import HandS.Wide
import HandS.OwnEq
import HandS.SlotsOwn
import HandS.Evl
import HandS.Head0
import HandS.Head1
import HandS.Head2
import HandS.HeadEnd
import HandS.HeadHook1
import HandS.HeadHook2
import HandS.HeadHook3
import HandS.HeadHook4
import HandS.ExcInit
import HandS.ExcField
import KE.KExcSuper
import KE.KSuper
import HandS.Deep
import HandS.DictTup
import KE.KDictKeyed
import KE.KDictItemsList
import HandS.Conv
import HandS.Codes
import HandS.Walk
import HandS.RaiseMore
import HandS.TupAny
import HandS.Rev
import HandS.Comp
import PyProof.CompFree
import HandS.WrittenGet
import HandS.Style
import HandS.List
import HandS.HotCalls
import KE.KExcIs
import HandS.ExcInitHot
import PySem.Challenge.RW_lostleast_k10_trees
set_option Elab.async false
set_option linter.all false
set_option maxRecDepth 100000
set_option maxHeartbeats 0
set_option exponentiation.threshold 20000
/-! an exception class of the program's whose __init__ says super().__init__(text); self.f = x -/
namespace SupX
open PySem PySem.W PySem.Calls PyProof.Rows PySem.Spec
section
variable {P : Program} {w : World} {A : Around} {h : Heap} {g : Array GenState} {d : Drawn} {t : Nat} {os : OsState} {K : Frag} {mg mb : Str → Option Value}
variable {C fI cc cda e t0 : Addr} {f x : Str} {v : Value} {oc ccl cl : Value} {od cdd cld : Option Addr} {osl ccs csl : Array (Option Value)} {vs : Array Value} {file : Str} {tf : Tok}
variable {name qual : Str} {params : Arguments} {body : List Stmt} {scope : Scope} {dV kV doc pm ct : Value} {an : Option Addr} {ar : Arg}
variable {p0 p1 p2 p3 p4 p5 p6 p7 p8 p9 : Pos} {txt : Str} {ck : Nat}
theorem init_run {R : Result → Shared → Prop} (hroom : A.depth < recursionLimit) (X : K.In h) (hlim : h.NoLimit) (G : h.Ns mainGlobals mg) (hms : mg "super" = none) (B : h.Ns builtinsNs mb) (hbs : mb "super" = some (.type "super"))
    (T : L2.OexC K C) (lk : K.lookup fI = some ⟨oc, od, .func (ksFn name qual params body scope dV kV doc pm an (.ref cda) ct cc), osl⟩) (hcd : codeIn K (.ref cda) qual = true)
    (hcode : K.lookup cda = some ⟨ccl, cdd, .fields vs, ccs⟩) (hvs : vs[2]? = some (.str file tf)) (hfile : ((P.main.file : Str) == file) = true) (hcell : K.lookup cc = some ⟨cl, cld, .cell (some (.ref C)), csl⟩)
    (hsup : ks_superIn K C C "__init__" = some (some (.builtin "ValueError.__init__"))) (hsub : mroIn K C (.ref C) = some true) (hVE : subIn K (.ref C) (.type "ValueError") = some true) (hany : nsIn K cStatics "thirdparty.any" = some none)
    (hf : findIn K (.ref C) f = some none) (hcls : ∃ oC cd, h.get? C = some oC ∧ oC.data = .cls cd)
    (htop : (P.main.scope.names.lookup ("super" : Str)).isSome = false)
    (hb : ∀ s : Shared, BindsTo s (ksFn name qual params body scope dV kV doc pm an (.ref cda) ct cc) ⟨[.ref e, v], []⟩ [("self", .ref e), (x, v)])
    (hp : (params.posonlyargs ++ params.args).head? = some ar) (har : ar.arg = ("self" : Str))
    (hbody : body = [.Expr (.Call (.Attribute (.Call (.Name "super" p0) [] [] p1) "__init__" p2) [.Constant (.str txt) ck p3] [] p4) p5, .Assign [.Attribute (.Name "self" p6) f p7] (.Name x p8) p9])
    (sk : scope.kind = .function) (sco : scope.isCoroutine = false) (sge : scope.isGenerator = false) (ss : scope.names.lookup ("super" : Str) = some .globalImplicit) (sc : scope.names.lookup ("__class__" : Str) = some .free)
    (sl : scope.names.lookup ("self" : Str) = some .local) (sx : scope.names.lookup x = some .local) (scell : ∀ y ∈ scope.names, y.2 ≠ .cell) (hxs : ¬ x = ("self" : Str)) (hxd : (x == ("__debug__" : Str)) = false)
    (k1 : ∀ L, interactive (ksEnv qual scope L fI (.ref cda) cc) = false)
    (k2 : ∃ pl : Sem Bool, ∀ L, eval (.Call (.Attribute (.Call (.Name "super" p0) [] [] p1) "__init__" p2) [.Constant (.str txt) ck p3] [] p4) (ksEnv qual scope L fI (.ref cda) cc) = (do
      let ov ← attributeBase (.Call (.Name "super" p0) [] [] p1) "__init__" (ksEnv qual scope L fI (.ref cda) cc) (eval (.Call (.Name "super" p0) [] [] p1) (ksEnv qual scope L fI (.ref cda) cc))
      standAt p2.atName
      let (f, first) ← holding [ov] (getMethod ov "__init__" pl)
      callWith p4 f first (backTo p4 (starEach [.Constant (.str txt) ck p3] (ksEnv qual scope L fI (.ref cda) cc))) []))
    (k3 : ∀ L, swapsWith (.Call (.Attribute (.Call (.Name "super" p0) [] [] p1) "__init__" p2) [.Constant (.str txt) ck p3] [] p4) none p5.line (ksEnv qual scope L fI (.ref cda) cc) = pure false)
    (k4 : ∀ L, swapsWith (.Name x p8) (some (.Attribute (.Name "self" p6) f p7)) p9.line (ksEnv qual scope L fI (.ref cda) cc) = pure false)
    (he : h.get? e = some (HandSPX.excO C t0)) (hKe : ∀ o, K.lookup e ≠ some o)
    (hq : ∀ h' t' dx t1, (∀ b o, b ≠ e → h.get? b = some o → h'.get? b = some o) → h.objs.size ≤ dx → dx ≠ e → h'.get? e = some { cls := .ref C, dict := some dx, data := .fields #[.ref t1, .none, .none, .none, .bool false, .none] } →
      h'.Ns1 dx (fun y => if y = f then some v else none) → R (.ok (.ret .none)) ⟨h', g, d, t', os⟩) :
    codeAny (model P w) A (.call (.ref fI) ⟨[.ref e, v], []⟩) R ⟨h, g, d, t, os⟩ := by
  have hloc : ∀ y ∈ [(("self" : Str), Value.ref e), (x, v)], scope.names.lookup y.1 = some .local := by
    intro y hy
    simp only [List.mem_cons, List.not_mem_nil, or_false] at hy
    rcases hy with rfl | rfl
    · exact sl
    · exact sx
  refine ks_codeAny_call_defAt (body := body) hroom (X _ _ lk) rfl hlim (codeRec_of X hcd) rfl (hb _) scell hloc (fun h0 hns k0 => ?_) sco sge sk
  subst hbody
  have X0 : K.In h0 := X.keeps k0
  have eC := k0 _ _ he
  obtain ⟨oC, cdC, hC1, hC2⟩ := hcls
  have hnL : h0.Ns h.objs.size (fun y => [(("self" : Str), Value.ref e), (x, v)].reverse.lookup y) := hns
  have em : ∀ y, [(("self" : Str), Value.ref e), (x, v)].reverse.lookup y = if y = x then some v else if y = ("self" : Str) then some (.ref e) else none := by
    intro y
    show [(x, v), (("self" : Str), Value.ref e)].lookup y = _
    by_cases h1 : y = x
    · subst h1; simp [List.lookup]
    · have e1 : (y == x) = false := by simpa using h1
      rw [if_neg h1]
      by_cases h2 : y = ("self" : Str)
      · subst h2; simp [List.lookup, e1]
      · have e2 : (y == ("self" : Str)) = false := by simpa using h2
        rw [if_neg h2]
        simp [List.lookup, e1, e2]
  have hns1 : h0.Ns h.objs.size (fun y => if y = x then some v else if y = ("self" : Str) then some (.ref e) else none) := by
    have := hnL
    rw [show (fun y => [(("self" : Str), Value.ref e), (x, v)].reverse.lookup y) = _ from funext em] at this
    exact this
  have hself : (fun y => if y = x then some v else if y = ("self" : Str) then some (Value.ref e) else none) ("self" : Str) = some (.ref e) := by
    show (if ("self" : Str) = x then _ else _) = _
    rw [if_neg (fun z => hxs z.symm), if_pos rfl]
  have hxv : (fun y => if y = x then some v else if y = ("self" : Str) then some (Value.ref e) else none) x = some v := if_pos rfl
  obtain ⟨pl, hpl⟩ := k2
  have hLe : h.objs.size ≠ e := Nat.ne_of_gt (Heap.lt_size he)
  refine ks_wpAt_execs_cons (ks_wpAt_Expr_any (ks_wpAt_MethodCall (pl := pl) ?_ (hpl _)) (k1 _) (k3 _))
  · refine ks_wpAt_super_base (env := callEnv (ksFn name qual params _ scope dV kV doc pm an (.ref cda) ct cc) h.objs.size fI) ss sc (by decide) rfl (X0 _ _ lk) rfl hp rfl (X0 _ _ hcode) rfl hvs hfile htop ?_
    refine ks_loadName_global sk ss (loadGlobal_builtin (G.keeps k0) hms (B.keeps k0) hbs ⟨rfl, ?_⟩)
    refine wpAny_loadName_free sk sc (c := cc) (v := .ref C) rfl ⟨_, X0 _ _ hcell, rfl⟩ ?_
    rw [har]
    refine wpAny_loadName_local sk sl hns1 (v := .ref e) hself ?_
    refine ks_wpAny_isType_cls (k0 _ _ hC1) hC2 ⟨rfl, ?_⟩
    refine ks_wpAny_call_super (k0 _ _ hC1) hC2 eC rfl (fun c z => nomatch z) (looks_mroIn X0 hsub) fun h1 hso k1' => ?_
    have X1 : K.In h1 := X0.keeps k1'
    have e1 := k1' _ _ eC
    have ns1 := hns1.keeps k1'
    -- the method
    have I1 : InstAt h1 e (HandSPX.excO C t0) C none := ⟨e1, rfl, rfl, trivial⟩
    have hI : Looks (model P w) h1 (isInstance (.ref e) (.type "ValueError")) true := I1.type.andThen (looks_subIn X1 hVE)
    cases hc : clsIn K C with
    | none => unfold ks_superIn at hsup; rw [hc] at hsup; cases hsup
    | some cd =>
      have hsup' := hsup
      unfold ks_superIn at hsup'
      rw [hc] at hsup'
      refine kxs_getMethod kxs_ValueError hso (looks_opaque X1 hany) (l₀ := cd.mro) ?_ rfl X1 hsup' hI (ks_ne X1 I1 hc) (by decide) ?_
      · exact fun A Q E s k q => wpAny_bind ((looks_clsIn X1 hc) A _ E s k (wpAny_pure q))
      -- the call
      have k2 : ∀ b o, h1.get? b = some o → (h1.push (kxs_mw "ValueError.__init__" e)).get? b = some o := fun b o z => Heap.get?_push_of_some _ z
      have hmw : (h1.push (kxs_mw "ValueError.__init__" e)).get? h1.objs.size = some (kxs_mw "ValueError.__init__" e) := Heap.get?_push_size _ rfl
      refine kxs_callWith (i := "ValueError.__init__") (x := e) rfl (evalArgs_plain ?_)
      refine spliced_cons (Constant_str (k := ck) (pos := p3) (spliced_nil ⟨hmw, ?_⟩))
      obtain ⟨nm, q, N, bs, bm, sn, sub, ab, col, dd, z0, z1, z2, z3, z5, hCl, hbm⟩ := T.cls
      have FB := F.excBase_ValueError
      have X2 : K.In (h1.push (kxs_mw "ValueError.__init__" e)) := X1.keeps k2
      have e2 := k2 _ _ e1
      have ns2 := ns1.keeps k2
      have k02 : ∀ b o, h.get? b = some o → (h1.push (kxs_mw "ValueError.__init__" e)).get? b = some o := fun b o z => k2 b o (k1' b o (k0 b o z))
      generalize h1.push (kxs_mw "ValueError.__init__" e) = h2 at X2 e2 ns2 k02 hmw ⊢
      refine wpAny_call (codeAny_of_tree ?_)
      show wpAny _ _ (callAny (.ref h1.objs.size) ⟨_, []⟩) _ _ _
      simp only [callAny]
      refine wpAny_bind (wpAny_load hmw ?_)
      simp only [kxs_mw, show (Value.type "method-wrapper" == Value.type "method" || Value.type "method-wrapper" == Value.type "builtin_function_or_method" || Value.type "method-wrapper" == Value.type "method-wrapper") = true by decide, if_true]
      refine KFB.if_so (by decide) ?_
      refine wpAny_bind (check_bound_init FB.toExcCallFacts (X2 _ _ hCl) e2 rfl ?_)
      refine wpAny_bind (wpAny_pure (wpAny_pure ?_))
      refine ⟨plainId_quiet FB.init.plain _, codeAny_builtin FB.initEntry ?_⟩
      refine exc_init_tree (cls := .ref C) (t0 := t0) (dv := none) (c2 := .none) (c3 := .none) (b4 := .bool false) e2 (by show 1 ≤ sizeLine; decide) fun h3 kk3 e3 _ => ?_
      -- self.f = x
      have X3 : K.In h3 := fun b o z => by
        refine kk3 b o (fun y => ?_) (X2 _ _ z)
        subst y
        exact hKe o z
      have ns3 : h3.Ns h.objs.size _ := let ⟨oL, es, ep, hL, r⟩ := ns2; ⟨oL, es, ep, kk3 _ _ hLe hL, r⟩
      have k03 : ∀ b o, b ≠ e → h.get? b = some o → h3.get? b = some o := fun b o y z => kk3 b o y (k02 b o z)
      refine wpAt_of_wpAny (wpAny_execs_cons (plainObj_wpAny_Assign_Attribute ?_ (k4 _)))
      refine wpAny_Name (wpAny_loadName_local sk sx ns3 (v := v) hxv ?_) hxd
      refine wpAny_Name (wpAny_loadName_local sk sl ns3 (v := .ref e) hself ?_) (by decide)
      refine set_plain (ox := { cls := .ref C, data := .fields #[.ref h2.objs.size, .none, .none, .none, .bool false, .none] }) (od := none) X3 ⟨e3, rfl, rfl, trivial⟩ T.sa ?_
      have hcl : clsIn K C = some { name := nm, bases := bs, mro := .ref C :: bm, ns := N, qualname := q, hasDict := true, slotNames := sn, subclasses := sub, abstract := ab, collection := col, hasDel := false } := by unfold clsIn; rw [hCl] <;> rfl
      refine HandSPX.exc_osa X3 e3 hcl (show HandSPX.refsVE (.ref C :: bm) = true from hbm) rfl hf fun h4 t4 dx kk4 dn dne e4 ns4 => ?_
      refine wpAny_execs_nil (hq h4 _ dx _ (fun b o y z => kk4 b o y (k03 b o y z)) (Nat.le_trans ?_ dn) dne e4 ns4)
      obtain ⟨oL, es, ep, hL, r⟩ := ns3
      exact Nat.le_of_lt (Heap.lt_size hL)
end
/-! ### what is asked of the written part -/
def oexB (K : Frag) (C : Addr) : Bool := match K.lookup C with
  | some ⟨.type "type", _, .cls cd, sl⟩ => (match cd.mro, sl.toList with
    | .ref C' :: bm, [_, _, _, _, some (.builtin n), _] => C' == C && n == "ValueError.__new__" && !cd.hasDel && cd.hasDict && HandSPX.refsVE bm
    | _, _ => false)
  | _ => false
theorem oexB_ok {K : Frag} {C : Addr} (q : oexB K C = true) : ∃ nm q N bs bm sn sub ab col dd k0 k1 k2 k3 k5, K.lookup C = some (excClassObj nm q C N bs bm true sn sub ab col dd k0 k1 k2 k3 k5 "ValueError.__new__") ∧ HandSPX.refsVE bm = true := by
  unfold oexB at q
  split at q
  · rename_i dd cd sl ho
    split at q
    · rename_i C' bm k0 k1 k2 k3 n k5 hm hs
      simp only [Bool.and_eq_true, beq_iff_eq, Bool.not_eq_true'] at q
      obtain ⟨⟨⟨⟨rfl, rfl⟩, hdel⟩, hdi⟩, ht⟩ := q
      obtain ⟨nm, bs, mro, ns, qn, hd, sn, sub, ab, col, del⟩ := cd
      dsimp only at hm hdel hdi
      subst hm hdel hdi
      have hsl : sl = #[k0, k1, k2, k3, some (.builtin "ValueError.__new__"), k5] := by
        obtain ⟨l⟩ := sl
        simp only at hs
        rw [hs]
      subst hsl
      exact ⟨nm, qn, ns, bs, bm, sn, sub, ab, col, dd, k0, k1, k2, k3, k5, ho, ht⟩
    · cases q
  · cases q
abbrev FnZ : Type := Option (Str × Str × Arguments × FuncBody × Scope × Addr × List Str × Addr)
/-- the class's __init__, as it is written -/
def fz (K : Frag) (C : Addr) : FnZ := match findIn K (.ref C) "__init__" with
  | some (some (.ref fI)) => (match K.lookup fI with
    | some ⟨_, _, .func fd, _⟩ => some (fd.name, fd.qualname, fd.params, fd.body, fd.scope, fd.globals, fd.closure.map (·.1), fd.builtins)
    | _ => none)
  | _ => none
/-- the rest of what is asked of the function at fI -/
def fnB (file : Str) (K : Frag) (C fI : Addr) : Bool := match K.lookup fI with
  | some ⟨_, _, .func fd, _⟩ => (match fd.closure, fd.code, fd.defaults with
    | [(_, cc)], .ref cda, .none => codeIn K (.ref cda) fd.qualname && ((match K.lookup cda with
      | some ⟨_, _, .fields vs, _⟩ => (match (vs[2]? : Option Value) with
        | some (Value.str fl _) => file == fl
        | _ => false)
      | _ => false) && (match K.lookup cc with
      | some ⟨_, _, .cell (some (.ref C')), _⟩ => C' == C
      | _ => false))
    | _, _, _ => false)
  | _ => false
def eqT {α : Type} [DecidableEq α] (a b : α) : Bool := decide (a = b)
def eqV : Option (Option Value) → Option (Option Value) → Bool
  | none, none => true
  | some none, some none => true
  | some (some a), some (some b) => a == b
  | _, _ => false
def supB (file : Str) (K : Frag) (C : Addr) (f : Str) : Bool := oexB K C && ((match findIn K (.ref C) "__init__" with
  | some (some (.ref fI)) => fnB file K C fI && (typeIn K (.ref fI) == some (.type "function"))
  | _ => false) && ((match findIn K (.ref C) "__setattr__" with
  | some (some (.builtin n)) => n == "object.__setattr__"
  | _ => false) && ((subIn K (.ref C) (.type "BaseException") == some true) && ((typeIn K (.ref C) == some (.type "type")) && (keepIn K (.ref C) && ((match ks_superIn K C C "__init__" with
  | some (some (.builtin n)) => n == "ValueError.__init__"
  | _ => false) && ((mroIn K C (.ref C) == some true) && ((subIn K (.ref C) (.type "ValueError") == some true) && ((match nsIn K cStatics "thirdparty.any" with
  | some none => true
  | _ => false) && (match findIn K (.ref C) f with
  | some none => true
  | _ => false))))))))))
/-- a class whose __init__(self, x) says super().__init__(text); self.f = x -/
structure SupC (P : Program) (K : Frag) (C : Addr) (f : Str) : Prop where
  oex : L2.OexC K C
  fn : ∃ fI, findIn K (.ref C) "__init__" = some (some (.ref fI)) ∧ typeIn K (.ref fI) = some (.type "function") ∧ ∀ (w : World) (A : Around) (h : Heap) (g : Array GenState) (d : Drawn) (t : Nat) (os : OsState) (mg mb : Str → Option Value) (e t0 : Addr) (v : Value) (R : Result → Shared → Prop),
    A.depth < recursionLimit → K.In h → h.NoLimit → h.Ns mainGlobals mg → mg "super" = none → h.Ns builtinsNs mb → mb "super" = some (.type "super") → h.get? e = some (HandSPX.excO C t0) → (∀ o, K.lookup e ≠ some o) →
    (∀ h' t' dx t1, (∀ b o, b ≠ e → h.get? b = some o → h'.get? b = some o) → h.objs.size ≤ dx → dx ≠ e → h'.get? e = some { cls := .ref C, dict := some dx, data := .fields #[.ref t1, .none, .none, .none, .bool false, .none] } →
      h'.Ns1 dx (fun y => if y = f then some v else none) → R (.ok (.ret .none)) ⟨h', g, d, t', os⟩) → codeAny (model P w) A (.call (.ref fI) ⟨[.ref e, v], []⟩) R ⟨h, g, d, t, os⟩
theorem sup_of {P : Program} {K : Frag} {C : Addr} {f x : Str} {name qual : Str} {params : Arguments} {body : List Stmt} {scope : Scope} {ar : Arg} {p0 p1 p2 p3 p4 p5 p6 p7 p8 p9 : Pos} {txt : Str} {ck : Nat}
    (sb : supB P.main.file K C f = true) (ez : fz K C = some (name, qual, params, FuncBody.stmts body, scope, mainGlobals, [("__class__" : Str)], builtinsNs))
    (htop : (P.main.scope.names.lookup ("super" : Str)).isSome = false)
    (hb : ∀ (cl : List (Str × Addr)) (kV doc pm : Value) (an : Option Addr) (cdv ct : Value) (a b : Value), bindArgs (fnX name qual params body scope cl .none kV doc pm an cdv ct) ⟨[a, b], []⟩ = pure [(("self" : Str), a), (x, b)])
    (hp : (params.posonlyargs ++ params.args).head? = some ar) (har : ar.arg = ("self" : Str))
    (hbody : body = [.Expr (.Call (.Attribute (.Call (.Name "super" p0) [] [] p1) "__init__" p2) [.Constant (.str txt) ck p3] [] p4) p5, .Assign [.Attribute (.Name "self" p6) f p7] (.Name x p8) p9])
    (sk : scope.kind = .function) (sco : scope.isCoroutine = false) (sge : scope.isGenerator = false) (ss : scope.names.lookup ("super" : Str) = some .globalImplicit) (sc : scope.names.lookup ("__class__" : Str) = some .free)
    (sl : scope.names.lookup ("self" : Str) = some .local) (sx : scope.names.lookup x = some .local) (scell : ∀ y ∈ scope.names, y.2 ≠ .cell) (hxs : ¬ x = ("self" : Str)) (hxd : (x == ("__debug__" : Str)) = false)
    (k1 : ∀ L fI cdv cc, interactive (ksEnv qual scope L fI cdv cc) = false)
    (k2 : ∃ pl : Sem Bool, ∀ L fI cdv cc, eval (.Call (.Attribute (.Call (.Name "super" p0) [] [] p1) "__init__" p2) [.Constant (.str txt) ck p3] [] p4) (ksEnv qual scope L fI cdv cc) = (do
      let ov ← attributeBase (.Call (.Name "super" p0) [] [] p1) "__init__" (ksEnv qual scope L fI cdv cc) (eval (.Call (.Name "super" p0) [] [] p1) (ksEnv qual scope L fI cdv cc))
      standAt p2.atName
      let (f, first) ← holding [ov] (getMethod ov "__init__" pl)
      callWith p4 f first (backTo p4 (starEach [.Constant (.str txt) ck p3] (ksEnv qual scope L fI cdv cc))) []))
    (k3 : ∀ L fI cdv cc, swapsWith (.Call (.Attribute (.Call (.Name "super" p0) [] [] p1) "__init__" p2) [.Constant (.str txt) ck p3] [] p4) none p5.line (ksEnv qual scope L fI cdv cc) = pure false)
    (k4 : ∀ L fI cdv cc, swapsWith (.Name x p8) (some (.Attribute (.Name "self" p6) f p7)) p9.line (ksEnv qual scope L fI cdv cc) = pure false) : SupC P K C f := by
  simp only [supB, Bool.and_eq_true, beq_iff_eq] at sb
  obtain ⟨b1, b2, b3, b4, b5, b6, b7, b8, b9, b10, b11⟩ := sb
  have hcls := oexB_ok b1
  have T : L2.OexC K C := by
    refine ⟨hcls, ?_, b4, b5, b6⟩
    split at b3
    · rename_i n hn
      rw [hn, beq_iff_eq.mp b3]
    · cases b3
  have hsup : ks_superIn K C C "__init__" = some (some (.builtin "ValueError.__init__")) := by
    split at b7
    · rename_i n hn
      rw [hn, beq_iff_eq.mp b7]
    · cases b7
  have hany : nsIn K cStatics "thirdparty.any" = some none := by
    split at b10
    · assumption
    · cases b10
  have hf : findIn K (.ref C) f = some none := by
    split at b11
    · assumption
    · cases b11
  split at b2
  case h_2 => cases b2
  rename_i fI hfI
  obtain ⟨c1, c2⟩ := Bool.and_eq_true_iff.mp b2
  have hty : typeIn K (.ref fI) = some (.type "function") := beq_iff_eq.mp c2
  refine ⟨T, fI, hfI, hty, fun w A h g d t os mg mb e t0 v R hroom X hlim G hms B hbs he hKe hq => ?_⟩
  unfold fz at ez
  rw [hfI] at ez
  dsimp only at ez
  unfold fnB at c1
  cases lk : K.lookup fI with
  | none => rw [lk] at c1; cases c1
  | some o =>
    obtain ⟨oc, od, dt, osl⟩ := o
    rw [lk] at c1 ez
    cases dt with
    | func fd =>
      obtain ⟨n1, n2, n3, n4, n5, n6, n7, n8, n9, n10, n11, n12, n13, n14, n15⟩ := fd
      simp only [Option.some.injEq, Prod.mk.injEq] at ez
      obtain ⟨h1, h2, h3, h4, h5, h6, h7, h8⟩ := ez
      subst h1 h2 h3 h4 h5 h6 h8
      simp only at c1
      split at c1
      case h_2 => cases c1
      rename_i cn cc cda
      simp only [List.map_cons, List.map_nil, List.cons.injEq, and_true] at h7
      subst h7
      simp only [Bool.and_eq_true] at c1
      obtain ⟨d1, d2, d3⟩ := c1
      split at d2
      case h_2 => cases d2
      rename_i q1 q2 vs q3 hcode
      split at d2
      case h_2 => cases d2
      rename_i fl tf hvs
      split at d3
      case h_2 => cases d3
      rename_i r1 r2 C' r3 hcell
      have hCC : C' = C := beq_iff_eq.mp d3
      subst hCC
      obtain ⟨nm, q, N, bs, bm, sn, sub, ab, col, dd, z0, z1, z2, z3, z5, hCl, hbm⟩ := hcls
      exact init_run (x := x) (R := R) hroom X hlim G hms B hbs T lk d1 hcode hvs d2 hcell hsup b8 b9 hany hf ⟨_, _, X _ _ hCl, rfl⟩ htop (fun s => BindsTo.of_eq (hb _ _ _ _ _ _ _ _ _)) hp har hbody sk sco sge ss sc sl sx scell hxs hxd (fun L => k1 L _ _ _)
        (let ⟨pl, z⟩ := k2; ⟨pl, fun L => z L _ _ _⟩) (fun L => k3 L _ _ _) (fun L => k4 L _ _ _) he hKe hq
    | _ => cases c1
end SupX
namespace L2
open PySem PySem.Spec PyProof.Rows
/-- C(e) raised: the exception's field f is the value -/
def tMkS (C : Addr) (f : Str) (ta : TA) : L2.St → Hp → XK → Prop := fun σ H Q => ta σ H fun vs H1 => ∃ y, vs = [y] ∧ ∀ d, H1 d = none → Q (.ref C) (some d) (upd H1 d (.xd [(f, y)]))
section
variable {X : Cx} {e : Expr} {p pos : Pos} {ta : TA} {x f : Str} {C : Addr}
theorem pmk_sup (T : SupX.SupC X.prog X.K C f) (hms : X.mg "super" = none) (hr : Room 2 X.A) (hg : Gl X x) (hm : X.mg x = some (.ref C)) (ha : PA X [e] ta)
    (hdb : (x == ("__debug__" : Str)) = false := by decide) (he : starEach [e] X.env = (false, eval e X.env) :: starEach [] X.env := by rfl) (hpl : (backTo pos (starEach [] X.env)).any (·.1) = false := by rfl) :
    PMk X (.Call (.Name x p) [e] [] pos) (tMkS C f ta) := by
  intro pins s σ H Q I h
  obtain ⟨nm, q, N, bs, bm, sn, sub, ab, col, dd, k0, k1, k2, k3, k5, hC, hbm⟩ := T.oex.cls
  obtain ⟨fI, iC, tI, RUN⟩ := T.fn
  refine wpAny_Call_Name_kw (ld_glob I hg hm ?_ hdb)
  refine PySem.W.callWith_K (h₀ := X.base) I.ok.mod.kin T.oex.kC (thn (ha.run pos pins s σ H _ I h) fun us s1 ⟨vs, H1, I1, r1, y, ev, q1⟩ => ⟨I1.kIn, ?_⟩) he hpl
  subst ev
  obtain ⟨u, rfl, ry⟩ := vals1 r1
  show wpAny _ _ (call (.ref C) [u]) _ _ _
  obtain ⟨mb, hmb, hbl⟩ := I1.ok.mod.blt
  have G1 := I1.ok.mod.glob.keeps I1.bk
  have B1 := hmb.keeps I1.bk
  have lim := I1.nolimit
  have kb := I1.ok.mod.kin
  have bk := I1.bk
  have hsys := I1.big
  obtain ⟨hp, g, dr, tk, os⟩ := s1
  have hsz : hp.objs.size ≤ hp.objs.size + 1 := Nat.le_succ _
  have hn : H1 (hp.objs.size + 1) = none := I1.hok.fresh hsz
  have kk : ∀ b o, hp.get? b = some o → ((hp.push (PySem.W.kdv_tup [u])).push (PySem.HandSPX.excO C hp.objs.size)).get? b = some o := fun b o e => Heap.get?_push_of_some _ (Heap.get?_push_of_some _ e)
  have hget : ((hp.push (PySem.W.kdv_tup [u])).push (PySem.HandSPX.excO C hp.objs.size)).get? (hp.objs.size + 1) = some (PySem.HandSPX.excO C hp.objs.size) := by heap_get
  have hus : [u].length ≤ sizeLine := by show 1 ≤ sizeLine; decide
  have hKe : ∀ o, X.K.lookup (hp.objs.size + 1) ≠ some o := fun o z => by
    have := Heap.lt_size (bk _ _ (kb _ _ z))
    exact Nat.lt_irrefl _ (Nat.lt_of_succ_lt this)
  refine wpAny_call (PySem.HandSPX.call_own F.excBase_ValueError (fun Y => PySem.HandSPX.refsVE_contains Y bm hbm) (I1.kIn _ _ hC) (PySem.W.looks_findIn I1.kIn iC) (fun self => PySem.W.bind_fn I1.kIn self tI) hus
    (RUN _ _ _ _ _ _ _ X.mg mb _ _ u _ (hr.make C [u] []).depth (fun b o z => kk b o (I1.kIn b o z)) (lim.keeps kk) (G1.keeps kk) hms (B1.keeps kk) ((hbl _ (by decide)).trans (by decide +kernel)) hget hKe fun h2 t2 dx t1 k2 dn dne e2 ns2 => ⟨rfl, ?_⟩))
  have hnd : H1 dx = none := I1.hok.fresh (by
    have : hp.objs.size ≤ dx := by
      have h3 : ((hp.push (PySem.W.kdv_tup [u])).push (PySem.HandSPX.excO C hp.objs.size)).objs.size ≤ dx := dn
      have h4 : hp.objs.size ≤ ((hp.push (PySem.W.kdv_tup [u])).push (PySem.HandSPX.excO C hp.objs.size)).objs.size := Nat.le_of_lt (Nat.lt_of_succ_lt (Heap.lt_size hget))
      exact Nat.le_trans h4 h3
    exact this)
  have dgt : hp.objs.size + 1 < dx := Nat.lt_of_lt_of_le (Heap.lt_size hget) dn
  have old : ∀ {b : Addr} {o : Obj}, hp.get? b = some o → h2.get? b = some o := fun {b o} z => k2 b o (Nat.ne_of_lt (Nat.lt_of_lt_of_le (Heap.lt_size z) hsz)) (kk b o z)
  have oldn : ∀ {b : Addr} {o : Obj}, hp.get? b = some o → b ≠ hp.objs.size + 1 ∧ b ≠ dx := fun {b o} z => by
    have h1 := Heap.lt_size z
    have h2 : b < hp.objs.size + 1 := Nat.lt_of_lt_of_le h1 hsz
    exact ⟨Nat.ne_of_lt h2, Nat.ne_of_lt (Nat.lt_trans h2 dgt)⟩
  have H1n : ∀ {b : Addr}, b ≠ dx → b ≠ hp.objs.size + 1 → (upd (upd H1 dx (exd dx [(f, y)])) (hp.objs.size + 1) (exo (hp.objs.size + 1) C (some dx))) b = H1 b := fun {b} h1 h2 => by rw [upd_ne h2, upd_ne h1]
  have un2 : Un (frs X.stack) [] (upd H1 (hp.objs.size + 1) (exo (hp.objs.size + 1) C none)) (upd (upd H1 dx (exd dx [(f, y)])) (hp.objs.size + 1) (exo (hp.objs.size + 1) C (some dx))) ((hp.push (PySem.W.kdv_tup [u])).push (PySem.HandSPX.excO C hp.objs.size)) h2 := by
    refine ⟨fun b o z n _ _ => ?_, fun b o z n _ _ => ⟨o.slots, ?_⟩, fun b o z n _ => ?_, fun b o z _ => ?_, fun b xs z => ?_, fun b o v z => ?_, fun b ps z => ⟨#[], ?_⟩⟩
    · exact k2 b o (fun w => by rw [w, upd_same] at n; cases n) z
    · exact k2 b o (fun w => by rw [w, upd_same] at n; cases n) z
    · have hb : b ≠ hp.objs.size + 1 := fun w => by rw [w, upd_same] at n; cases n
      rw [upd_ne hb] at n ⊢
      have : b ≠ dx := Nat.ne_of_lt (Nat.lt_of_lt_of_le (Heap.lt_size z) dn)
      rw [upd_ne this]
      exact n
    · by_cases hb : b = hp.objs.size + 1
      · exact ⟨_, by rw [hb]; exact e2⟩
      · exact ⟨o, k2 b o hb z⟩
    · have hb : b ≠ hp.objs.size + 1 := fun w => by rw [w, upd_same] at z; exact exo_tup (Option.some.inj z)
      rw [upd_ne hb] at z ⊢
      rw [upd_ne (ne_of_none z hnd)]
      exact z
    · have hb : b ≠ hp.objs.size + 1 := fun w => by rw [w, upd_same] at z; exact exo_frz (Option.some.inj z)
      rw [upd_ne hb] at z ⊢
      rw [upd_ne (ne_of_none z hnd)]
      exact z
    · have hb : b ≠ hp.objs.size + 1 := fun w => by rw [w, upd_same] at z; exact exo_tbl (Option.some.inj z)
      rw [upd_ne hb] at z ⊢
      rw [upd_ne (ne_of_none z hnd), z]
      simp
  have hok2 : HOk X.prog X.w (upd (upd H1 dx (exd dx [(f, y)])) (hp.objs.size + 1) (exo (hp.objs.size + 1) C (some dx))) h2 := fun b o z => by
    by_cases hb : b = hp.objs.size + 1
    · subst hb
      rw [upd_same] at z
      cases z
      exact exo_ok e2
    · rw [upd_ne hb] at z
      by_cases hbd : b = dx
      · subst hbd
        rw [upd_same] at z
        cases z
        exact exd_ok ns2 (relO_put (fs := []) ry fun g => True.intro)
      · rw [upd_ne hbd] at z
        refine (I1.hok b o z).stay (fun c v hc w => old w) (fun c hc => ?_) fun c xs hc => ?_
        · have hn' : c ≠ hp.objs.size + 1 := fun w => by rw [w, hn] at hc; cases hc
          rw [upd_ne hn', upd_ne (ne_of_none hc hnd)]
          exact hc
        · have hn' : c ≠ hp.objs.size + 1 := fun w => by rw [w, hn] at hc; cases hc
          rw [upd_ne hn', upd_ne (ne_of_none hc hnd)]
          exact hc
  have fin : upd (del (upd (upd H1 dx (exd dx [(f, y)])) (hp.objs.size + 1) (exo (hp.objs.size + 1) C (some dx))) (hp.objs.size + 1)) dx (.xd [(f, y)]) = upd H1 dx (.xd [(f, y)]) := by
    funext b
    by_cases hbd : b = dx
    · rw [hbd, upd_same, upd_same]
    · rw [upd_ne hbd, upd_ne hbd]
      by_cases hb : b = hp.objs.size + 1
      · rw [hb, del_same, hn]
      · rw [del_ne hb, upd_ne hb, upd_ne hbd]
  refine mk_end (Q := Q) (d := dx) (fs := [(f, y)]) (raises_own T.oex.exC T.oex.tyC) I1 hsz kk un2 hok2 rfl I1.bare upd_same ?_ hnd ?_
  · rw [upd_ne (Nat.ne_of_gt dgt), upd_same]
  · rw [fin]
    exact q1 dx hnd
end
end L2
namespace He
open PySem PySem.Spec PyProof.Rows L2 SupX
/-! ### the Hook: the inits of such classes beside hookX -/
def zsW (K : PySem.W.Frag) (zs : List Str) : List FnZ := zs.map fun x => fz K (ga K x)
def kY (n : Nat) (g : Addr → Option Obj) : PySem.W.Frag := frT g (PySem.cStatics :: asD g n)
def obsY (n : Nat) (fa : List Fa) (fn : List DefD) (ts : List Tab) (ex : PySem.W.Frag → Bool) (zs : List Str) (g : Addr → Option Obj) : AlX × List FnZ := ((obsT fa fn ts (kY n g), ex (kY n g)), zsW (kY n g) zs)
def hookY (n : Nat) (fa : List Fa) (fn : List DefD) (ts : List Tab) (ex : PySem.W.Frag → Bool) (zs : List Str) (zv : List FnZ) : PySem.W.Hook where
  α := AlX × List FnZ
  obs := fun s => obsY n fa fn ts ex zs s.heap.get?
  val := fun w => (valX fn ts w, zv)
  says := fun w h => ∃ K : PySem.W.Frag, K.In h ∧ SaysX fa fn ts [] ex w h K ∧ zsW K zs = zv
  of := fun _ _ e => ⟨_, frT_in, ⟨congrArg (fun z : AlX × List FnZ => z.1.1) e, congrArg (fun z : AlX × List FnZ => z.1.2) e, (fun _ h => nomatch h), (fun _ h => nomatch h), (fun _ h => nomatch h)⟩, congrArg (fun z : AlX × List FnZ => z.2) e⟩
  keeps := fun _ _ _ ⟨K, hK, c, z⟩ k => ⟨K, PySem.W.Frag.In.keeps hK k, ⟨c.t, c.more, c.hd, c.out, fun p hp => k _ _ (c.empty p hp)⟩, z⟩
theorem obsY_eq {n : Nat} {fa : List Fa} {fn : List DefD} {ts : List Tab} {ex : PySem.W.Frag → Bool} {zs : List Str} {zv : List FnZ} {g : Addr → Option Obj} {s : Shared} (h : ∀ a, g a = s.heap.get? a) :
    obsY n fa fn ts ex zs g = (hookY n fa fn ts ex zs zv).obs s := by
  have e : g = s.heap.get? := funext h
  rw [e] <;> rfl
theorem zsW_at {K : PySem.W.Frag} {zs : List Str} {zv : List FnZ} (h : zsW K zs = zv) (i : Nat) {x : Str} {v : FnZ} (e1 : zs[i]? = some x) (e2 : zv[i]? = some v) : fz K (ga K x) = v := by
  subst h
  unfold zsW at e2
  rw [List.getElem?_map, e1] at e2
  exact Option.some.inj e2
end He
/-! dicts whose keys are nested tuples of ints and texts, told as things of the heap by what is true of their object -/
namespace ND
open PySem PySem.Spec PyProof.Rows L2
/-- an entry: key, the place of the key's tuple, value -/
abbrev NE := NestedKey × Addr × V
abbrev NV : List NE → List (NestedKey × Addr × Value) → Prop := Paired fun p q => p.1 = q.1 ∧ p.2.1 = q.2.1 ∧ RelV p.2.2 q.2.2
def NRaw (P : Program) (w : World) (a : Addr) (kvs : List NE) (h : Heap) : Prop :=
  kvs.length ≤ sizeLine ∧ (a == sysModules) = false ∧ ∃ xs : List (NestedKey × Addr × Value), NV kvs xs ∧
    ∃ o es ep, h.get? a = some o ∧ o.ExactDict ∧ o.data = .dict es ep ∧ es.toList = xs.map (entryOfKey (nestedKind P w)) ∧ (xs.map (·.1)).Nodup
def NDo (P : Program) (w : World) (a : Addr) (kvs : List NE) : HO := .ext (NRaw P w a kvs)
theorem ndo_ok {P : Program} {w : World} {a : Addr} {kvs : List NE} {H : Hp} {h : Heap} (x : NRaw P w a kvs h) : ObjOk P w H h a (NDo P w a kvs) := by
  refine ⟨x, ?_, fun h1 h2 y k => ?_⟩
  · obtain ⟨_, _, _, _, o, _, _, e, _⟩ := x
    exact ⟨o, e⟩
  · obtain ⟨z, hd, xs, r, o, es, ep, e, c⟩ := y
    exact ⟨z, hd, xs, r, o, es, ep, k o e, c⟩
theorem ndo_raw {P : Program} {w : World} {a : Addr} {kvs : List NE} {H : Hp} {h : Heap} (x : ObjOk P w H h a (NDo P w a kvs)) : NRaw P w a kvs h := x.1
/-- the tuple at b is the key k -/
def KeyAt (K : PySem.W.Frag) (H : Hp) (b : Addr) (k : NestedKey) : Prop := (∃ ks, k = .tup ks) ∧ k.depth ≤ 8 ∧ Dp K H (.ref b) k.data
def KsAt (K : PySem.W.Frag) (H : Hp) (kvs : List NE) : Prop := ∀ e ∈ kvs, KeyAt K H e.2.1 e.1
section
variable {X : Cx} {pins : List (Addr × Obj)} {σ : L2.St} {H : Hp} {s : Shared}
mutual
theorem nis (I : Inv X pins σ H s) : ∀ (k : NestedKey) (v : V) (u : Value), Dp X.K H v k.data → RelV v u → NestedIs s.heap k u
  | .none, _, _, h, r => by
    rw [NestedKey.data] at h
    cases h
    cases r
    exact .none
  | .num i, _, _, h, r => by
    rw [NestedKey.data] at h
    cases h
    obtain ⟨t, rfl⟩ := r
    exact .int _ _
  | .text x, _, _, h, r => by
    rw [NestedKey.data] at h
    cases h
    obtain ⟨t, rfl⟩ := r
    exact .text _ _
  | .tup ks, _, _, h, r => by
    rw [NestedKey.data] at h
    cases h with
    | tup h1 h2 =>
      cases r
      obtain ⟨its, rv, ⟨o, ho, hc, n, hd⟩, _⟩ := I.tuple h1
      exact .tup ho hc hd (niss I ks _ _ h2 (by simpa using rv))
theorem niss (I : Inv X pins σ H s) : ∀ (ks : List NestedKey) (vs : List V) (us : List Value), DpAll X.K H vs (NestedKey.datas ks) → Vals vs us → NestedAll s.heap ks us
  | [], _, _, h, r => by
    rw [NestedKey.datas] at h
    cases h
    cases r
    exact .nil
  | k :: ks, _, _, h, r => by
    rw [NestedKey.datas] at h
    cases h with
    | cons h1 h2 =>
      cases r with
      | cons r1 r2 => exact .cons (nis I k _ _ h1 r1) (niss I ks _ _ h2 r2)
end
theorem key_is (I : Inv X pins σ H s) {b : Addr} {k : NestedKey} (h : KeyAt X.K H b k) : (nestedKind X.prog X.w).is s.heap k b := ⟨nis I k _ _ h.2.2 rfl, h.2.1⟩
theorem nv_mem {kvs : List NE} {xs : List (NestedKey × Addr × Value)} (r : NV kvs xs) : ∀ x ∈ xs, ∃ e ∈ kvs, e.1 = x.1 ∧ e.2.1 = x.2.1 := by
  induction r with
  | nil => exact fun _ h => nomatch h
  | @cons p q ps qs h t ih =>
    intro x hx
    rcases List.mem_cons.mp hx with rfl | hx
    · exact ⟨p, .head _, h.1, h.2.1⟩
    · obtain ⟨e, he, h1⟩ := ih x hx
      exact ⟨e, .tail _ he, h1⟩
theorem nd_h (I : Inv X pins σ H s) {a : Addr} {kvs : List NE} (x : NRaw X.prog X.w a kvs s.heap) (ks : KsAt X.K H kvs) : kvs.length ≤ sizeLine ∧ (a == sysModules) = false ∧ ∃ xs, NV kvs xs ∧ s.heap.DictOfH (nestedKind X.prog X.w) a xs := by
  obtain ⟨z, hd, xs, r, o, es, ep, h1, h2, h3, h4, h5⟩ := x
  refine ⟨z, hd, xs, r, o, es, ep, h1, h2, h3, h4, fun x hx => ?_, h5⟩
  obtain ⟨e, he, e1, e2⟩ := nv_mem r x hx
  rw [← e1, ← e2]
  exact key_is I (ks e he)
theorem nd_rd (I : Inv X pins σ H s) {a : Addr} {kvs : List NE} (e : Rd H a (NDo X.prog X.w a kvs)) (ks : KsAt X.K H kvs) : kvs.length ≤ sizeLine ∧ (a == sysModules) = false ∧ ∃ xs, NV kvs xs ∧ s.heap.DictOfH (nestedKind X.prog X.w) a xs :=
  nd_h I (ndo_raw (rd_of I.hok e)) ks
end
/-! ### look-ups -/
def nP (kvs : List NE) : List (NestedKey × V) := kvs.map fun e => (e.1, e.2.2)
def nGet (kvs : List NE) (k : NestedKey) : Option V := valV (nP kvs) k
def nPut (kvs : List NE) (k : NestedKey) (b : Addr) (v : V) : List NE := if (nGet kvs k).isSome then kvs.map (fun e => if e.1 = k then (e.1, e.2.1, v) else e) else kvs ++ [(k, b, v)]
theorem NV.val {kvs : List NE} {xs : List (NestedKey × Addr × Value)} (r : NV kvs xs) (k : NestedKey) : RelO (nGet kvs k) ((atKey xs k).map (·.2)) := by
  unfold nGet nP
  induction r with
  | nil => exact True.intro
  | @cons p q ps qs h t ih =>
    obtain ⟨h1, _, h2⟩ := h
    rw [List.map_cons]
    by_cases e : p.1 = k
    · have e' : q.1 = k := h1.symm.trans e
      have b : atKey (q :: qs) k = some q.2 := by simp [atKey, List.find?_cons, e']
      rw [valV_pos (p := (p.1, p.2.2)) e, b]; exact h2
    · have e' : ¬ q.1 = k := fun z => e (h1.trans z)
      have b : atKey (q :: qs) k = atKey qs k := by simp [atKey, List.find?_cons, e']
      rw [valV_neg (p := (p.1, p.2.2)) e, b]; exact ih
theorem NV.repl {kvs : List NE} {xs : List (NestedKey × Addr × Value)} (r : NV kvs xs) (k : NestedKey) {y : V} {u : Value} (ry : RelV y u) : NV (kvs.map fun e => if e.1 = k then (e.1, e.2.1, y) else e) (xs.map (putAt k u)) := by
  induction r with
  | nil => exact .nil
  | @cons p q ps qs h t ih =>
    rw [List.map_cons, List.map_cons]
    refine .cons ?_ ih
    obtain ⟨h1, h2, h3⟩ := h
    unfold putAt
    by_cases e : p.1 = k
    · rw [if_pos e, if_pos (h1.symm.trans e)]; exact ⟨h1, h2, ry⟩
    · rw [if_neg e, if_neg (fun z => e (h1.trans z))]; exact ⟨h1, h2, h3⟩
theorem NV.put {kvs : List NE} {xs : List (NestedKey × Addr × Value)} (r : NV kvs xs) (k : NestedKey) (b : Addr) {y : V} {u : Value} (ry : RelV y u) : NV (nPut kvs k b y) (storedH xs k b u) := by
  have e : (nGet kvs k).isSome = (atKey xs k).isSome := by rw [(NV.val r k).isSome_eq, Option.isSome_map]
  unfold nPut storedH
  rw [e]
  by_cases q : (atKey xs k).isSome = true
  · rw [if_pos q, if_pos q]; exact NV.repl r k ry
  · rw [if_neg q, if_neg q]; exact Paired.snoc r ⟨rfl, rfl, ry⟩
theorem nPut_len (kvs : List NE) (k : NestedKey) (b : Addr) (v : V) : (nPut kvs k b v).length ≤ kvs.length + 1 := by
  unfold nPut
  split
  · rw [List.length_map]; omega
  · rw [List.length_append, List.length_cons, List.length_nil]; omega
theorem nPut_new {kvs : List NE} {k : NestedKey} {b : Addr} {v : V} (h : nGet kvs k = none) : nPut kvs k b v = kvs ++ [(k, b, v)] := by
  unfold nPut
  rw [h]
  exact if_neg (by decide)
theorem nP_put (kvs : List NE) (k : NestedKey) (b : Addr) (v : V) : nP (nPut kvs k b v) = putK (nP kvs) k v := by
  unfold nPut putK
  rw [valV_any]
  by_cases q : (nGet kvs k).isSome = true
  · rw [if_pos q, if_pos (show (valV (nP kvs) k).isSome = true from q)]
    unfold nP
    rw [List.map_map, List.map_map]
    refine List.map_congr_left fun e _ => ?_
    by_cases z : e.1 = k <;> simp [z]
  · rw [if_neg q, if_neg (show ¬ (valV (nP kvs) k).isSome = true from q)]
    simp [nP]
theorem KsAt.put {K : PySem.W.Frag} {H : Hp} {kvs : List NE} (h : KsAt K H kvs) {k : NestedKey} {b : Addr} (hb : KeyAt K H b k) (v : V) : KsAt K H (nPut kvs k b v) := by
  intro e he
  unfold nPut at he
  split at he
  · obtain ⟨e', h1, rfl⟩ := List.mem_map.mp he
    split
    · exact h e' h1
    · exact h e' h1
  · rcases List.mem_append.mp he with he | he
    · exact h e he
    · rw [List.mem_singleton.mp he]; exact hb
/-! ### the rules -/
section
variable {X : Cx} {pins : List (Addr × Obj)} {σ : L2.St} {H : Hp} {s : Shared} {a b : Addr} {k : NestedKey} {kvs : List NE} {v : V} {u r : Value} {A : Around} {E : Value → Shared → Prop}
theorem room9 (hu : A.units + 64 < cLine) : (nestedKind X.prog X.w).room A.in1 := by
  show A.in1.units + 8 < cLine
  have : A.in1.units = A.units + 1 := rfl
  omega
theorem n_in {Q : Value → Shared → Prop} (hu : A.units + 64 < cLine) (I : Inv X pins σ H s) (g : Rd H a (NDo X.prog X.w a kvs)) (ks : KsAt X.K H kvs) (kb : KeyAt X.K H b k) (h : ∀ s', Inv X pins σ H s' → Q (.bool (nGet kvs k).isSome) s') :
    wpAny (model X.prog X.w) A (compareOp .In (.ref b) (.ref a)) Q E s := by
  obtain ⟨z, hd, xs, rel, dd⟩ := nd_rd I g ks
  refine wpAny_in_heap (room9 hu) (key_is I kb) hd dd ?_
  have q := (NV.val rel k).isSome_eq
  rw [Option.isSome_map] at q
  rw [← q]
  exact h _ (I.tok _)
theorem n_notIn {Q : Value → Shared → Prop} (hu : A.units + 64 < cLine) (I : Inv X pins σ H s) (g : Rd H a (NDo X.prog X.w a kvs)) (ks : KsAt X.K H kvs) (kb : KeyAt X.K H b k) (h : ∀ s', Inv X pins σ H s' → Q (.bool (!(nGet kvs k).isSome)) s') :
    wpAny (model X.prog X.w) A (compareOp .NotIn (.ref b) (.ref a)) Q E s := by
  obtain ⟨z, hd, xs, rel, dd⟩ := nd_rd I g ks
  refine wpAny_notIn_heap (room9 hu) (key_is I kb) hd dd ?_
  have q := (NV.val rel k).isSome_eq
  rw [Option.isSome_map] at q
  rw [← q]
  exact h _ (I.tok _)
theorem n_getItem {Q : Value → Shared → Prop} (hu : A.units + 64 < cLine) (I : Inv X pins σ H s) (g : Rd H a (NDo X.prog X.w a kvs)) (ks : KsAt X.K H kvs) (kb : KeyAt X.K H b k) (hv : nGet kvs k = some v) (h : ∀ w' s', Inv X pins σ H s' → RelV v w' → Q w' s') :
    wpAny (model X.prog X.w) A (getItem (.ref a) (.ref b)) Q E s := by
  obtain ⟨z, hd, xs, rel, dd⟩ := nd_rd I g ks
  obtain ⟨w', hw, rw'⟩ := RelO.some_of (v := v) (o := (atKey xs k).map (·.2)) (by rw [← hv]; exact NV.val rel k)
  obtain ⟨p, hp, hp2⟩ := Option.map_eq_some_iff.mp hw
  refine wpAny_getItem_heap (room9 hu) (key_is I kb) dd hp ?_
  rw [hp2]
  exact h w' _ (I.tok _) rw'
theorem n_get2 {Q : Value → Shared → Prop} {d : V} (hu : A.units + 64 < cLine) (I : Inv X pins σ H s) (g : Rd H a (NDo X.prog X.w a kvs)) (ks : KsAt X.K H kvs) (kb : KeyAt X.K H b k) (rd : RelV d r) (h : ∀ w' s', Inv X pins σ H s' → RelV ((nGet kvs k).getD d) w' → Q w' s') :
    wpAny (model X.prog X.w) A (call (.builtin "dict.get") [.ref a, .ref b, r]) Q E s := by
  obtain ⟨z, hd, xs, rel, dd⟩ := nd_rd I g ks
  refine call_meetsIn PySem.F.slot_dict_get dd.typeIs PySem.F.entry_dict_get (PySem.F.args_dict_get_3 _ _ _) (meetsH_dict_get_default (nestedKind X.prog X.w) a b hd r) ⟨room9 hu, k, xs, key_is I kb, dd, h _ _ (I.tok _) ?_⟩
  exact (NV.val rel k).getD rd
/-- the object at a changes -/
theorem nd_new {h' : Heap} {H' : Hp} {xs : List (NestedKey × Addr × Value)} (z : kvs.length ≤ sizeLine) (hd : (a == sysModules) = false) (rel : NV kvs xs) (dd : h'.DictOfH (nestedKind X.prog X.w) a xs) : ObjOk X.prog X.w H' h' a (NDo X.prog X.w a kvs) := by
  obtain ⟨o, es, ep, h1, h2, h3, h4, _, h5⟩ := dd
  exact ndo_ok ⟨z, hd, xs, rel, o, es, ep, h1, h2, h3, h4, h5⟩
theorem n_setItem {Q : Unit → Shared → Prop} (hu : A.units + 64 < cLine) (I : Inv X pins σ H s) (g : H a = some (NDo X.prog X.w a kvs)) (ks : KsAt X.K H kvs) (kb : KeyAt X.K H b k) (hl : kvs.length < sizeLine) (rv : RelV v r)
    (h : ∀ s', Inv X pins σ (upd H a (NDo X.prog X.w a (nPut kvs k b v))) s' → Q () s') : wpAny (model X.prog X.w) A (setItem (.ref a) (.ref b) r) Q E s := by
  obtain ⟨z, hd, xs, rel, dd⟩ := nd_rd I (.inl g) ks
  have hz : xs.length ≤ sizeLine := by rw [← Paired.length rel]; exact z
  have hl' : (nPut kvs k b v).length ≤ sizeLine := by have := nPut_len kvs k b v; omega
  refine wpAny_setItem_heap (hsz := hz) (room9 hu) (key_is I kb) dd fun h' dd' hs => h _ ?_
  obtain ⟨q, es, ep, hq, h2, h3, h4, h6, h5⟩ := id dd'
  exact d_write I (by rw [g]; exact True.intro) hs ⟨q, hq⟩ (nd_new hl' hd (NV.put rel k b rv) dd')
theorem nd_typeIs (I : Inv X pins σ H s) (g : Rd H a (NDo X.prog X.w a kvs)) : s.TypeIs (.ref a) "dict" ∧ ∀ b, Value.ref a = .ref b → ∃ ob, s.heap.get? b = some ob ∧ ob.dict = none := by
  obtain ⟨z, hd, xs, r, o, es, ep, h1, h2, _⟩ := ndo_raw (rd_of I.hok g)
  refine ⟨⟨o, h1, h2.1⟩, fun b q => ?_⟩
  cases q
  exact ⟨o, h1, h2.2.1⟩
end
/-- {}, to be a dict with nested keys -/
def tNew (P : Program) (w : World) : TE := fun _ H Q => ∀ p, H p = none → Q (.ref p) (upd H p (NDo P w p []))
theorem nd_empty {P : Program} {w : World} {H : Hp} (h : Heap) (hb : sysModules < h.objs.size) : ObjOk P w H (h.push { cls := .type "dict", data := .dict #[] }) h.objs.size (NDo P w h.objs.size []) :=
  ndo_ok ⟨Nat.zero_le _, beq_eq_false_iff_ne.mpr (Ne.symm (Nat.ne_of_lt hb)), [], .nil, _, #[], 0, Heap.get?_push_size _ rfl, ⟨rfl, rfl, rfl⟩, rfl, rfl, List.nodup_nil⟩
/-- y in d, y not in d, d[y], d[y] = v, d.get(y, x) -/
def tIn (P : Program) (w : World) (K : PySem.W.Frag) (ty td : TE) : TE := fun σ H Q => ty σ H fun y H1 => td σ H1 fun x H2 => ∃ a b k kvs, x = .ref a ∧ y = .ref b ∧ Rd H2 a (NDo P w a kvs) ∧ KsAt K H2 kvs ∧ KeyAt K H2 b k ∧ Q (.bl (nGet kvs k).isSome) H2
def tNotIn (P : Program) (w : World) (K : PySem.W.Frag) (ty td : TE) : TE := fun σ H Q => ty σ H fun y H1 => td σ H1 fun x H2 => ∃ a b k kvs, x = .ref a ∧ y = .ref b ∧ Rd H2 a (NDo P w a kvs) ∧ KsAt K H2 kvs ∧ KeyAt K H2 b k ∧ Q (.bl (!(nGet kvs k).isSome)) H2
def tGet (P : Program) (w : World) (K : PySem.W.Frag) (td ty : TE) : TE := fun σ H Q => td σ H fun x H1 => ty σ H1 fun y H2 => ∃ a b k kvs v, x = .ref a ∧ y = .ref b ∧ Rd H2 a (NDo P w a kvs) ∧ KsAt K H2 kvs ∧ KeyAt K H2 b k ∧ nGet kvs k = some v ∧ Q v H2
def tGet2 (P : Program) (w : World) (K : PySem.W.Frag) (td ty tx : TE) : TE := fun σ H Q => td σ H fun x H1 => ∃ a kvs, x = .ref a ∧ Rd H1 a (NDo P w a kvs) ∧ ty σ H1 fun y H2 => tx σ H2 fun d H3 => ∃ b k kvs, y = .ref b ∧ Rd H3 a (NDo P w a kvs) ∧ KsAt K H3 kvs ∧ KeyAt K H3 b k ∧ Q ((nGet kvs k).getD d) H3
def tPut (P : Program) (w : World) (K : PySem.W.Frag) (td ty tv : TE) : TS := fun D σ H => tv σ H fun v H1 => td σ H1 fun x H2 => ty σ H2 fun y H3 => ∃ a b k kvs, x = .ref a ∧ y = .ref b ∧ H3 a = some (NDo P w a kvs) ∧ KsAt K H3 kvs ∧ KeyAt K H3 b k ∧ kvs.length < sizeLine ∧
  D.nx σ (upd H3 a (NDo P w a (nPut kvs k b v)))
section
variable {X : Cx} {o i e f value : Expr} {pos pos' tpos apos cpos : Pos} {td ty tv tx : TE}
theorem pe_new : PE X (.Dict [] [] pos) (tNew X.prog X.w) := ⟨fun pins s σ H Q I h =>
  wpAny_Dict_empty ⟨.ref s.heap.objs.size, _, I.laid (a := s.heap.objs.size) (o := NDo X.prog X.w s.heap.objs.size []) (t' := s.toks) (fun _ _ q => Heap.get?_push_of_some _ q) (Nat.le_refl _) (nd_empty s.heap I.big), rfl, h _ (I.hok.fresh (Nat.le_refl _))⟩⟩
theorem pc_in (hu : X.A.units + 64 < cLine) (hi : PE X i ty) (ho : PE X o td) : PC X .In i o (tIn X.prog X.w X.K ty td) := by
  refine ⟨fun pins s σ H Q I h => ?_⟩
  refine thn (hi.run pins s σ H _ I h) fun iv s1 ⟨y, H1, I1, ry, q1⟩ => thn (ho.run pins s1 σ H1 _ I1 q1) fun u s2 ⟨x, H2, I2, rx, a, b, k, kvs, ex, ey, g, ks, kb, q2⟩ => ?_
  subst ex ey
  obtain rfl : u = Value.ref a := rx
  obtain rfl : iv = Value.ref b := ry
  exact n_in hu I2 g ks kb fun s3 I3 => ⟨.bl (nGet kvs k).isSome, H2, I3, rfl, q2⟩
theorem pc_notin (hu : X.A.units + 64 < cLine) (hi : PE X i ty) (ho : PE X o td) : PC X .NotIn i o (tNotIn X.prog X.w X.K ty td) := by
  refine ⟨fun pins s σ H Q I h => ?_⟩
  refine thn (hi.run pins s σ H _ I h) fun iv s1 ⟨y, H1, I1, ry, q1⟩ => thn (ho.run pins s1 σ H1 _ I1 q1) fun u s2 ⟨x, H2, I2, rx, a, b, k, kvs, ex, ey, g, ks, kb, q2⟩ => ?_
  subst ex ey
  obtain rfl : u = Value.ref a := rx
  obtain rfl : iv = Value.ref b := ry
  exact n_notIn hu I2 g ks kb fun s3 I3 => ⟨.bl (!(nGet kvs k).isSome), H2, I3, rfl, q2⟩
theorem pe_get (hu : X.A.units + 64 < cLine) (ho : PE X o td) (hi : PE X i ty) (hs : NoSl i) : PE X (.Subscript o i pos) (tGet X.prog X.w X.K td ty) := by
  refine ⟨fun pins s σ H Q I h => ?_⟩
  refine subD_of PySem.F.slot_dict_getitem.lookup hs (thn (ho.run pins s σ H _ I h) fun u s1 ⟨x, H1, I1, rx, q1⟩ => thn (hi.run pins s1 σ H1 _ I1 q1) fun iv s2 ⟨y, H2, I2, ry, a, b, k, kvs, v, ex, ey, g, ks, kb, hv, q2⟩ => ?_)
  subst ex ey
  obtain rfl : u = Value.ref a := rx
  obtain rfl : iv = Value.ref b := ry
  exact ⟨(nd_typeIs I2 g).1, n_getItem hu I2 g ks kb hv fun w' s3 I3 rw' => ⟨v, H2, I3, rw', q2⟩⟩
theorem pe_get2 (hu : X.A.units + 64 < cLine) (ho : PE X o td) (he : PE X e ty) (hf : PE X f tx) (m : M2 X o "get" apos e f cpos) : PE X (.Call (.Attribute o "get" apos) [e, f] [] cpos) (tGet2 X.prog X.w X.K td ty tx) := by
  refine ⟨fun pins s σ H Q I h => ?_⟩
  refine wpAny_Call_method m.base m.few m.line PySem.F.plainAttrs_dict PySem.F.slot_dict_get PySem.F.type_dict_get (thn (ho.run pins s σ H _ I h) fun u s1 ⟨x, H1, I1, rx, a, kvs0, ex, d, q1⟩ => ?_)
  subst ex
  obtain rfl : u = Value.ref a := rx
  obtain ⟨t1, t2⟩ := nd_typeIs I1 d
  refine ⟨t1, t2, ?_⟩
  rw [m.trees]
  refine Calls.callWith_builtin rfl (Calls.evalArgs_plain (Calls.spliced_cons (thn (he.run pins s1 σ H1 _ I1 q1) fun iv s2 ⟨y, H2, I2, ry, q2⟩ =>
    Calls.spliced_cons (thn (hf.run pins s2 σ H2 _ I2 q2) fun fv s3 ⟨z, H3, I3, rz, b, k, kvs, ey, g, ks, kb, q3⟩ => Calls.spliced_nil ?_))))
  subst ey
  obtain rfl : iv = Value.ref b := ry
  exact n_get2 hu I3 g ks kb rz fun w' s4 I4 rw' => ⟨_, H3, I4, rw', q3⟩
theorem ps_put (hu : X.A.units + 64 < cLine) (ho : PE X o td) (hi : PE X i ty) (hv : PE X value tv) (hs : swapsWith value (some (.Subscript o i pos')) pos.line X.env = pure false) :
    PS X (.Assign [.Subscript o i pos'] value pos) (tPut X.prog X.w X.K td ty tv) := by
  refine ⟨fun pins s σ H D I h => ?_⟩
  refine wpAny_Assign_Subscript (thn (hv.run pins s σ H _ I h) fun r s1 ⟨v, H1, I1, rv, q1⟩ => thn (ho.run pins s1 σ H1 _ I1 q1) fun u s2 ⟨x, H2, I2, rx, q2⟩ => thn (hi.run pins s2 σ H2 _ I2 q2) fun iv s3 ⟨y, H3, I3, ry, a, b, k, kvs, ex, ey, g, ks, kb, hl, q3⟩ => ?_) hs
  subst ex ey
  obtain rfl : u = Value.ref a := rx
  obtain rfl : iv = Value.ref b := ry
  exact n_setItem hu I3 g ks kb hl rv fun s4 I4 => ⟨σ, _, I4, q3⟩
end
end ND
/-! walks over such dicts, their items, dicts made of pairs, setdefault -/
namespace ND
open PySem PySem.Spec PyProof.Rows L2
theorem ent_get {P : Program} {w : World} {xs : List (NestedKey × Addr × Value)} {kvs : List NE} {es : Array DictEntry} (he : es.toList = xs.map (entryOfKey (nestedKind P w))) (r : NV kvs xs) :
    es.size = kvs.length ∧ ∀ (i : Nat) (e : NE), kvs[i]? = some e → ∃ en : DictEntry, es[i]? = some en ∧ en.key = .ref e.2.1 ∧ RelV e.2.2 en.val := by
  refine ⟨(size_of_entries he).trans (Paired.length r).symm, fun i e hi => ?_⟩
  obtain ⟨x, hx, e1, e2, e3⟩ := paired_get r hi
  have q := entry_at he i
  rw [hx] at q
  exact ⟨_, q, congrArg Value.ref e2.symm, e3⟩
section
variable {X : Cx} {pins : List (Addr × Obj)} {σ : L2.St} {H : Hp} {s : Shared} {d : Addr} {o : Obj} {kvs : List NE}
theorem frzN (I : Inv X pins σ H s) (h : H d = some (.frz o (NDo X.prog X.w d kvs))) :
    (d == sysModules) = false ∧ s.heap.get? d = some o ∧ o.ExactDict ∧ ∃ (es : Array DictEntry) (ep : Nat), o.data = .dict es ep ∧ es.size = kvs.length ∧
      ∀ (i : Nat) (e : NE), kvs[i]? = some e → ∃ en : DictEntry, es[i]? = some en ∧ en.key = .ref e.2.1 ∧ RelV e.2.2 en.val := by
  obtain ⟨hd, x⟩ := I.hok d _ h
  obtain ⟨z, hs, xs, r, o', es, ep, ho, hx, hdt, he, _⟩ := ndo_raw x
  rw [hd] at ho
  cases ho
  obtain ⟨h1, h2⟩ := ent_get he r
  exact ⟨hs, hd, hx, es, ep, hdt, h1, h2⟩
end
/-- the keys of the locked dict at d, in their order -/
def ItkN (P : Program) (w : World) (d : Addr) (o : Obj) (kvs : List NE) : It :=
  ⟨fun i H => H d = some (.frz o (NDo P w d kvs)) ∧ i < kvs.length, fun i H x H' => H' = H ∧ ∃ e : NE, kvs[i]? = some e ∧ x = .ref e.2.1, fun i H => H d = some (.frz o (NDo P w d kvs)) ∧ kvs.length ≤ i⟩
theorem turn_keysN {P : Program} {w : World} {K : PySem.W.Frag} {tg : Expr} {d : Addr} {o : Obj} {es : Array DictEntry} {ep : Nat} {kvs : List NE} (it : Addr) (hod : o.data = .dict es ep) : Turn P w K tg (ItkN P w d o kvs) [it] it (fun i h => h.IsKeyIter it d i kvs.length ep) where
  mem := by simp
  obj := fun i h st b hb => by
    have e : b = it := by simpa using hb
    subst e
    obtain ⟨oi, e, c, dd⟩ := st
    exact ⟨oi, e, fun v z => by rw [dd] at z; cases z⟩
  keep := fun i h h' st k => st.at fun oi e => k it (by simp) oi e
  item := by
    intro X hP hw hK hc i pins s σ H E I hf st hg
    subst hP hw hK
    obtain ⟨hd, hi⟩ := hg
    obtain ⟨f0, f1, f2, f3, f4, f5⟩ := hf it (by simp)
    obtain ⟨hs, hgd, hx, es', ep', hdt, hsz, ent⟩ := frzN I hd
    obtain ⟨rfl, rfl⟩ := dict_ep hod hdt
    obtain ⟨e0, hkv⟩ : ∃ p, kvs[i]? = some p := ⟨kvs[i], List.getElem?_eq_getElem hi⟩
    obtain ⟨en, hen, hkey, _⟩ := ent i e0 hkv
    refine next_key_item st hgd hdt hsz hen fun h' st' sb => ?_
    have I1 : Inv X pins σ H { s with heap := h' } := I.turned (t' := s.toks) (fun b ob hb e => (sb.2 b hb).trans e) f0 f1 f3 f4 f5
    obtain ⟨oi, e, c, dd⟩ := id st'
    exact ⟨en.key, rfl, go_of (s := { s with heap := h' }) e c dd (by decide) ⟨.ref e0.2.1, H, I1, hkey, ⟨rfl, e0, hkv, rfl⟩, st', fun b hb => (hf b hb).1⟩⟩
  done := by
    intro X hP hw hK hc i pins s σ H E I hf st hg
    subst hP hw hK
    obtain ⟨hd, hi⟩ := hg
    obtain ⟨f0, f1, f2, f3, f4, f5⟩ := hf it (by simp)
    obtain ⟨hs, hgd, hx, es', ep', hdt, hsz, ent⟩ := frzN I hd
    obtain ⟨rfl, rfl⟩ := dict_ep hod hdt
    exact next_key_end (I.ok.hd hc) st hgd hdt hsz hi fun h' eb => ⟨rfl, I.turned (t' := s.toks) (fun b ob hb e => eb b ob hb e) f0 f1 f3 f4 f5⟩
  self := fun A i s Q E st h => by
    refine wpAny_pyIter_slot st.typeIs F.slot_dict_keyiterator_iter (wpAny_call_entry F.slot_dict_keyiterator_iter st.typeIs F.entry_dict_keyiterator_iter ?_ (F.args_dict_keyiterator_iter_1 _))
    show wpAny _ _ (ret (.ref it)) _ _ s
    exact wpAny_pure ⟨_, rfl, "dict_keyiterator", _, st.typeIs, F.slot_dict_keyiterator_next.lookup, h⟩
/-- for k in d, locked -/
def iKeysN (P : Program) (w : World) (td : TE) : TI := fun σ H R => td σ H fun x H1 => ∃ d o kvs, x = .ref d ∧ H1 d = some (.frz o (NDo P w d kvs)) ∧ R (ItkN P w d o kvs) H1
section
variable {X : Cx} {tg e : Expr} {td : TE} {apos cpos : Pos}
theorem pi_keysN (he : PE X e td) : PI X tg e (iKeysN X.prog X.w td) := by
  refine ⟨fun pins s σ H R I h => ?_⟩
  refine thn (he.run pins s σ H _ I h) fun u s1 ⟨x, H1, I1, rx, d, o, kvs, ex, hd, q⟩ => ?_
  subst ex
  obtain rfl : u = Value.ref d := rx
  obtain ⟨hs, hgd, hx, es, ep, hdt, hsz, ent⟩ := frzN I1 hd
  refine iter_keys hs hgd hx hdt (pi_one (tk := s1.toks) I1 _ (turn_keysN _ hdt) ⟨_, Heap.get?_push_size _ rfl, rfl, ?_⟩ q)
  rw [hsz] <;> rfl
end
/-! ### d.items(), list(d.items()) -/
open DX in
def tItems (P : Program) (w : World) (td : TE) : TE := fun σ H Q => td σ H fun x H1 => ∃ a kvs, x = .ref a ∧ Rd H1 a (NDo P w a kvs) ∧ ∀ p, H1 p = none → Q (.ref p) (upd H1 p (itemsO p a))
section
variable {X : Cx} {o : Expr} {apos cpos : Pos} {td : TE}
theorem pe_items (ho : PE X o td) (hbase : attributeBase o "items" X.env (eval o X.env) = eval o X.env := by rfl) (hline : (apos.endLine == cpos.line) = true := by rfl) : PE X (.Call (.Attribute o "items" apos) [] [] cpos) (tItems X.prog X.w td) := by
  refine ⟨fun pins s σ H Q I h => ?_⟩
  refine wpAny_Call_method (T := "dict") (id := "dict.items") hbase rfl hline F.plainAttrs_dict F.slot_dict_items F.type_dict_items (thn (ho.run pins s σ H _ I h) fun u s1 ⟨x, H1, I1, rx, a, kvs, ex, hd, q⟩ => ?_)
  subst ex
  obtain rfl : u = Value.ref a := rx
  obtain ⟨t1, t2⟩ := nd_typeIs I1 hd
  refine ⟨t1, t2, ?_⟩
  obtain ⟨z, hs, xs, r, ob, es, ep, ho', hx, hdt, he, _⟩ := ndo_raw (rd_of I1.hok hd)
  show wpAny _ _ (callWith cpos (.builtin "dict.items") [.ref a] [] []) _ X.xe s1
  refine Calls.callWith_builtin rfl (PySem.evalArgs_none ?_)
  refine DT.callItems (es := es) (ep := ep) hs ⟨ob, ho', hx, hdt⟩ ?_
  exact ⟨.ref s1.heap.objs.size, upd H1 s1.heap.objs.size (DX.itemsO s1.heap.objs.size a), I1.laid (t' := s1.toks) (fun b u e => Heap.get?_push_of_some _ e) (Nat.le_refl _) (DX.itemsO_ok (Heap.get?_push_size _ rfl)), rfl, q _ (I1.hok.fresh (Nat.le_refl _))⟩
/-- the pairs at Ts are the entries -/
def PrsAt (H : Hp) (Ts : List Addr) (kvs : List NE) : Prop := Paired (fun T (e : NE) => H T = some (.tup [.ref e.2.1, e.2.2])) Ts kvs
def rListItems (P : Program) (w : World) : List V → Hp → VK → Prop := fun xs H Q => ∃ (p a : Addr) (kvs : List NE), xs = [.ref p] ∧ H p = some (DX.itemsO p a) ∧ Rd H a (NDo P w a kvs) ∧
  ∀ (H' : Hp) (l : Addr) (Ts : List Addr), Evl.Ex H H' → H l = none → H' l = some (.lst (Ts.map V.ref)) → (∀ T ∈ Ts, H T = none) → Ts.Nodup → PrsAt H' Ts kvs → Q (.ref l) H'
theorem prs_of {H : Hp} : ∀ {Ts : List Addr} {kvs : List NE}, Ts.length = kvs.length → (∀ (j : Nat) (T : Addr) (e : NE), Ts[j]? = some T → kvs[j]? = some e → H T = some (.tup [.ref e.2.1, e.2.2])) → PrsAt H Ts kvs
  | [], [], _, _ => .nil
  | [], _ :: _, h, _ => by simp at h
  | _ :: _, [], h, _ => by simp at h
  | T :: Ts, e :: kvs, h, f => .cons (f 0 T e rfl rfl) (prs_of (by simpa using h) fun j T' e' h1 h2 => f (j + 1) T' e' (by simpa using h1) (by simpa using h2))
theorem vrefs : ∀ as : List Addr, Vals (as.map V.ref) (as.map Value.ref)
  | [] => .nil
  | _ :: r => .cons rfl (vrefs r)
theorem call_list_items (hc : X.calm = true) : CallR X (.type "list") (rListItems X.prog X.w) := by
  intro pins s σ H xs us Q I r h
  obtain ⟨p, a, kvs, rfl, hp, hd, q⟩ := h
  obtain ⟨u, rfl, rx⟩ := vals1 r
  cases rx
  have view : s.heap.IsItemsView p a := (show ObjOk X.prog X.w H s.heap p (DX.itemsO p a) from I.hok p _ hp).1
  obtain ⟨z, hs, xs', rel, o, es, ep, ho, hx, hdt, he, _⟩ := ndo_raw (rd_of I.hok hd)
  obtain ⟨hsz, ent⟩ := ent_get he rel
  refine PySem.W.dil_call (es := es) (ep := ep) (I.ok.hd hc) view ⟨o, ho, hx, hdt⟩ (by omega) fun h' tk acc c as hk hS hl hG hacc => ?_
  have hS0 : H s.heap.objs.size = none := I.hok.fresh (Nat.le_refl _)
  have lz : (as.map V.ref).length ≤ sizeLine := by rw [List.length_map]; omega
  have I1 : Inv X pins σ (upd H s.heap.objs.size (.lst (as.map V.ref))) { s with heap := h', toks := tk } :=
    I.laid (t' := tk) (o := .lst (as.map V.ref)) hk (Nat.le_refl _) ⟨lz, acc.toList, c, by rw [hacc]; exact vrefs as, by rw [Array.toArray_toList]; exact hS⟩
  have nd : as.Nodup := List.Pairwise.imp (fun h => Nat.ne_of_lt h) hG.rise
  have hfr : ∀ T ∈ as, H T = none := fun T hT => I.hok.fresh (Nat.le_of_lt (hG.above T hT))
  obtain ⟨H2, I2, g, pr⟩ := DX.takeT (P := fun T vs => ∃ (j : Nat) (e : NE), as[j]? = some T ∧ kvs[j]? = some e ∧ vs = [.ref e.2.1, e.2.2]) I as _ I1 nd fun T hT => by
    refine ⟨Nat.le_of_lt (hG.above T hT), by rw [upd_ne (Nat.ne_of_gt (hG.above T hT))]; exact hfr T hT, ?_⟩
    obtain ⟨j, hj⟩ := List.mem_iff_getElem?.mp hT
    obtain ⟨hj', hg⟩ := hG.pairs j T hj
    have hjk : j < kvs.length := by omega
    obtain ⟨en, hen, k1, k2⟩ := ent j kvs[j] (List.getElem?_eq_getElem hjk)
    have een : es[j] = en := by
      rw [Array.getElem?_eq_getElem hj'] at hen
      exact Option.some.inj hen
    refine ⟨[.ref kvs[j].2.1, kvs[j].2.2], ⟨j, kvs[j], hj, List.getElem?_eq_getElem hjk, rfl⟩, fun H2 => ⟨by show 2 ≤ sizeLine; decide, [es[j].key, es[j].val], .cons ?_ (.cons ?_ .nil), ⟨_, hg, rfl, 0, rfl⟩⟩⟩
    · rw [een, k1]; exact rfl
    · rw [een]; exact k2
  have e01 : Evl.Ex H (upd H s.heap.objs.size (.lst (as.map V.ref))) := Evl.Ex.new hS0
  refine ⟨.ref s.heap.objs.size, H2, I2, rfl, q H2 _ as (fun b ob hb => g b ob (e01 b ob hb)) hS0 (g _ _ upd_same) hfr nd (prs_of (by omega) fun j T e h1 h2 => ?_)⟩
  obtain ⟨vs, ⟨j', e', h3, h4, rfl⟩, h5⟩ := pr T (List.mem_of_getElem? h1)
  have : j' = j := by
    have hj1 := (List.getElem?_eq_some_iff.mp h1)
    have hj3 := (List.getElem?_eq_some_iff.mp h3)
    obtain ⟨a1, b1⟩ := hj1
    obtain ⟨a3, b3⟩ := hj3
    have pw := List.pairwise_iff_getElem.mp hG.rise
    rcases Nat.lt_trichotomy j' j with h | h | h
    · have := pw j' j a3 a1 h
      rw [b3, b1] at this
      exact absurd this (Nat.lt_irrefl _)
    · exact h
    · have := pw j j' a1 a3 h
      rw [b3, b1] at this
      exact absurd this (Nat.lt_irrefl _)
  subst this
  rw [h2] at h4
  cases h4
  exact h5
/-! ### dict(pairs) -/
def nMerge (acc kvs : List NE) : List NE := kvs.foldl (fun acc e => nPut acc e.1 e.2.1 e.2.2) acc
theorem NV.merge : ∀ {kvs : List NE} {ys : List (NestedKey × Addr × Value)} {acc : List NE} {xs : List (NestedKey × Addr × Value)}, NV kvs ys → NV acc xs → NV (nMerge acc kvs) (storedAllH xs ys) := by
  intro kvs ys acc xs r
  induction r generalizing acc xs with
  | nil => exact fun q => q
  | @cons p q ps qs h t ih =>
    intro r0
    have e : NV (nPut acc p.1 p.2.1 p.2.2) (storedH xs q.1 q.2.1 q.2.2) := by
      have := NV.put r0 p.1 p.2.1 h.2.2
      rw [← h.1, ← h.2.1]
      exact this
    exact ih e
theorem nMerge_len : ∀ (kvs acc : List NE), (nMerge acc kvs).length ≤ acc.length + kvs.length
  | [], acc => Nat.le_refl _
  | p :: r, acc => by
    have h1 := nMerge_len r (nPut acc p.1 p.2.1 p.2.2)
    have h2 := nPut_len acc p.1 p.2.1 p.2.2
    show (nMerge (nPut acc p.1 p.2.1 p.2.2) r).length ≤ _
    rw [List.length_cons]; omega
theorem pairs_n {pins : List (Addr × Obj)} {σ : L2.St} {H : Hp} {s : Shared} (I : Inv X pins σ H s) : ∀ {Ts : List Addr} {kvs : List NE}, Paired (fun T (e : NE) => SqT X.K H T [.ref e.2.1, e.2.2]) Ts kvs →
    ∃ xs, NV kvs xs ∧ xs.length = Ts.length ∧ ∀ (j : Nat) (x : NestedKey × Addr × Value), xs[j]? = some x → ∃ T, Ts[j]? = some T ∧ s.heap.IsTuple T #[.ref x.2.1, x.2.2]
  | _, _, .nil => ⟨[], .nil, rfl, fun j x h => by simp at h⟩
  | _, _, .cons (a := T) (b := e) (l₁ := Ts) (l₂ := kvs) h t => by
    obtain ⟨xs, h1, h2, h3⟩ := pairs_n I t
    obtain ⟨its, rv, tp, _⟩ := I.tuple h
    cases rv with
    | cons r1 r2 =>
      cases r2 with
      | @cons _ u _ _ r2 r3 =>
        cases r3
        cases r1
        refine ⟨(e.1, e.2.1, u) :: xs, .cons ⟨rfl, rfl, r2⟩ h1, by simp [h2], fun j x hx => ?_⟩
        cases j with
        | zero =>
          simp only [List.getElem?_cons_zero, Option.some.injEq] at hx
          subst hx
          exact ⟨T, rfl, tp⟩
        | succ j =>
          simp only [List.getElem?_cons_succ] at hx ⊢
          exact h3 j x hx
def rDict (P : Program) (w : World) (K : PySem.W.Frag) : List V → Hp → VK → Prop := fun xs H Q => ∃ (a : Addr) (Ts : List Addr) (kvs : List NE), xs = [.ref a] ∧ SqL K H a (Ts.map V.ref) ∧ Paired (fun T (e : NE) => SqT K H T [.ref e.2.1, e.2.2]) Ts kvs ∧ KsAt K H kvs ∧
  ∀ p, H p = none → Q (.ref p) (upd H p (NDo P w p (nMerge [] kvs)))
theorem refs_at' : ∀ {Ts : List Addr} {its : List Value}, Vals (Ts.map V.ref) its → its = Ts.map Value.ref
  | [], _, h => by cases h; rfl
  | _ :: _, _, h => by
    cases h with
    | cons h1 h2 =>
      cases h1
      rw [refs_at' h2]
      rfl
theorem call_dictN (hc : X.calm = true) (hu : X.A.units + 64 < cLine) : CallR X (.type "dict") (rDict X.prog X.w X.K) := by
  intro pins s σ H xs us Q I r h
  obtain ⟨a, Ts, kvs, rfl, hq, hp, hks, q⟩ := h
  obtain ⟨u, rfl, rx⟩ := vals1 r
  cases rx
  obtain ⟨its, rv, ⟨o, n, ho, hcl, hd, hdat⟩, hz⟩ := I.list hq
  obtain rfl := refs_at' rv
  rw [List.length_map] at hz
  obtain ⟨ys, rel, hl, hpr⟩ := pairs_n I hp
  have hTs : Ts.length = kvs.length := Paired.length hp
  have hst := nestedKind_stays (prog := X.prog) (w := X.w)
  have room : (nestedKind X.prog X.w).room X.A.in1.in1 := by
    show X.A.in1.in1.units + 8 < cLine
    have : X.A.in1.in1.units = X.A.units + 1 + 1 := rfl
    omega
  refine call_dict_pairsH (knd := nestedKind X.prog X.w) (ps := ys) (PairArg.list a (Ts.map Value.ref).toArray (fun j => Ts.getD j 0) (ys.map fun x => (Value.ref x.2.1, x.2.2))) (I.ok.hd hc) room ⟨⟨o, n, ho, hcl, hd, hdat⟩, ?_, fun j k v e => ?_⟩ ⟨by rw [List.length_map], fun i key v e => ?_⟩ (fun h' hk x hx => ?_) (by rw [List.length_map, hl]; exact hz) fun h' tk hd' hk => ?_
  · rw [List.size_toArray, List.length_map, List.length_map, hl]
  · rw [List.getElem?_map] at e
    obtain ⟨x, hx, e⟩ := Option.map_eq_some_iff.mp e
    cases e
    obtain ⟨T, hT, ht⟩ := hpr j x hx
    have eT : Ts.getD j 0 = T := by rw [List.getD_eq_getElem?_getD, hT]; rfl
    refine ⟨?_, .inl (by show s.heap.IsTuple (Ts.getD j 0) _; rw [eT]; exact ht)⟩
    show (Ts.map Value.ref).toArray[j]? = some (Value.ref (Ts.getD j 0))
    rw [eT]
    rw [List.getElem?_toArray, List.getElem?_map, hT]
    rfl
  · have e' : (ys.map fun x => (Value.ref x.2.1, x.2.2))[i]? = some (key, v) := e
    rw [List.getElem?_map] at e'
    obtain ⟨x, hx, e'⟩ := Option.map_eq_some_iff.mp e'
    cases e'
    exact ⟨x.1, x.2.1, hx, rfl⟩
  · obtain ⟨e, he, e1, e2⟩ := nv_mem rel x hx
    rw [← e1, ← e2]
    exact hst.stays (fun b ob _ _ g _ => hk b ob (Nat.ne_of_lt (Heap.lt_size g)) (fun z => nomatch z) g) (key_is I (hks e he))
  · have hm : (s.heap.objs.size == sysModules) = false := beq_eq_false_iff_ne.mpr (Nat.ne_of_gt I.big)
    have hlen : (nMerge [] kvs).length ≤ sizeLine := by
      have := nMerge_len kvs []
      rw [List.length_nil] at this
      omega
    have hkk : ∀ b o, s.heap.get? b = some o → h'.get? b = some o := fun b o g => hk b o (fun z => nomatch z) g
    exact ⟨.ref s.heap.objs.size, upd H s.heap.objs.size (NDo X.prog X.w s.heap.objs.size (nMerge [] kvs)), I.laid (t' := tk) hkk (Nat.le_refl _) (nd_new hlen hm (NV.merge rel .nil) hd'), rfl, q _ (I.hok.fresh (Nat.le_refl _))⟩
end
/-! ### d.setdefault(k, x) -/
section
variable {X : Cx} {o e f : Expr} {apos cpos : Pos} {td ty tx : TE}
def tSetd (P : Program) (w : World) (K : PySem.W.Frag) (td ty tx : TE) : TE := fun σ H Q => td σ H fun x H1 => ∃ a kvs, x = .ref a ∧ Rd H1 a (NDo P w a kvs) ∧ ty σ H1 fun y H2 => tx σ H2 fun d H3 => ∃ b k kvs, y = .ref b ∧ H3 a = some (NDo P w a kvs) ∧ KsAt K H3 kvs ∧ KeyAt K H3 b k ∧ kvs.length < sizeLine ∧
  (∀ v, nGet kvs k = some v → Q v H3) ∧ (nGet kvs k = none → Q d (upd H3 a (NDo P w a (kvs ++ [(k, b, d)]))))
theorem pe_setd (hu : X.A.units + 64 < cLine) (ho : PE X o td) (he : PE X e ty) (hf : PE X f tx) (m : M2 X o "setdefault" apos e f cpos) : PE X (.Call (.Attribute o "setdefault" apos) [e, f] [] cpos) (tSetd X.prog X.w X.K td ty tx) := by
  refine ⟨fun pins s σ H Q I h => ?_⟩
  refine wpAny_Call_method m.base m.few m.line PySem.F.plainAttrs_dict PySem.F.slot_dict_setdefault PySem.F.type_dict_setdefault (thn (ho.run pins s σ H _ I h) fun u s1 ⟨x, H1, I1, rx, a, kvs0, ex, d, q1⟩ => ?_)
  subst ex
  obtain rfl : u = Value.ref a := rx
  obtain ⟨t1, t2⟩ := nd_typeIs I1 d
  refine ⟨t1, t2, ?_⟩
  rw [m.trees]
  refine Calls.callWith_builtin rfl (Calls.evalArgs_plain (Calls.spliced_cons (thn (he.run pins s1 σ H1 _ I1 q1) fun iv s2 ⟨y, H2, I2, ry, q2⟩ =>
    Calls.spliced_cons (thn (hf.run pins s2 σ H2 _ I2 q2) fun fv s3 ⟨z, H3, I3, rz, b, k, kvs, ey, g, ks, kb, hl, q3, q4⟩ => Calls.spliced_nil ?_))))
  subst ey
  obtain rfl : iv = Value.ref b := ry
  obtain ⟨zz, hd, xs, rel, dd⟩ := nd_rd I3 (.inl g) ks
  have hz : xs.length ≤ sizeLine := by rw [← Paired.length rel]; exact zz
  have rv := NV.val rel k
  refine call_setdefault_heap (hsz := hz) (room9 hu) (key_is I3 kb) hd dd (fun p hp => ?_) fun hn h' dd' hs => ?_
  · rw [hp] at rv
    cases hg : nGet kvs k with
    | none => rw [hg] at rv; exact (show False from rv).elim
    | some v =>
      rw [hg] at rv
      exact ⟨v, H3, I3.tok _, rv, q3 v hg⟩
  · rw [hn] at rv
    have hg : nGet kvs k = none := by
      cases hg : nGet kvs k with
      | none => rfl
      | some v => rw [hg] at rv; exact (show False from rv).elim
    obtain ⟨q, es, ep, hq, h2, h3, h4, h6, h5⟩ := id dd'
    have rel' := NV.put rel k b rz
    rw [nPut_new hg] at rel'
    exact ⟨z, _, d_write I3 (by rw [g]; exact True.intro) hs ⟨q, hq⟩ (nd_new (by rw [List.length_append]; simp; omega) hd rel' dd'), rz, q4 hg⟩
end
/-! ### list(d): the keys -/
section
variable {X : Cx}
def rListKeys (P : Program) (w : World) : List V → Hp → VK → Prop := fun xs H Q => ∃ (a : Addr) (kvs : List NE), xs = [.ref a] ∧ Rd H a (NDo P w a kvs) ∧ ∀ l, H l = none → Q (.ref l) (upd H l (.lst (kvs.map fun e => V.ref e.2.1)))
theorem call_list_keys (hc : X.calm = true) : CallR X (.type "list") (rListKeys X.prog X.w) := by
  intro pins s σ H xs us Q I r h
  obtain ⟨d, kvs, rfl, hd, q⟩ := h
  obtain ⟨u, rfl, rx⟩ := vals1 r
  cases rx
  obtain ⟨z, hs, ks, pr, o, es, ep, ho, hx, hdt, he, hn⟩ := ndo_raw (rd_of I.hok hd)
  obtain ⟨hsz, ent⟩ := ent_get he pr
  refine PySem.W.kdl_call (kdl_raw hs hx hdt) (I.ok.hd hc) ho (by omega) fun h' tk acc' c' kp e it => ?_
  have rv : Vals (kvs.map fun e => V.ref e.2.1) acc'.toList := by
    refine vals_of_at (by rw [List.length_map]; have h1 := it.1; have h2 : acc'.toList.length = acc'.size := (by simp); omega) fun j x u h1 h2 => ?_
    rw [List.getElem?_map] at h1
    obtain ⟨e0, he0, rfl⟩ := Option.map_eq_some_iff.mp h1
    obtain ⟨en, hen, hv⟩ := it.2 j u (by rw [← Array.getElem?_toList]; exact h2)
    obtain ⟨en', hen', k1, _⟩ := ent j e0 he0
    rw [hen] at hen'
    cases hen'
    rw [hv, k1]
    exact rfl
  have hz : (kvs.map fun e => V.ref e.2.1).length ≤ sizeLine := by rw [List.length_map]; exact z
  refine ⟨.ref s.heap.objs.size, _, I.laid (t' := tk) (o := .lst (kvs.map fun e => V.ref e.2.1)) kp (Nat.le_refl _) ?_, rfl, q _ (I.hok.fresh (Nat.le_refl _))⟩
  exact ⟨hz, acc'.toList, c', rv, by rw [Array.toArray_toList]; exact e⟩
end
end ND
namespace ND
open PySem PySem.Spec PyProof.Rows L2
section
variable {X : Cx}
def rIn (P : Program) (w : World) (K : PySem.W.Frag) : R2 := fun y x H Q => ∃ a b k kvs, x = .ref a ∧ y = .ref b ∧ Rd H a (NDo P w a kvs) ∧ KsAt K H kvs ∧ KeyAt K H b k ∧ Q (.bl (nGet kvs k).isSome) H
def rNotIn (P : Program) (w : World) (K : PySem.W.Frag) : R2 := fun y x H Q => ∃ a b k kvs, x = .ref a ∧ y = .ref b ∧ Rd H a (NDo P w a kvs) ∧ KsAt K H kvs ∧ KeyAt K H b k ∧ Q (.bl (!(nGet kvs k).isSome)) H
theorem op_in (hu : X.A.units + 64 < cLine) : OpR X (compareOp .In) (rIn X.prog X.w X.K) := by
  intro pins s σ H y x v u Q I ry rx h
  obtain ⟨a, b, k, kvs, ex, ey, g, ks, kb, q⟩ := h
  subst ex ey
  cases (show u = Value.ref a from rx)
  cases (show v = Value.ref b from ry)
  exact n_in hu I g ks kb fun s3 I3 => ⟨.bl (nGet kvs k).isSome, H, I3, rfl, q⟩
theorem op_notIn (hu : X.A.units + 64 < cLine) : OpR X (compareOp .NotIn) (rNotIn X.prog X.w X.K) := by
  intro pins s σ H y x v u Q I ry rx h
  obtain ⟨a, b, k, kvs, ex, ey, g, ks, kb, q⟩ := h
  subst ex ey
  cases (show u = Value.ref a from rx)
  cases (show v = Value.ref b from ry)
  exact n_notIn hu I g ks kb fun s3 I3 => ⟨.bl (!(nGet kvs k).isSome), H, I3, rfl, q⟩
end
end ND
/-! a != b of two instances of a class that has its own == ; get of a written dict -/
namespace NeX
open PySem PySem.W PyProof.Rows PySem.Spec
section
variable {prog : Program} {w : World} {A : Around} {E : Value → Shared → Prop} {s : Shared} {K : Frag} {x C L f : Addr} {h₀ : Heap} {m : Str → Option Value} {ox : Obj} {od : Option Obj} {b : Value}
theorem ifBound_ne {args : List Value} {Q : Option Value → Shared → Prop} (X : K.In s.heap) (I : InstAt s.heap x ox C od) (hs : findIn K (.ref C) "__ne__" = some (some (.builtin "object.__ne__")))
    (h : wpAny (model prog w) A (call (.builtin "object.__ne__") (.ref x :: args)) (fun v => Q (some v)) E s) : wpAny (model prog w) A (callSpecialIfBound? (.ref x) "__ne__" args) Q E s := by
  simp only [callSpecialIfBound?, bindSpecialIfBound?]
  refine wpAny_holding (wpAny_bind (wpAny_bind (wpAny_bind (I.type.here ((looks_findIn X hs).here ?_)))))
  refine wpAny_bind (wpAny_askSetting (wpAny_ite ?_))
  have fin : wpAny (model prog w) A (call (.builtin "object.__ne__") ([.ref x] ++ args) >>= fun v => pure (some v)) Q E s := wpAny_bind (wpAny_mono h (fun v s' h' => wpAny_pure h') fun _ _ h' => h')
  have hb := F.slot_object_ne.bind (.ref x)
  split
  · exact wpAny_bind (wpAny_of_eq hb (wpAny_pure (by exact fin)))
  · exact wpAny_tryCatch (wpAny_bind (wpAny_of_eq hb (wpAny_pure (by exact fin))))
theorem ne_K {y : Addr} {oy : Obj} {ody : Option Obj} {Q : Value → Shared → Prop} (hu : A.units + 1 < cLine) (X : K.In s.heap) (I : InstAt s.heap x ox C od) (J : InstAt s.heap y oy C ody)
    (hs : findIn K (.ref C) "__ne__" = some (some (.builtin "object.__ne__"))) (he : findIn K (.ref C) "__eq__" = some (some (.ref f))) (hf : isFn K (.ref f) = true) (ho : mroIn K C (.type "object") = some true)
    (h : wpAny (model prog w) A.in1 (call (.ref f) [.ref x, .ref y]) (fun v s' => ∃ c, v = .bool c ∧ Q (.bool (!c)) s') E s) : wpAny (model prog w) A (richCompare .NotEq (.ref x) (.ref y)) Q E s := by
  have one : wpAny (model prog w) A (tryCompare (.ref x) "__ne__" (.ref y)) (fun r s' => ∃ v, r = some v ∧ Q v s') E s := by
    unfold tryCompare
    refine wpAny_bind (ifBound_ne X I hs ?_)
    have sub : Looks (model prog w) s.heap (isInstance (.ref x) (.type "object")) true := I.type.andThen (looks_mroIn X ho)
    refine wpAny_call (codeAny_call_builtin F.slot_object_ne.plain F.entry_object_ne (@check_slot (model prog w) _ _ s "object.__ne__" "object" "__ne__" (.ref x) [.ref y] [] _ (by decide +kernel) (by decide +kernel) sub (F.args_object_ne_2 _ _) ?_))
    show wpAny _ _ (slotArgs "__ne__" 1 ⟨[.ref x, .ref y], []⟩ >>= _) _ _ s
    refine wpAny_bind (wpAny_of_eq (a := (.ref x, [.ref y])) rfl ?_)
    refine wpAny_bind (wpAny_cRoomFor (by show A.units + 1 < cLine; exact hu) ?_)
    refine wpAny_bind (ifBound_K X I he hf (wpAny_mono h (fun v s' hv => ?_) fun _ _ e => e))
    obtain ⟨c, rfl, hq⟩ := hv
    refine wpAny_bind (wpAny_truthy_bool (wpAny_pure ?_))
    exact wpAny_pure ⟨_, rfl, hq⟩
  unfold richCompare
  simp only [oneThing_ref]
  refine wpAny_holding (wpAny_bind (wpAny_cRoomFor (by omega) ?_))
  refine wpAny_bind (I.type.here (wpAny_bind (J.type.here ?_)))
  rw [if_neg (by simp)]
  refine wpAny_bind (wpAny_pure ?_)
  simp only [Bool.false_eq_true, if_false]
  refine wpAny_bind (wpAny_mono one (fun r s' z => ?_) fun _ _ e => e)
  obtain ⟨v, rfl, hq⟩ := z
  exact wpAny_pure hq
end
end NeX
namespace LL
open PySem PySem.Spec PyProof.Rows L2
section
variable {X : Cx} {CX : CXT} {n : Nat} {C g : Addr} {sp : Sp} {E : XK}
/-- a != b by the class's own == -/
def rOwnNe (C : Addr) (sp : Sp) (E : XK) : R2 := fun x y H Q => ∃ a dx fs b dy gs, x = .ref a ∧ y = .ref b ∧ H a = some (.ins C dx fs) ∧ H b = some (.ins C dy gs) ∧ sp [x, y] H (fun z H' => ∃ c, z = .bl c ∧ Q (.bl (!c)) H') E
theorem op_ownNe (hn : PySem.W.findIn X.K (.ref C) "__ne__" = some (some (.builtin "object.__ne__"))) (hs : PySem.W.findIn X.K (.ref C) "__eq__" = some (some (.ref g))) (hf : PySem.W.isFn X.K (.ref g) = true) (ho : PySem.W.mroIn X.K C (.type "object") = some true) (F : FnR X.prog X.w X.K X.mg X.base CX n g sp)
    (hr : Room (n + 1) X.A) (hx : Passes CX X E) : OpR X (compareOp .NotEq) (rOwnNe C sp E) := by
  intro pins s σ H x y v u Q I rx ry h
  obtain ⟨a, dx, fs, b, dy, gs, rfl, rfl, ha, hb, q⟩ := h
  cases (show v = Value.ref a from rx)
  cases (show u = Value.ref b from ry)
  obtain ⟨mA, O, _⟩ := ins_get I.hok ha
  obtain ⟨od, J, _⟩ := O.look
  obtain ⟨mB, O2, _⟩ := ins_get I.hok hb
  obtain ⟨od2, J2, _⟩ := O2.look
  show wpAny (model X.prog X.w) X.A (richCompare .NotEq (.ref a) (.ref b)) _ _ s
  refine NeX.ne_K (hu_of hr) I.kIn J J2 hn hs hf ho ?_
  have e0 : Env0 X.prog X.w X.K X.mg X.base X.A.in1 X.stack s H := by
    have e := I.env0
    exact ⟨e.frames, e.mod, e.bs, e.bsz, e.funs, e.frf, e.hok, e.bare⟩
  refine wpAny_call (codeAny_mono (F X.A.in1 X.stack s H [.ref a, .ref b] [.ref a, .ref b] _ E hr.in1 e0 (.cons rfl (.cons rfl .nil)) q) fun r s' hq => ?_)
  cases r with
  | error e => exact hx pins σ H s e s' I hq
  | ok fl =>
    cases fl with
    | ret w =>
      obtain ⟨z, H', I', rz, c, ez, ex⟩ := I.after hq
      subst ez
      cases rz
      exact ⟨c, rfl, .bl (!c), H', I', rfl, ex⟩
    | next => exact False.elim hq
    | brk => exact False.elim hq
    | cont => exact False.elim hq
end
/-! ### get of a written dict with text keys -/
def KGet (K : PySem.W.Frag) (w : World) (a : Addr) (x : Str) (o : Option V) : Prop :=
  ∃ es n u, K.lookup a = some ⟨.type "dict", none, .dict es n, #[]⟩ ∧ PySem.W.KeysLit w.params es.toList ∧ PySem.W.nsIn K a x = some u ∧ RelO o u
def tKGet2 (K : PySem.W.Frag) (w : World) (td ty tx : TE) : TE := fun σ H Q => td σ H fun x H1 => ∃ a, x = .ref a ∧ (∃ z o, KGet K w a z o) ∧ (a == sysModules) = false ∧ ty σ H1 fun y H2 => tx σ H2 fun d H3 => ∃ z o, y = .str z ∧ KGet K w a z o ∧ Q (o.getD d) H3
section
variable {X : Cx} {o e f : Expr} {apos cpos : Pos} {td ty tx : TE}
theorem pe_kget2 (ho : PE X o td) (he : PE X e ty) (hf : PE X f tx) (m : M2 X o "get" apos e f cpos) : PE X (.Call (.Attribute o "get" apos) [e, f] [] cpos) (tKGet2 X.K X.w td ty tx) := by
  refine ⟨fun pins s σ H Q I h => ?_⟩
  refine wpAny_Call_method m.base m.few m.line PySem.F.plainAttrs_dict PySem.F.slot_dict_get PySem.F.type_dict_get (thn (ho.run pins s σ H _ I h) fun u s1 ⟨x, H1, I1, rx, a, ex, ⟨z0, o0, es0, n0, u0, hl0, hk0, _⟩, hsys, q1⟩ => ?_)
  subst ex
  obtain rfl : u = Value.ref a := rx
  have hm := PySem.W.mapOf_K (prog := X.prog) (w := X.w) I1.kIn hl0 hk0
  refine ⟨hm.typeIs, hm.noDict, ?_⟩
  rw [m.trees]
  refine Calls.callWith_builtin rfl (Calls.evalArgs_plain (Calls.spliced_cons (thn (he.run pins s1 σ H1 _ I1 q1) fun iv s2 ⟨y, H2, I2, ry, q2⟩ =>
    Calls.spliced_cons (thn (hf.run pins s2 σ H2 _ I2 q2) fun fv s3 ⟨d, H3, I3, rd, z, oo, ey, ⟨es, n, uo, hl, hk, hn, ro⟩, q3⟩ => Calls.spliced_nil ?_))))
  subst ey
  obtain ⟨t, rfl⟩ := ry
  have hm3 := PySem.W.mapOf_K (prog := X.prog) (w := X.w) I3.kIn hl hk
  refine call_meetsIn PySem.F.slot_dict_get hm3.typeIs PySem.F.entry_dict_get (PySem.F.args_dict_get_3 _ _ _) (meets_dict_get_default (strKind X.prog X.w) a (strKind_is X.prog X.w z t) hsys fv) ⟨_, hm3, ⟨oo.getD d, H3, I3.tok _, ?_, q3⟩⟩
  rw [PySem.W.find_K hl hn]
  exact ro.getD rd
end
/-- what a written dict holds, from the head's facts -/
theorem kget_of {K : PySem.W.Frag} {w : World} {a : Addr} {kvs : List (Str × He.Dv)} (h : He.dicW K a = some (He.keysIn w.params (kvs.map (·.1)))) (hv : He.valsB K a kvs = true) :
    (a == sysModules) = false ∧ ∀ z : Str, KGet K w a z ((kvs.lookup z).map (He.Dv.v K)) := by
  have h0 := h
  unfold He.dicW at h
  cases q : K.lookup a with
  | none => rw [q] at h; cases h
  | some o =>
    obtain ⟨oc, od, dt, osl⟩ := o
    rw [q] at h
    cases oc with
    | type c =>
      cases od with
      | none =>
        cases dt with
        | dict es n =>
          have h1 : (match decide (c = "dict") && (osl.isEmpty && !(a == sysModules)) with
            | true => some (es.toList.map He.keyOf)
            | false => none) = some (He.keysIn w.params (kvs.map (·.1))) := h
          cases z : decide (c = "dict") && (osl.isEmpty && !(a == sysModules)) with
          | false => rw [z] at h1; cases h1
          | true =>
            rw [z] at h1
            obtain ⟨z1, z2⟩ := Bool.and_eq_true_iff.mp z
            obtain ⟨z3, z4⟩ := Bool.and_eq_true_iff.mp z2
            have e1 : c = "dict" := of_decide_eq_true z1
            have e2 : osl = #[] := Array.isEmpty_iff.mp z3
            subst e1 e2
            have hk := He.keysLit_of (Option.some.inj h1)
            refine ⟨by simpa using z4, fun x => ?_⟩
            have hkey : es.toList.map He.keyOf = He.keysIn w.params (kvs.map (·.1)) := Option.some.inj h1
            by_cases hx : ∃ p ∈ kvs, p.1 = x
            · -- there
              have hl : ∃ d, kvs.lookup x = some d ∧ (x, d) ∈ kvs := by
                clear hv h0 h h1 hkey hk
                induction kvs with
                | nil => obtain ⟨p, hp, _⟩ := hx; cases hp
                | cons p r ih =>
                  obtain ⟨p1, p2⟩ := p
                  by_cases e : x = p1
                  · subst e
                    exact ⟨p2, by simp [List.lookup], .head _⟩
                  · have e' : (x == p1) = false := by simpa using e
                    obtain ⟨d, h1, h2⟩ := ih (by
                      obtain ⟨p, hp, he⟩ := hx
                      rcases List.mem_cons.mp hp with rfl | hp
                      · exact absurd he.symm e
                      · exact ⟨p, hp, he⟩)
                    exact ⟨d, by simp [List.lookup, e', h1], .tail _ h2⟩
              obtain ⟨d, hl, hm⟩ := hl
              obtain ⟨u, hu, ru⟩ := He.valsB_ok hv hm
              rw [hl]
              exact ⟨es, n, some u, q, hk, hu, ru⟩
            · have hn : kvs.lookup x = none := by
                clear hv h0 h h1 hkey hk
                induction kvs with
                | nil => rfl
                | cons p r ih =>
                  obtain ⟨p1, p2⟩ := p
                  have e : ¬ x = p1 := fun e => hx ⟨_, .head _, e.symm⟩
                  have e' : (x == p1) = false := by simpa using e
                  have := ih fun ⟨p, hp, he⟩ => hx ⟨p, .tail _ hp, he⟩
                  simp [List.lookup, e', this]
              rw [hn]
              refine ⟨es, n, none, q, hk, ?_, True.intro⟩
              unfold PySem.W.nsIn
              rw [q]
              have keys : ∀ e ∈ es.toList, ∃ y t, e.key = .str y t ∧ y ∈ kvs.map (·.1) := by
                intro e he
                obtain ⟨y, t, e1, _⟩ := hk.all e he
                refine ⟨y, t, e1, ?_⟩
                have : He.keyOf e ∈ He.keysIn w.params (kvs.map (·.1)) := by rw [← hkey]; exact List.mem_map_of_mem he
                unfold He.keyOf at this
                rw [e1] at this
                unfold He.keysIn at this
                obtain ⟨k, hk1, hk2⟩ := List.mem_map.mp this
                have := (Prod.mk.inj (Option.some.inj hk2)).1
                rw [← this]
                exact hk1
              have f1 : es.toList.find? (·.key.isStr x) = none := List.find?_eq_none.mpr fun e he => by
                obtain ⟨y, t, e1, hy⟩ := keys e he
                rw [e1]
                intro hz
                have : y = x := by
                  simp only [Value.isStr] at hz
                  simpa using hz
                subst this
                obtain ⟨p, hp, he⟩ := List.mem_map.mp hy
                exact hx ⟨p, hp, he⟩
              have f2 : es.toList.any (·.refKey) = false := by
                rw [List.any_eq_false]
                intro e he
                obtain ⟨y, t, e1, _⟩ := keys e he
                simp [DictEntry.refKey, e1]
              simp only [f1, f2]
              rfl
        | _ => cases h
      | some b => cases dt <;> cases h
    | _ => cases od <;> cases dt <;> cases h
end LL
namespace LL
open PySem PySem.Spec PyProof.Rows L2 He
/-! ### the row's places (printed by gen.py) -/
abbrev R : PySem.W.OpenRow := PySem.W.OpenLaw.row PySem.Challenge.rw_lostleast_k10_trees
def PR : Program := R.prog
def top (i : Nat) : Stmt := PySem.Challenge.pw_lostleast_k10_trees.main.body.getD i (.Pass ⟨0, 0, 0, 0⟩)
abbrev s_End_init : Stmt := inClass (top 13) 0
abbrev n_End_init : List Str := ["self", "paid"]
theorem sc_End_init : FnScope n_End_init ["self", "paid"] (defScope s_End_init) := ⟨rfl, rfl, rfl, by decide +kernel, rfl, by decide +kernel, by decide +kernel⟩
abbrev s_Lot_init : Stmt := inClass (top 14) 0
abbrev n_Lot_init : List Str := ["self", "parts"]
theorem sc_Lot_init : FnScope n_Lot_init ["self", "parts"] (defScope s_Lot_init) := ⟨rfl, rfl, rfl, by decide +kernel, rfl, by decide +kernel, by decide +kernel⟩
abbrev s_Move_init : Stmt := inClass (top 15) 0
abbrev n_Move_init : List Str := ["self", "seat", "view", "parts"]
theorem sc_Move_init : FnScope n_Move_init ["self", "seat", "view", "parts"] (defScope s_Move_init) := ⟨rfl, rfl, rfl, by decide +kernel, rfl, by decide +kernel, by decide +kernel⟩
abbrev s_combine : Stmt := top 16
abbrev n_combine : List Str := ["sign", "left", "right"]
theorem sc_combine : FnScope n_combine ["sign", "left", "right"] (defScope s_combine) := ⟨rfl, rfl, rfl, by decide +kernel, rfl, by decide +kernel, by decide +kernel⟩
abbrev s_value_of : Stmt := top 17
abbrev n_value_of : List Str := ["expression", "table"]
theorem sc_value_of : FnScope n_value_of ["expression", "table"] (defScope s_value_of) := ⟨rfl, rfl, rfl, by decide +kernel, rfl, by decide +kernel, by decide +kernel⟩
abbrev s_Way_init : Stmt := inClass (top 18) 0
abbrev n_Way_init : List Str := ["self", "table", "views", "paid"]
theorem sc_Way_init : FnScope n_Way_init ["self", "table", "views", "paid"] (defScope s_Way_init) := ⟨rfl, rfl, rfl, by decide +kernel, rfl, by decide +kernel, by decide +kernel⟩
abbrev s_Way_stored : Stmt := inClass (top 18) 1
abbrev n_Way_stored : List Str := ["self", "name", "number", "size", "table"]
theorem sc_Way_stored : FnScope n_Way_stored ["self", "name", "number", "size"] (defScope s_Way_stored) := ⟨rfl, rfl, rfl, by decide +kernel, rfl, by decide +kernel, by decide +kernel⟩
abbrev s_Way_seen : Stmt := inClass (top 18) 2
abbrev n_Way_seen : List Str := ["self", "seat", "event", "views"]
theorem sc_Way_seen : FnScope n_Way_seen ["self", "seat", "event"] (defScope s_Way_seen) := ⟨rfl, rfl, rfl, by decide +kernel, rfl, by decide +kernel, by decide +kernel⟩
abbrev s_Builder_init : Stmt := inClass (top 19) 0
abbrev n_Builder_init : List Str := ["self", "game"]
theorem sc_Builder_init : FnScope n_Builder_init ["self", "game"] (defScope s_Builder_init) := ⟨rfl, rfl, rfl, by decide +kernel, rfl, by decide +kernel, by decide +kernel⟩
abbrev s_Builder_node : Stmt := inClass (top 19) 1
abbrev n_Builder_node : List Str := ["self", "way", "pending", "row", "number"]
theorem sc_Builder_node : FnScope n_Builder_node ["self", "way", "pending"] (defScope s_Builder_node) := ⟨rfl, rfl, rfl, by decide +kernel, rfl, by decide +kernel, by decide +kernel⟩
abbrev s_Builder_branch : Stmt := inClass (top 19) 2
abbrev n_Builder_branch : List Str := ["self", "way", "row", "pending", "size", "part", "seat", "asked", "parts"]
theorem sc_Builder_branch : FnScope n_Builder_branch ["self", "way", "row", "pending"] (defScope s_Builder_branch) := ⟨rfl, rfl, rfl, by decide +kernel, rfl, by decide +kernel, by decide +kernel⟩
abbrev s_chained : Stmt := top 20
abbrev n_chained : List Str := ["block", "pending", "row"]
theorem sc_chained : FnScope n_chained ["block", "pending"] (defScope s_chained) := ⟨rfl, rfl, rfl, by decide +kernel, rfl, by decide +kernel, by decide +kernel⟩
abbrev s_tree_of : Stmt := top 21
abbrev n_tree_of : List Str := ["game", "table", "name", "_"]
theorem sc_tree_of : FnScope n_tree_of ["game"] (defScope s_tree_of) := ⟨rfl, rfl, rfl, by decide +kernel, rfl, by decide +kernel, by decide +kernel⟩
abbrev s_views_of : Stmt := top 22
abbrev n_views_of : List Str := ["tree", "seat", "found", "nodes", "node"]
theorem sc_views_of : FnScope n_views_of ["tree", "seat"] (defScope s_views_of) := ⟨rfl, rfl, rfl, by decide +kernel, rfl, by decide +kernel, by decide +kernel⟩
abbrev s_ends_of : Stmt := top 23
abbrev n_ends_of : List Str := ["tree", "found", "part"]
theorem sc_ends_of : FnScope n_ends_of ["tree"] (defScope s_ends_of) := ⟨rfl, rfl, rfl, by decide +kernel, rfl, by decide +kernel, by decide +kernel⟩
abbrev s_Game_init : Stmt := inClass (top 25) 0
abbrev n_Game_init : List Str := ["self", "variables", "block"]
theorem sc_Game_init : FnScope n_Game_init ["self", "variables", "block"] (defScope s_Game_init) := ⟨rfl, rfl, rfl, by decide +kernel, rfl, by decide +kernel, by decide +kernel⟩
abbrev s_Game_eq : Stmt := inClass (top 25) 1
abbrev n_Game_eq : List Str := ["self", "other"]
theorem sc_Game_eq : FnScope n_Game_eq ["self", "other"] (defScope s_Game_eq) := ⟨rfl, rfl, rfl, by decide +kernel, rfl, by decide +kernel, by decide +kernel⟩
abbrev s_l_pool : Stmt := top 27
abbrev n_l_pool : List Str := ["_law_script", "_law_budget"]
theorem sc_l_pool : FnScope n_l_pool ["_law_script", "_law_budget"] (defScope s_l_pool) := ⟨rfl, rfl, rfl, by decide +kernel, rfl, by decide +kernel, by decide +kernel⟩
abbrev s_l_draw : Stmt := top 28
abbrev n_l_draw : List Str := ["_law_pool_here", "_law_size", "_law_cell", "_law_value_here"]
theorem sc_l_draw : FnScope n_l_draw ["_law_pool_here", "_law_size"] (defScope s_l_draw) := ⟨rfl, rfl, rfl, by decide +kernel, rfl, by decide +kernel, by decide +kernel⟩
abbrev s_l_spend : Stmt := top 29
abbrev n_l_spend : List Str := ["_law_pool_here"]
theorem sc_l_spend : FnScope n_l_spend ["_law_pool_here"] (defScope s_l_spend) := ⟨rfl, rfl, rfl, by decide +kernel, rfl, by decide +kernel, by decide +kernel⟩
abbrev s_l_number : Stmt := top 30
abbrev n_l_number : List Str := ["_law_pool_here"]
theorem sc_l_number : FnScope n_l_number ["_law_pool_here"] (defScope s_l_number) := ⟨rfl, rfl, rfl, by decide +kernel, rfl, by decide +kernel, by decide +kernel⟩
abbrev s_l_same : Stmt := top 31
abbrev n_l_same : List Str := ["_law_actual", "_law_due", "_law_k"]
theorem sc_l_same : FnScope n_l_same ["_law_actual", "_law_due"] (defScope s_l_same) := ⟨rfl, rfl, rfl, by decide +kernel, rfl, by decide +kernel, by decide +kernel⟩
abbrev s_l_value : Stmt := top 32
abbrev n_l_value : List Str := ["_law_pool_here", "_law_names", "_law_deep_here", "_law_kind", "_law_sign", "_law_left"]
theorem sc_l_value : FnScope n_l_value ["_law_pool_here", "_law_names", "_law_deep_here"] (defScope s_l_value) := ⟨rfl, rfl, rfl, by decide +kernel, rfl, by decide +kernel, by decide +kernel⟩
abbrev s_l_statement : Stmt := top 33
abbrev n_l_statement : List Str := ["_law_pool_here", "_law_scope", "_law_room", "_law_kind", "_law_names", "_law_word", "_law_row", "_law_test", "_law_then"]
theorem sc_l_statement : FnScope n_l_statement ["_law_pool_here", "_law_scope", "_law_room"] (defScope s_l_statement) := ⟨rfl, rfl, rfl, by decide +kernel, rfl, by decide +kernel, by decide +kernel⟩
abbrev s_l_block : Stmt := top 34
abbrev n_l_block : List Str := ["_law_pool_here", "_law_scope", "_law_room", "_law_most", "_law_block_here", "_law_k"]
theorem sc_l_block : FnScope n_l_block ["_law_pool_here", "_law_scope", "_law_room", "_law_most"] (defScope s_l_block) := ⟨rfl, rfl, rfl, by decide +kernel, rfl, by decide +kernel, by decide +kernel⟩
abbrev s_l_alike : Stmt := top 35
abbrev n_l_alike : List Str := ["_law_pool_here", "_law_base", "_law_k", "_law_place", "_law_sign"]
theorem sc_l_alike : FnScope n_l_alike ["_law_pool_here"] (defScope s_l_alike) := ⟨rfl, rfl, rfl, by decide +kernel, rfl, by decide +kernel, by decide +kernel⟩
abbrev s_l_game : Stmt := top 36
abbrev n_l_game : List Str := ["_law_pool_here", "_law_moves", "_law_most", "_law_named", "_law_names", "_law_variables", "_law_k", "_law_large", "_law_row", "_law_scope"]
theorem sc_l_game : FnScope n_l_game ["_law_pool_here", "_law_moves", "_law_most"] (defScope s_l_game) := ⟨rfl, rfl, rfl, by decide +kernel, rfl, by decide +kernel, by decide +kernel⟩
abbrev s_l_number_of : Stmt := top 37
abbrev n_l_number_of : List Str := ["_law_due", "_law_table", "_law_a", "_law_b", "_law_whole"]
theorem sc_l_number_of : FnScope n_l_number_of ["_law_due", "_law_table"] (defScope s_l_number_of) := ⟨rfl, rfl, rfl, by decide +kernel, rfl, by decide +kernel, by decide +kernel⟩
abbrev s_l_stored : Stmt := top 38
abbrev n_l_stored : List Str := ["_law_game_here", "_law_table", "_law_name", "_law_value_here", "_law_after", "_law_own", "_law_size"]
theorem sc_l_stored : FnScope n_l_stored ["_law_game_here", "_law_table", "_law_name", "_law_value_here"] (defScope s_l_stored) := ⟨rfl, rfl, rfl, by decide +kernel, rfl, by decide +kernel, by decide +kernel⟩
abbrev s_l_node : Stmt := top 39
abbrev n_l_node : List Str := ["_law_game_here", "_law_table", "_law_views_here", "_law_paid", "_law_block_here", "_law_count", "_law_turn", "_law_due", "_law_place", "_law_event", "_law_asked", "_law_parts_here", "_law_part", "_law_after"]
theorem sc_l_node : FnScope n_l_node ["_law_game_here", "_law_table", "_law_views_here", "_law_paid", "_law_block_here", "_law_count"] (defScope s_l_node) := ⟨rfl, rfl, rfl, by decide +kernel, rfl, by decide +kernel, by decide +kernel⟩
abbrev s_l_tree : Stmt := top 40
abbrev n_l_tree : List Str := ["_law_game_here", "_law_table", "_law_name", "_law_size", "_law_count", "_law_tree_here"]
theorem sc_l_tree : FnScope n_l_tree ["_law_game_here"] (defScope s_l_tree) := ⟨rfl, rfl, rfl, by decide +kernel, rfl, by decide +kernel, by decide +kernel⟩
abbrev s_l_parts : Stmt := top 41
abbrev n_l_parts : List Str := ["_law_node_here"]
theorem sc_l_parts : FnScope n_l_parts ["_law_node_here"] (defScope s_l_parts) := ⟨rfl, rfl, rfl, by decide +kernel, rfl, by decide +kernel, by decide +kernel⟩
abbrev s_l_views : Stmt := top 42
abbrev n_l_views : List Str := ["_law_node_here", "_law_seat", "_law_found", "_law_part"]
theorem sc_l_views : FnScope n_l_views ["_law_node_here", "_law_seat", "_law_found"] (defScope s_l_views) := ⟨rfl, rfl, rfl, by decide +kernel, rfl, by decide +kernel, by decide +kernel⟩
abbrev s_l_by_hand : Stmt := top 43
abbrev n_l_by_hand : List Str := ["_law_due", "_law_part", "_law_parts_here"]
theorem sc_l_by_hand : FnScope n_l_by_hand ["_law_due"] (defScope s_l_by_hand) := ⟨rfl, rfl, rfl, by decide +kernel, rfl, by decide +kernel, by decide +kernel⟩
abbrev s_l_deep : Stmt := top 44
abbrev n_l_deep : List Str := ["_law_pool_here", "_law_names", "_law_deep_here", "_law_value_here", "_law_sign"]
theorem sc_l_deep : FnScope n_l_deep ["_law_pool_here", "_law_names", "_law_deep_here"] (defScope s_l_deep) := ⟨rfl, rfl, rfl, by decide +kernel, rfl, by decide +kernel, by decide +kernel⟩
abbrev s_l_like : Stmt := top 45
abbrev n_l_like : List Str := ["_law_actual", "_law_due", "_law_parts_here", "_law_k"]
theorem sc_l_like : FnScope n_l_like ["_law_actual", "_law_due"] (defScope s_l_like) := ⟨rfl, rfl, rfl, by decide +kernel, rfl, by decide +kernel, by decide +kernel⟩
abbrev s_l_all : Stmt := top 46
abbrev n_l_all : List Str := ["_law_node_here", "_law_found", "_law_part"]
theorem sc_l_all : FnScope n_l_all ["_law_node_here"] (defScope s_l_all) := ⟨rfl, rfl, rfl, by decide +kernel, rfl, by decide +kernel, by decide +kernel⟩
abbrev s_law : Stmt := top 47
abbrev n_law : List Str := ["_law_script", "_law_pool_here", "_law_game_here", "_law_due", "_law_actual", "e", "_law_made", "_law_spoilt", "_law_seat", "_law_views_here", "_law_tree_here", "_law_view"]
theorem sc_law : FnScope n_law ["_law_script"] (defScope s_law) := ⟨rfl, rfl, rfl, by decide +kernel, rfl, by decide +kernel, by decide +kernel⟩
def d_End_init : He.DefD := ⟨("End", some "__init__"), "__init__", "End.__init__", defArgs s_End_init, defBody s_End_init, defScope s_End_init, [], []⟩
def d_Lot_init : He.DefD := ⟨("Lot", some "__init__"), "__init__", "Lot.__init__", defArgs s_Lot_init, defBody s_Lot_init, defScope s_Lot_init, [], []⟩
def d_Move_init : He.DefD := ⟨("Move", some "__init__"), "__init__", "Move.__init__", defArgs s_Move_init, defBody s_Move_init, defScope s_Move_init, [], []⟩
def d_combine : He.DefD := ⟨("combine", none), "combine", "combine", defArgs s_combine, defBody s_combine, defScope s_combine, [], []⟩
def d_value_of : He.DefD := ⟨("value_of", none), "value_of", "value_of", defArgs s_value_of, defBody s_value_of, defScope s_value_of, [], []⟩
def d_Way_init : He.DefD := ⟨("Way", some "__init__"), "__init__", "Way.__init__", defArgs s_Way_init, defBody s_Way_init, defScope s_Way_init, [], []⟩
def d_Way_stored : He.DefD := ⟨("Way", some "stored"), "stored", "Way.stored", defArgs s_Way_stored, defBody s_Way_stored, defScope s_Way_stored, [], []⟩
def d_Way_seen : He.DefD := ⟨("Way", some "seen"), "seen", "Way.seen", defArgs s_Way_seen, defBody s_Way_seen, defScope s_Way_seen, [], []⟩
def d_Builder_init : He.DefD := ⟨("Builder", some "__init__"), "__init__", "Builder.__init__", defArgs s_Builder_init, defBody s_Builder_init, defScope s_Builder_init, [], []⟩
def d_Builder_node : He.DefD := ⟨("Builder", some "node"), "node", "Builder.node", defArgs s_Builder_node, defBody s_Builder_node, defScope s_Builder_node, [], []⟩
def d_Builder_branch : He.DefD := ⟨("Builder", some "branch"), "branch", "Builder.branch", defArgs s_Builder_branch, defBody s_Builder_branch, defScope s_Builder_branch, [], []⟩
def d_chained : He.DefD := ⟨("chained", none), "chained", "chained", defArgs s_chained, defBody s_chained, defScope s_chained, [], []⟩
def d_tree_of : He.DefD := ⟨("tree_of", none), "tree_of", "tree_of", defArgs s_tree_of, defBody s_tree_of, defScope s_tree_of, [], []⟩
def d_views_of : He.DefD := ⟨("views_of", none), "views_of", "views_of", defArgs s_views_of, defBody s_views_of, defScope s_views_of, [], []⟩
def d_ends_of : He.DefD := ⟨("ends_of", none), "ends_of", "ends_of", defArgs s_ends_of, defBody s_ends_of, defScope s_ends_of, [], []⟩
def d_Game_init : He.DefD := ⟨("Game", some "__init__"), "__init__", "Game.__init__", defArgs s_Game_init, defBody s_Game_init, defScope s_Game_init, [], []⟩
def d_Game_eq : He.DefD := ⟨("Game", some "__eq__"), "__eq__", "Game.__eq__", defArgs s_Game_eq, defBody s_Game_eq, defScope s_Game_eq, [], []⟩
def d_l_pool : He.DefD := ⟨("_law_pool", none), "_law_pool", "_law_pool", defArgs s_l_pool, defBody s_l_pool, defScope s_l_pool, [], []⟩
def d_l_draw : He.DefD := ⟨("_law_draw", none), "_law_draw", "_law_draw", defArgs s_l_draw, defBody s_l_draw, defScope s_l_draw, [], []⟩
def d_l_spend : He.DefD := ⟨("_law_spend", none), "_law_spend", "_law_spend", defArgs s_l_spend, defBody s_l_spend, defScope s_l_spend, [], []⟩
def d_l_number : He.DefD := ⟨("_law_number", none), "_law_number", "_law_number", defArgs s_l_number, defBody s_l_number, defScope s_l_number, [], []⟩
def d_l_same : He.DefD := ⟨("_law_same", none), "_law_same", "_law_same", defArgs s_l_same, defBody s_l_same, defScope s_l_same, [], []⟩
def d_l_value : He.DefD := ⟨("_law_value", none), "_law_value", "_law_value", defArgs s_l_value, defBody s_l_value, defScope s_l_value, [], []⟩
def d_l_statement : He.DefD := ⟨("_law_statement", none), "_law_statement", "_law_statement", defArgs s_l_statement, defBody s_l_statement, defScope s_l_statement, [], []⟩
def d_l_block : He.DefD := ⟨("_law_block", none), "_law_block", "_law_block", defArgs s_l_block, defBody s_l_block, defScope s_l_block, [], []⟩
def d_l_alike : He.DefD := ⟨("_law_alike", none), "_law_alike", "_law_alike", defArgs s_l_alike, defBody s_l_alike, defScope s_l_alike, [], []⟩
def d_l_game : He.DefD := ⟨("_law_game", none), "_law_game", "_law_game", defArgs s_l_game, defBody s_l_game, defScope s_l_game, [], []⟩
def d_l_number_of : He.DefD := ⟨("_law_number_of", none), "_law_number_of", "_law_number_of", defArgs s_l_number_of, defBody s_l_number_of, defScope s_l_number_of, [], []⟩
def d_l_stored : He.DefD := ⟨("_law_stored", none), "_law_stored", "_law_stored", defArgs s_l_stored, defBody s_l_stored, defScope s_l_stored, [], []⟩
def d_l_node : He.DefD := ⟨("_law_node", none), "_law_node", "_law_node", defArgs s_l_node, defBody s_l_node, defScope s_l_node, [], []⟩
def d_l_tree : He.DefD := ⟨("_law_tree", none), "_law_tree", "_law_tree", defArgs s_l_tree, defBody s_l_tree, defScope s_l_tree, [], []⟩
def d_l_parts : He.DefD := ⟨("_law_parts", none), "_law_parts", "_law_parts", defArgs s_l_parts, defBody s_l_parts, defScope s_l_parts, [], []⟩
def d_l_views : He.DefD := ⟨("_law_views", none), "_law_views", "_law_views", defArgs s_l_views, defBody s_l_views, defScope s_l_views, [], []⟩
def d_l_by_hand : He.DefD := ⟨("_law_by_hand", none), "_law_by_hand", "_law_by_hand", defArgs s_l_by_hand, defBody s_l_by_hand, defScope s_l_by_hand, [], []⟩
def d_l_deep : He.DefD := ⟨("_law_deep", none), "_law_deep", "_law_deep", defArgs s_l_deep, defBody s_l_deep, defScope s_l_deep, [], []⟩
def d_l_like : He.DefD := ⟨("_law_like", none), "_law_like", "_law_like", defArgs s_l_like, defBody s_l_like, defScope s_l_like, [], []⟩
def d_l_all : He.DefD := ⟨("_law_all", none), "_law_all", "_law_all", defArgs s_l_all, defBody s_l_all, defScope s_l_all, [], []⟩
def d_law : He.DefD := ⟨("law", none), "law", "law", defArgs s_law, defBody s_law, defScope s_law, [], []⟩
def excB (K : PySem.W.Frag) (D : Addr) : Bool := eqO (PySem.W.findIn K (.ref D) "__getattribute__") (some (some (.builtin "BaseException.__getattribute__"))) && (eqO (PySem.W.findIn K (.ref D) "__getattr__") (some none) && (decide (PySem.W.subIn K (.ref D) (.type "BaseException") = some true) && (PySem.W.hasDictIn K D && (eqO (PySem.W.findIn K (.ref D) "__class__") (some (some (.builtin "object.__class__"))) && (eqO (PySem.W.specialIn K (.builtin "object.__class__") "__get__") (some (some (.builtin "getset_descriptor.__get__"))) && (decide (PySem.W.takesIn K (.builtin "object.__class__") = some true) && decide (PySem.W.mroIn K D (.type "object") = some true)))))))
theorem excB_ok {K : PySem.W.Frag} {D : Addr} (h : excB K D = true) : ExcC K D := by
  simp only [excB, Bool.and_eq_true] at h
  obtain ⟨h1, h2, h3, h4, h5, h6, h7, h8⟩ := h
  exact ⟨eqO_ok h1, eqO_ok h2, of_decide_eq_true h3, h4, eqO_ok h5, eqO_ok h6, of_decide_eq_true h7, of_decide_eq_true h8⟩
def fn : List He.DefD := [d_End_init, d_Lot_init, d_Move_init, d_combine, d_value_of, d_Way_init, d_Way_stored, d_Way_seen, d_Builder_init, d_Builder_node, d_Builder_branch, d_chained, d_tree_of, d_views_of, d_ends_of, d_Game_init, d_Game_eq, d_l_pool, d_l_draw, d_l_spend, d_l_number, d_l_same, d_l_value, d_l_statement, d_l_block, d_l_alike, d_l_game, d_l_number_of, d_l_stored, d_l_node, d_l_tree, d_l_parts, d_l_views, d_l_by_hand, d_l_deep, d_l_like, d_l_all, d_law]
def fa : List He.Fa := [
  .glo "combine",
  .glo "value_of",
  .glo "chained",
  .glo "tree_of",
  .glo "views_of",
  .glo "ends_of",
  .glo "_law_pool",
  .glo "_law_draw",
  .glo "_law_spend",
  .glo "_law_number",
  .glo "_law_same",
  .glo "_law_value",
  .glo "_law_statement",
  .glo "_law_block",
  .glo "_law_alike",
  .glo "_law_game",
  .glo "_law_number_of",
  .glo "_law_stored",
  .glo "_law_node",
  .glo "_law_tree",
  .glo "_law_parts",
  .glo "_law_views",
  .glo "_law_by_hand",
  .glo "_law_deep",
  .glo "_law_like",
  .glo "_law_all",
  .glo "law",
  .glo "LossError",
  .exc "LossError",
  .glo "BadText",
  .glo "BadRatio",
  .exc "BadRatio",
  .glo "BadPlan",
  .glo "BadPaper",
  .glo "NoShare",
  .glo "NoPlan",
  .glo "TooLarge",
  .glo "End",
  .cls "End",
  .mkr "End",
  .noat "End" "paid",
  .glo "Lot",
  .cls "Lot",
  .mkr "Lot",
  .noat "Lot" "parts",
  .glo "Move",
  .cls "Move",
  .mkr "Move",
  .noat "Move" "seat",
  .noat "Move" "view",
  .noat "Move" "parts",
  .glo "Way",
  .cls "Way",
  .mkr "Way",
  .noat "Way" "table",
  .noat "Way" "views",
  .noat "Way" "paid",
  .meth "Way" "stored",
  .meth "Way" "seen",
  .glo "Builder",
  .cls "Builder",
  .mkr "Builder",
  .noat "Builder" "sizes",
  .noat "Builder" "count",
  .meth "Builder" "node",
  .meth "Builder" "branch",
  .glo "Game",
  .cls "Game",
  .mkr "Game",
  .noat "Game" "variables",
  .noat "Game" "block",
  .meth "Game" "__eq__",
  .free "ValueError",
  .free "reversed",
  .free "list",
  .free "isinstance",
  .free "int",
  .free "range",
  .free "tuple",
  .free "dict",
  .free "max",
  .free "bool",
  .free "str",
  .free "len",
  .free "super",
  .int "MOST_NODES" 400,
  .int "MODULUS" 65536,
  .glo "NAMES"]
def exs : List (PySem.W.Frag → Bool) := [
  fun K => eqO (PySem.W.findIn K (.ref (ga K "End")) "__class__") (some (some (.builtin "object.__class__"))),
  fun K => decide (PySem.W.mroIn K (ga K "End") (.type "object") = some true),
  fun K => decide (PySem.W.kitOne K (.ref (ga K "End")) (.type "tuple") = some false),
  fun K => decide (PySem.W.kitOne K (.ref (ga K "End")) (.type "list") = some false),
  fun K => decide (PySem.W.kitOne K (.ref (ga K "End")) (.type "bool") = some false),
  fun K => decide (PySem.W.kitOne K (.ref (ga K "End")) (.type "int") = some false),
  fun K => decide (PySem.W.kitOne K (.ref (ga K "End")) (.type "str") = some false),
  fun K => decide (PySem.W.kitOne K (.ref (ga K "End")) (.ref (ga K "End")) = some true),
  fun K => decide (PySem.W.kitOne K (.ref (ga K "End")) (.ref (ga K "Lot")) = some false),
  fun K => decide (PySem.W.kitOne K (.ref (ga K "End")) (.ref (ga K "Move")) = some false),
  fun K => decide (PySem.W.kitOne K (.ref (ga K "End")) (.ref (ga K "Way")) = some false),
  fun K => decide (PySem.W.kitOne K (.ref (ga K "End")) (.ref (ga K "Builder")) = some false),
  fun K => decide (PySem.W.kitOne K (.ref (ga K "End")) (.ref (ga K "Game")) = some false),
  fun K => eqO (PySem.W.findIn K (.ref (ga K "Lot")) "__class__") (some (some (.builtin "object.__class__"))),
  fun K => decide (PySem.W.mroIn K (ga K "Lot") (.type "object") = some true),
  fun K => decide (PySem.W.kitOne K (.ref (ga K "Lot")) (.type "tuple") = some false),
  fun K => decide (PySem.W.kitOne K (.ref (ga K "Lot")) (.type "list") = some false),
  fun K => decide (PySem.W.kitOne K (.ref (ga K "Lot")) (.type "bool") = some false),
  fun K => decide (PySem.W.kitOne K (.ref (ga K "Lot")) (.type "int") = some false),
  fun K => decide (PySem.W.kitOne K (.ref (ga K "Lot")) (.type "str") = some false),
  fun K => decide (PySem.W.kitOne K (.ref (ga K "Lot")) (.ref (ga K "End")) = some false),
  fun K => decide (PySem.W.kitOne K (.ref (ga K "Lot")) (.ref (ga K "Lot")) = some true),
  fun K => decide (PySem.W.kitOne K (.ref (ga K "Lot")) (.ref (ga K "Move")) = some false),
  fun K => decide (PySem.W.kitOne K (.ref (ga K "Lot")) (.ref (ga K "Way")) = some false),
  fun K => decide (PySem.W.kitOne K (.ref (ga K "Lot")) (.ref (ga K "Builder")) = some false),
  fun K => decide (PySem.W.kitOne K (.ref (ga K "Lot")) (.ref (ga K "Game")) = some false),
  fun K => eqO (PySem.W.findIn K (.ref (ga K "Move")) "__class__") (some (some (.builtin "object.__class__"))),
  fun K => decide (PySem.W.mroIn K (ga K "Move") (.type "object") = some true),
  fun K => decide (PySem.W.kitOne K (.ref (ga K "Move")) (.type "tuple") = some false),
  fun K => decide (PySem.W.kitOne K (.ref (ga K "Move")) (.type "list") = some false),
  fun K => decide (PySem.W.kitOne K (.ref (ga K "Move")) (.type "bool") = some false),
  fun K => decide (PySem.W.kitOne K (.ref (ga K "Move")) (.type "int") = some false),
  fun K => decide (PySem.W.kitOne K (.ref (ga K "Move")) (.type "str") = some false),
  fun K => decide (PySem.W.kitOne K (.ref (ga K "Move")) (.ref (ga K "End")) = some false),
  fun K => decide (PySem.W.kitOne K (.ref (ga K "Move")) (.ref (ga K "Lot")) = some false),
  fun K => decide (PySem.W.kitOne K (.ref (ga K "Move")) (.ref (ga K "Move")) = some true),
  fun K => decide (PySem.W.kitOne K (.ref (ga K "Move")) (.ref (ga K "Way")) = some false),
  fun K => decide (PySem.W.kitOne K (.ref (ga K "Move")) (.ref (ga K "Builder")) = some false),
  fun K => decide (PySem.W.kitOne K (.ref (ga K "Move")) (.ref (ga K "Game")) = some false),
  fun K => eqO (PySem.W.findIn K (.ref (ga K "Way")) "__class__") (some (some (.builtin "object.__class__"))),
  fun K => decide (PySem.W.mroIn K (ga K "Way") (.type "object") = some true),
  fun K => decide (PySem.W.kitOne K (.ref (ga K "Way")) (.type "tuple") = some false),
  fun K => decide (PySem.W.kitOne K (.ref (ga K "Way")) (.type "list") = some false),
  fun K => decide (PySem.W.kitOne K (.ref (ga K "Way")) (.type "bool") = some false),
  fun K => decide (PySem.W.kitOne K (.ref (ga K "Way")) (.type "int") = some false),
  fun K => decide (PySem.W.kitOne K (.ref (ga K "Way")) (.type "str") = some false),
  fun K => decide (PySem.W.kitOne K (.ref (ga K "Way")) (.ref (ga K "End")) = some false),
  fun K => decide (PySem.W.kitOne K (.ref (ga K "Way")) (.ref (ga K "Lot")) = some false),
  fun K => decide (PySem.W.kitOne K (.ref (ga K "Way")) (.ref (ga K "Move")) = some false),
  fun K => decide (PySem.W.kitOne K (.ref (ga K "Way")) (.ref (ga K "Way")) = some true),
  fun K => decide (PySem.W.kitOne K (.ref (ga K "Way")) (.ref (ga K "Builder")) = some false),
  fun K => decide (PySem.W.kitOne K (.ref (ga K "Way")) (.ref (ga K "Game")) = some false),
  fun K => eqO (PySem.W.findIn K (.ref (ga K "Builder")) "__class__") (some (some (.builtin "object.__class__"))),
  fun K => decide (PySem.W.mroIn K (ga K "Builder") (.type "object") = some true),
  fun K => decide (PySem.W.kitOne K (.ref (ga K "Builder")) (.type "tuple") = some false),
  fun K => decide (PySem.W.kitOne K (.ref (ga K "Builder")) (.type "list") = some false),
  fun K => decide (PySem.W.kitOne K (.ref (ga K "Builder")) (.type "bool") = some false),
  fun K => decide (PySem.W.kitOne K (.ref (ga K "Builder")) (.type "int") = some false),
  fun K => decide (PySem.W.kitOne K (.ref (ga K "Builder")) (.type "str") = some false),
  fun K => decide (PySem.W.kitOne K (.ref (ga K "Builder")) (.ref (ga K "End")) = some false),
  fun K => decide (PySem.W.kitOne K (.ref (ga K "Builder")) (.ref (ga K "Lot")) = some false),
  fun K => decide (PySem.W.kitOne K (.ref (ga K "Builder")) (.ref (ga K "Move")) = some false),
  fun K => decide (PySem.W.kitOne K (.ref (ga K "Builder")) (.ref (ga K "Way")) = some false),
  fun K => decide (PySem.W.kitOne K (.ref (ga K "Builder")) (.ref (ga K "Builder")) = some true),
  fun K => decide (PySem.W.kitOne K (.ref (ga K "Builder")) (.ref (ga K "Game")) = some false),
  fun K => eqO (PySem.W.findIn K (.ref (ga K "Game")) "__class__") (some (some (.builtin "object.__class__"))),
  fun K => PySem.W.notFirst K (ga K "Game") (.ref (ga K "Game")),
  fun K => eqO (PySem.W.findIn K (.ref (ga K "Game")) "__ne__") (some (some (.builtin "object.__ne__"))),
  fun K => decide (PySem.W.mroIn K (ga K "Game") (.type "object") = some true),
  fun K => decide (PySem.W.kitOne K (.ref (ga K "Game")) (.type "tuple") = some false),
  fun K => decide (PySem.W.kitOne K (.ref (ga K "Game")) (.type "list") = some false),
  fun K => decide (PySem.W.kitOne K (.ref (ga K "Game")) (.type "bool") = some false),
  fun K => decide (PySem.W.kitOne K (.ref (ga K "Game")) (.type "int") = some false),
  fun K => decide (PySem.W.kitOne K (.ref (ga K "Game")) (.type "str") = some false),
  fun K => decide (PySem.W.kitOne K (.ref (ga K "Game")) (.ref (ga K "End")) = some false),
  fun K => decide (PySem.W.kitOne K (.ref (ga K "Game")) (.ref (ga K "Lot")) = some false),
  fun K => decide (PySem.W.kitOne K (.ref (ga K "Game")) (.ref (ga K "Move")) = some false),
  fun K => decide (PySem.W.kitOne K (.ref (ga K "Game")) (.ref (ga K "Way")) = some false),
  fun K => decide (PySem.W.kitOne K (.ref (ga K "Game")) (.ref (ga K "Builder")) = some false),
  fun K => decide (PySem.W.kitOne K (.ref (ga K "Game")) (.ref (ga K "Game")) = some true),
  fun K => eqO (PySem.W.specialIn K (.builtin "object.__class__") "__get__") (some (some (.builtin "getset_descriptor.__get__"))),
  fun K => decide (PySem.W.takesIn K (.builtin "object.__class__") = some true),
  fun K => excB K (ga K "LossError"),
  fun K => decide (PySem.W.exmOne K (.ref (ga K "LossError")) (.ref (ga K "LossError")) = some true),
  fun K => decide (PySem.W.kitOne K (.ref (ga K "LossError")) (.ref (ga K "LossError")) = some true),
  fun K => decide (PySem.W.exmOne K (.ref (ga K "LossError")) (.ref (ga K "BadText")) = some false),
  fun K => decide (PySem.W.kitOne K (.ref (ga K "LossError")) (.ref (ga K "BadText")) = some false),
  fun K => decide (PySem.W.exmOne K (.ref (ga K "LossError")) (.ref (ga K "BadRatio")) = some false),
  fun K => decide (PySem.W.kitOne K (.ref (ga K "LossError")) (.ref (ga K "BadRatio")) = some false),
  fun K => decide (PySem.W.exmOne K (.ref (ga K "LossError")) (.ref (ga K "BadPlan")) = some false),
  fun K => decide (PySem.W.kitOne K (.ref (ga K "LossError")) (.ref (ga K "BadPlan")) = some false),
  fun K => decide (PySem.W.exmOne K (.ref (ga K "LossError")) (.ref (ga K "BadPaper")) = some false),
  fun K => decide (PySem.W.kitOne K (.ref (ga K "LossError")) (.ref (ga K "BadPaper")) = some false),
  fun K => decide (PySem.W.exmOne K (.ref (ga K "LossError")) (.ref (ga K "NoShare")) = some false),
  fun K => decide (PySem.W.kitOne K (.ref (ga K "LossError")) (.ref (ga K "NoShare")) = some false),
  fun K => decide (PySem.W.exmOne K (.ref (ga K "LossError")) (.ref (ga K "NoPlan")) = some false),
  fun K => decide (PySem.W.kitOne K (.ref (ga K "LossError")) (.ref (ga K "NoPlan")) = some false),
  fun K => decide (PySem.W.exmOne K (.ref (ga K "LossError")) (.ref (ga K "TooLarge")) = some false),
  fun K => decide (PySem.W.kitOne K (.ref (ga K "LossError")) (.ref (ga K "TooLarge")) = some false),
  fun K => decide (PySem.W.kitOne K (.ref (ga K "LossError")) (.type "ValueError") = some true),
  fun K => excB K (ga K "BadText"),
  fun K => decide (PySem.W.exmOne K (.ref (ga K "BadText")) (.ref (ga K "LossError")) = some true),
  fun K => decide (PySem.W.kitOne K (.ref (ga K "BadText")) (.ref (ga K "LossError")) = some true),
  fun K => decide (PySem.W.exmOne K (.ref (ga K "BadText")) (.ref (ga K "BadText")) = some true),
  fun K => decide (PySem.W.kitOne K (.ref (ga K "BadText")) (.ref (ga K "BadText")) = some true),
  fun K => decide (PySem.W.exmOne K (.ref (ga K "BadText")) (.ref (ga K "BadRatio")) = some false),
  fun K => decide (PySem.W.kitOne K (.ref (ga K "BadText")) (.ref (ga K "BadRatio")) = some false),
  fun K => decide (PySem.W.exmOne K (.ref (ga K "BadText")) (.ref (ga K "BadPlan")) = some false),
  fun K => decide (PySem.W.kitOne K (.ref (ga K "BadText")) (.ref (ga K "BadPlan")) = some false),
  fun K => decide (PySem.W.exmOne K (.ref (ga K "BadText")) (.ref (ga K "BadPaper")) = some false),
  fun K => decide (PySem.W.kitOne K (.ref (ga K "BadText")) (.ref (ga K "BadPaper")) = some false),
  fun K => decide (PySem.W.exmOne K (.ref (ga K "BadText")) (.ref (ga K "NoShare")) = some false),
  fun K => decide (PySem.W.kitOne K (.ref (ga K "BadText")) (.ref (ga K "NoShare")) = some false),
  fun K => decide (PySem.W.exmOne K (.ref (ga K "BadText")) (.ref (ga K "NoPlan")) = some false),
  fun K => decide (PySem.W.kitOne K (.ref (ga K "BadText")) (.ref (ga K "NoPlan")) = some false),
  fun K => decide (PySem.W.exmOne K (.ref (ga K "BadText")) (.ref (ga K "TooLarge")) = some false),
  fun K => decide (PySem.W.kitOne K (.ref (ga K "BadText")) (.ref (ga K "TooLarge")) = some false),
  fun K => decide (PySem.W.kitOne K (.ref (ga K "BadText")) (.type "ValueError") = some true),
  fun K => excB K (ga K "BadRatio"),
  fun K => decide (PySem.W.exmOne K (.ref (ga K "BadRatio")) (.ref (ga K "LossError")) = some true),
  fun K => decide (PySem.W.kitOne K (.ref (ga K "BadRatio")) (.ref (ga K "LossError")) = some true),
  fun K => decide (PySem.W.exmOne K (.ref (ga K "BadRatio")) (.ref (ga K "BadText")) = some false),
  fun K => decide (PySem.W.kitOne K (.ref (ga K "BadRatio")) (.ref (ga K "BadText")) = some false),
  fun K => decide (PySem.W.exmOne K (.ref (ga K "BadRatio")) (.ref (ga K "BadRatio")) = some true),
  fun K => decide (PySem.W.kitOne K (.ref (ga K "BadRatio")) (.ref (ga K "BadRatio")) = some true),
  fun K => decide (PySem.W.exmOne K (.ref (ga K "BadRatio")) (.ref (ga K "BadPlan")) = some false),
  fun K => decide (PySem.W.kitOne K (.ref (ga K "BadRatio")) (.ref (ga K "BadPlan")) = some false),
  fun K => decide (PySem.W.exmOne K (.ref (ga K "BadRatio")) (.ref (ga K "BadPaper")) = some false),
  fun K => decide (PySem.W.kitOne K (.ref (ga K "BadRatio")) (.ref (ga K "BadPaper")) = some false),
  fun K => decide (PySem.W.exmOne K (.ref (ga K "BadRatio")) (.ref (ga K "NoShare")) = some false),
  fun K => decide (PySem.W.kitOne K (.ref (ga K "BadRatio")) (.ref (ga K "NoShare")) = some false),
  fun K => decide (PySem.W.exmOne K (.ref (ga K "BadRatio")) (.ref (ga K "NoPlan")) = some false),
  fun K => decide (PySem.W.kitOne K (.ref (ga K "BadRatio")) (.ref (ga K "NoPlan")) = some false),
  fun K => decide (PySem.W.exmOne K (.ref (ga K "BadRatio")) (.ref (ga K "TooLarge")) = some false),
  fun K => decide (PySem.W.kitOne K (.ref (ga K "BadRatio")) (.ref (ga K "TooLarge")) = some false),
  fun K => decide (PySem.W.kitOne K (.ref (ga K "BadRatio")) (.type "ValueError") = some true),
  fun K => excB K (ga K "BadPlan"),
  fun K => decide (PySem.W.exmOne K (.ref (ga K "BadPlan")) (.ref (ga K "LossError")) = some true),
  fun K => decide (PySem.W.kitOne K (.ref (ga K "BadPlan")) (.ref (ga K "LossError")) = some true),
  fun K => decide (PySem.W.exmOne K (.ref (ga K "BadPlan")) (.ref (ga K "BadText")) = some false),
  fun K => decide (PySem.W.kitOne K (.ref (ga K "BadPlan")) (.ref (ga K "BadText")) = some false),
  fun K => decide (PySem.W.exmOne K (.ref (ga K "BadPlan")) (.ref (ga K "BadRatio")) = some false),
  fun K => decide (PySem.W.kitOne K (.ref (ga K "BadPlan")) (.ref (ga K "BadRatio")) = some false),
  fun K => decide (PySem.W.exmOne K (.ref (ga K "BadPlan")) (.ref (ga K "BadPlan")) = some true),
  fun K => decide (PySem.W.kitOne K (.ref (ga K "BadPlan")) (.ref (ga K "BadPlan")) = some true),
  fun K => decide (PySem.W.exmOne K (.ref (ga K "BadPlan")) (.ref (ga K "BadPaper")) = some false),
  fun K => decide (PySem.W.kitOne K (.ref (ga K "BadPlan")) (.ref (ga K "BadPaper")) = some false),
  fun K => decide (PySem.W.exmOne K (.ref (ga K "BadPlan")) (.ref (ga K "NoShare")) = some false),
  fun K => decide (PySem.W.kitOne K (.ref (ga K "BadPlan")) (.ref (ga K "NoShare")) = some false),
  fun K => decide (PySem.W.exmOne K (.ref (ga K "BadPlan")) (.ref (ga K "NoPlan")) = some false),
  fun K => decide (PySem.W.kitOne K (.ref (ga K "BadPlan")) (.ref (ga K "NoPlan")) = some false),
  fun K => decide (PySem.W.exmOne K (.ref (ga K "BadPlan")) (.ref (ga K "TooLarge")) = some false),
  fun K => decide (PySem.W.kitOne K (.ref (ga K "BadPlan")) (.ref (ga K "TooLarge")) = some false),
  fun K => decide (PySem.W.kitOne K (.ref (ga K "BadPlan")) (.type "ValueError") = some true),
  fun K => excB K (ga K "BadPaper"),
  fun K => decide (PySem.W.exmOne K (.ref (ga K "BadPaper")) (.ref (ga K "LossError")) = some true),
  fun K => decide (PySem.W.kitOne K (.ref (ga K "BadPaper")) (.ref (ga K "LossError")) = some true),
  fun K => decide (PySem.W.exmOne K (.ref (ga K "BadPaper")) (.ref (ga K "BadText")) = some false),
  fun K => decide (PySem.W.kitOne K (.ref (ga K "BadPaper")) (.ref (ga K "BadText")) = some false),
  fun K => decide (PySem.W.exmOne K (.ref (ga K "BadPaper")) (.ref (ga K "BadRatio")) = some false),
  fun K => decide (PySem.W.kitOne K (.ref (ga K "BadPaper")) (.ref (ga K "BadRatio")) = some false),
  fun K => decide (PySem.W.exmOne K (.ref (ga K "BadPaper")) (.ref (ga K "BadPlan")) = some false),
  fun K => decide (PySem.W.kitOne K (.ref (ga K "BadPaper")) (.ref (ga K "BadPlan")) = some false),
  fun K => decide (PySem.W.exmOne K (.ref (ga K "BadPaper")) (.ref (ga K "BadPaper")) = some true),
  fun K => decide (PySem.W.kitOne K (.ref (ga K "BadPaper")) (.ref (ga K "BadPaper")) = some true),
  fun K => decide (PySem.W.exmOne K (.ref (ga K "BadPaper")) (.ref (ga K "NoShare")) = some false),
  fun K => decide (PySem.W.kitOne K (.ref (ga K "BadPaper")) (.ref (ga K "NoShare")) = some false),
  fun K => decide (PySem.W.exmOne K (.ref (ga K "BadPaper")) (.ref (ga K "NoPlan")) = some false),
  fun K => decide (PySem.W.kitOne K (.ref (ga K "BadPaper")) (.ref (ga K "NoPlan")) = some false),
  fun K => decide (PySem.W.exmOne K (.ref (ga K "BadPaper")) (.ref (ga K "TooLarge")) = some false),
  fun K => decide (PySem.W.kitOne K (.ref (ga K "BadPaper")) (.ref (ga K "TooLarge")) = some false),
  fun K => decide (PySem.W.kitOne K (.ref (ga K "BadPaper")) (.type "ValueError") = some true),
  fun K => excB K (ga K "NoShare"),
  fun K => decide (PySem.W.exmOne K (.ref (ga K "NoShare")) (.ref (ga K "LossError")) = some true),
  fun K => decide (PySem.W.kitOne K (.ref (ga K "NoShare")) (.ref (ga K "LossError")) = some true),
  fun K => decide (PySem.W.exmOne K (.ref (ga K "NoShare")) (.ref (ga K "BadText")) = some false),
  fun K => decide (PySem.W.kitOne K (.ref (ga K "NoShare")) (.ref (ga K "BadText")) = some false),
  fun K => decide (PySem.W.exmOne K (.ref (ga K "NoShare")) (.ref (ga K "BadRatio")) = some false),
  fun K => decide (PySem.W.kitOne K (.ref (ga K "NoShare")) (.ref (ga K "BadRatio")) = some false),
  fun K => decide (PySem.W.exmOne K (.ref (ga K "NoShare")) (.ref (ga K "BadPlan")) = some false),
  fun K => decide (PySem.W.kitOne K (.ref (ga K "NoShare")) (.ref (ga K "BadPlan")) = some false),
  fun K => decide (PySem.W.exmOne K (.ref (ga K "NoShare")) (.ref (ga K "BadPaper")) = some false),
  fun K => decide (PySem.W.kitOne K (.ref (ga K "NoShare")) (.ref (ga K "BadPaper")) = some false),
  fun K => decide (PySem.W.exmOne K (.ref (ga K "NoShare")) (.ref (ga K "NoShare")) = some true),
  fun K => decide (PySem.W.kitOne K (.ref (ga K "NoShare")) (.ref (ga K "NoShare")) = some true),
  fun K => decide (PySem.W.exmOne K (.ref (ga K "NoShare")) (.ref (ga K "NoPlan")) = some false),
  fun K => decide (PySem.W.kitOne K (.ref (ga K "NoShare")) (.ref (ga K "NoPlan")) = some false),
  fun K => decide (PySem.W.exmOne K (.ref (ga K "NoShare")) (.ref (ga K "TooLarge")) = some false),
  fun K => decide (PySem.W.kitOne K (.ref (ga K "NoShare")) (.ref (ga K "TooLarge")) = some false),
  fun K => decide (PySem.W.kitOne K (.ref (ga K "NoShare")) (.type "ValueError") = some true),
  fun K => excB K (ga K "NoPlan"),
  fun K => decide (PySem.W.exmOne K (.ref (ga K "NoPlan")) (.ref (ga K "LossError")) = some true),
  fun K => decide (PySem.W.kitOne K (.ref (ga K "NoPlan")) (.ref (ga K "LossError")) = some true),
  fun K => decide (PySem.W.exmOne K (.ref (ga K "NoPlan")) (.ref (ga K "BadText")) = some false),
  fun K => decide (PySem.W.kitOne K (.ref (ga K "NoPlan")) (.ref (ga K "BadText")) = some false),
  fun K => decide (PySem.W.exmOne K (.ref (ga K "NoPlan")) (.ref (ga K "BadRatio")) = some false),
  fun K => decide (PySem.W.kitOne K (.ref (ga K "NoPlan")) (.ref (ga K "BadRatio")) = some false),
  fun K => decide (PySem.W.exmOne K (.ref (ga K "NoPlan")) (.ref (ga K "BadPlan")) = some false),
  fun K => decide (PySem.W.kitOne K (.ref (ga K "NoPlan")) (.ref (ga K "BadPlan")) = some false),
  fun K => decide (PySem.W.exmOne K (.ref (ga K "NoPlan")) (.ref (ga K "BadPaper")) = some false),
  fun K => decide (PySem.W.kitOne K (.ref (ga K "NoPlan")) (.ref (ga K "BadPaper")) = some false),
  fun K => decide (PySem.W.exmOne K (.ref (ga K "NoPlan")) (.ref (ga K "NoShare")) = some false),
  fun K => decide (PySem.W.kitOne K (.ref (ga K "NoPlan")) (.ref (ga K "NoShare")) = some false),
  fun K => decide (PySem.W.exmOne K (.ref (ga K "NoPlan")) (.ref (ga K "NoPlan")) = some true),
  fun K => decide (PySem.W.kitOne K (.ref (ga K "NoPlan")) (.ref (ga K "NoPlan")) = some true),
  fun K => decide (PySem.W.exmOne K (.ref (ga K "NoPlan")) (.ref (ga K "TooLarge")) = some false),
  fun K => decide (PySem.W.kitOne K (.ref (ga K "NoPlan")) (.ref (ga K "TooLarge")) = some false),
  fun K => decide (PySem.W.kitOne K (.ref (ga K "NoPlan")) (.type "ValueError") = some true),
  fun K => excB K (ga K "TooLarge"),
  fun K => decide (PySem.W.exmOne K (.ref (ga K "TooLarge")) (.ref (ga K "LossError")) = some true),
  fun K => decide (PySem.W.kitOne K (.ref (ga K "TooLarge")) (.ref (ga K "LossError")) = some true),
  fun K => decide (PySem.W.exmOne K (.ref (ga K "TooLarge")) (.ref (ga K "BadText")) = some false),
  fun K => decide (PySem.W.kitOne K (.ref (ga K "TooLarge")) (.ref (ga K "BadText")) = some false),
  fun K => decide (PySem.W.exmOne K (.ref (ga K "TooLarge")) (.ref (ga K "BadRatio")) = some false),
  fun K => decide (PySem.W.kitOne K (.ref (ga K "TooLarge")) (.ref (ga K "BadRatio")) = some false),
  fun K => decide (PySem.W.exmOne K (.ref (ga K "TooLarge")) (.ref (ga K "BadPlan")) = some false),
  fun K => decide (PySem.W.kitOne K (.ref (ga K "TooLarge")) (.ref (ga K "BadPlan")) = some false),
  fun K => decide (PySem.W.exmOne K (.ref (ga K "TooLarge")) (.ref (ga K "BadPaper")) = some false),
  fun K => decide (PySem.W.kitOne K (.ref (ga K "TooLarge")) (.ref (ga K "BadPaper")) = some false),
  fun K => decide (PySem.W.exmOne K (.ref (ga K "TooLarge")) (.ref (ga K "NoShare")) = some false),
  fun K => decide (PySem.W.kitOne K (.ref (ga K "TooLarge")) (.ref (ga K "NoShare")) = some false),
  fun K => decide (PySem.W.exmOne K (.ref (ga K "TooLarge")) (.ref (ga K "NoPlan")) = some false),
  fun K => decide (PySem.W.kitOne K (.ref (ga K "TooLarge")) (.ref (ga K "NoPlan")) = some false),
  fun K => decide (PySem.W.exmOne K (.ref (ga K "TooLarge")) (.ref (ga K "TooLarge")) = some true),
  fun K => decide (PySem.W.kitOne K (.ref (ga K "TooLarge")) (.ref (ga K "TooLarge")) = some true),
  fun K => decide (PySem.W.kitOne K (.ref (ga K "TooLarge")) (.type "ValueError") = some true),
  fun K => He.valsB K (ga K "NAMES") [("choose", .str "chooser"), ("come", .str "comer")],
  fun K => SupX.supB R.prog.main.file K (ga K "BadText") "at",
  fun K => L2.xfB K (ga K "BadText"),
  fun K => eqO (PySem.W.findIn K (.ref (ga K "BadText")) "at") (some none),
  fun K => SupX.supB R.prog.main.file K (ga K "BadPlan") "at",
  fun K => L2.xfB K (ga K "BadPlan"),
  fun K => eqO (PySem.W.findIn K (.ref (ga K "BadPlan")) "at") (some none),
  fun K => SupX.supB R.prog.main.file K (ga K "BadPaper") "at",
  fun K => L2.xfB K (ga K "BadPaper"),
  fun K => eqO (PySem.W.findIn K (.ref (ga K "BadPaper")) "at") (some none),
  fun K => SupX.supB R.prog.main.file K (ga K "NoShare") "what",
  fun K => L2.xfB K (ga K "NoShare"),
  fun K => eqO (PySem.W.findIn K (.ref (ga K "NoShare")) "what") (some none),
  fun K => SupX.supB R.prog.main.file K (ga K "NoPlan") "least",
  fun K => L2.xfB K (ga K "NoPlan"),
  fun K => eqO (PySem.W.findIn K (.ref (ga K "NoPlan")) "least") (some none),
  fun K => SupX.supB R.prog.main.file K (ga K "TooLarge") "what",
  fun K => L2.xfB K (ga K "TooLarge"),
  fun K => eqO (PySem.W.findIn K (.ref (ga K "TooLarge")) "what") (some none)]
def exB (K : PySem.W.Frag) : Bool := exs.all fun f => f K
theorem exB_at {K : PySem.W.Frag} (h : exB K = true) (i : Nat) {f : PySem.W.Frag → Bool} (e : exs[i]? = some f) : f K = true := List.all_eq_true.mp h f (List.mem_of_getElem? e)
abbrev s_BadText_init : Stmt := inClass (top 2) 0
abbrev s_BadPlan_init : Stmt := inClass (top 4) 0
abbrev s_BadPaper_init : Stmt := inClass (top 5) 0
abbrev s_NoShare_init : Stmt := inClass (top 6) 0
abbrev s_NoPlan_init : Stmt := inClass (top 7) 0
abbrev s_TooLarge_init : Stmt := inClass (top 8) 0
def zs : List Str := ["BadText", "BadPlan", "BadPaper", "NoShare", "NoPlan", "TooLarge"]
def zv : List SupX.FnZ := [some ("__init__", "BadText.__init__", defArgs s_BadText_init, .stmts (defBody s_BadText_init), defScope s_BadText_init, mainGlobals, ["__class__"], builtinsNs), some ("__init__", "BadPlan.__init__", defArgs s_BadPlan_init, .stmts (defBody s_BadPlan_init), defScope s_BadPlan_init, mainGlobals, ["__class__"], builtinsNs), some ("__init__", "BadPaper.__init__", defArgs s_BadPaper_init, .stmts (defBody s_BadPaper_init), defScope s_BadPaper_init, mainGlobals, ["__class__"], builtinsNs), some ("__init__", "NoShare.__init__", defArgs s_NoShare_init, .stmts (defBody s_NoShare_init), defScope s_NoShare_init, mainGlobals, ["__class__"], builtinsNs), some ("__init__", "NoPlan.__init__", defArgs s_NoPlan_init, .stmts (defBody s_NoPlan_init), defScope s_NoPlan_init, mainGlobals, ["__class__"], builtinsNs), some ("__init__", "TooLarge.__init__", defArgs s_TooLarge_init, .stmts (defBody s_TooLarge_init), defScope s_TooLarge_init, mainGlobals, ["__class__"], builtinsNs)]
def tabs : List He.Tab := [((fun K => ga K "NAMES"), ["choose", "come"])]
/-- what the walk asks of the top -/
structure Txt (K : PySem.W.Frag) (mg : Str → Option Value) : Prop where
  d_End_init : ∃ fd, FunD K "__init__" "End.__init__" (defArgs s_End_init) (defBody s_End_init) (defScope s_End_init) (List.map (He.Dv.v K) []) [] (ma K (ga K "End") "__init__") fd
  d_Lot_init : ∃ fd, FunD K "__init__" "Lot.__init__" (defArgs s_Lot_init) (defBody s_Lot_init) (defScope s_Lot_init) (List.map (He.Dv.v K) []) [] (ma K (ga K "Lot") "__init__") fd
  d_Move_init : ∃ fd, FunD K "__init__" "Move.__init__" (defArgs s_Move_init) (defBody s_Move_init) (defScope s_Move_init) (List.map (He.Dv.v K) []) [] (ma K (ga K "Move") "__init__") fd
  d_combine : ∃ fd, FunD K "combine" "combine" (defArgs s_combine) (defBody s_combine) (defScope s_combine) (List.map (He.Dv.v K) []) [] (ga K "combine") fd
  d_value_of : ∃ fd, FunD K "value_of" "value_of" (defArgs s_value_of) (defBody s_value_of) (defScope s_value_of) (List.map (He.Dv.v K) []) [] (ga K "value_of") fd
  d_Way_init : ∃ fd, FunD K "__init__" "Way.__init__" (defArgs s_Way_init) (defBody s_Way_init) (defScope s_Way_init) (List.map (He.Dv.v K) []) [] (ma K (ga K "Way") "__init__") fd
  d_Way_stored : ∃ fd, FunD K "stored" "Way.stored" (defArgs s_Way_stored) (defBody s_Way_stored) (defScope s_Way_stored) (List.map (He.Dv.v K) []) [] (ma K (ga K "Way") "stored") fd
  d_Way_seen : ∃ fd, FunD K "seen" "Way.seen" (defArgs s_Way_seen) (defBody s_Way_seen) (defScope s_Way_seen) (List.map (He.Dv.v K) []) [] (ma K (ga K "Way") "seen") fd
  d_Builder_init : ∃ fd, FunD K "__init__" "Builder.__init__" (defArgs s_Builder_init) (defBody s_Builder_init) (defScope s_Builder_init) (List.map (He.Dv.v K) []) [] (ma K (ga K "Builder") "__init__") fd
  d_Builder_node : ∃ fd, FunD K "node" "Builder.node" (defArgs s_Builder_node) (defBody s_Builder_node) (defScope s_Builder_node) (List.map (He.Dv.v K) []) [] (ma K (ga K "Builder") "node") fd
  d_Builder_branch : ∃ fd, FunD K "branch" "Builder.branch" (defArgs s_Builder_branch) (defBody s_Builder_branch) (defScope s_Builder_branch) (List.map (He.Dv.v K) []) [] (ma K (ga K "Builder") "branch") fd
  d_chained : ∃ fd, FunD K "chained" "chained" (defArgs s_chained) (defBody s_chained) (defScope s_chained) (List.map (He.Dv.v K) []) [] (ga K "chained") fd
  d_tree_of : ∃ fd, FunD K "tree_of" "tree_of" (defArgs s_tree_of) (defBody s_tree_of) (defScope s_tree_of) (List.map (He.Dv.v K) []) [] (ga K "tree_of") fd
  d_views_of : ∃ fd, FunD K "views_of" "views_of" (defArgs s_views_of) (defBody s_views_of) (defScope s_views_of) (List.map (He.Dv.v K) []) [] (ga K "views_of") fd
  d_ends_of : ∃ fd, FunD K "ends_of" "ends_of" (defArgs s_ends_of) (defBody s_ends_of) (defScope s_ends_of) (List.map (He.Dv.v K) []) [] (ga K "ends_of") fd
  d_Game_init : ∃ fd, FunD K "__init__" "Game.__init__" (defArgs s_Game_init) (defBody s_Game_init) (defScope s_Game_init) (List.map (He.Dv.v K) []) [] (ma K (ga K "Game") "__init__") fd
  d_Game_eq : ∃ fd, FunD K "__eq__" "Game.__eq__" (defArgs s_Game_eq) (defBody s_Game_eq) (defScope s_Game_eq) (List.map (He.Dv.v K) []) [] (ma K (ga K "Game") "__eq__") fd
  d_l_pool : ∃ fd, FunD K "_law_pool" "_law_pool" (defArgs s_l_pool) (defBody s_l_pool) (defScope s_l_pool) (List.map (He.Dv.v K) []) [] (ga K "_law_pool") fd
  d_l_draw : ∃ fd, FunD K "_law_draw" "_law_draw" (defArgs s_l_draw) (defBody s_l_draw) (defScope s_l_draw) (List.map (He.Dv.v K) []) [] (ga K "_law_draw") fd
  d_l_spend : ∃ fd, FunD K "_law_spend" "_law_spend" (defArgs s_l_spend) (defBody s_l_spend) (defScope s_l_spend) (List.map (He.Dv.v K) []) [] (ga K "_law_spend") fd
  d_l_number : ∃ fd, FunD K "_law_number" "_law_number" (defArgs s_l_number) (defBody s_l_number) (defScope s_l_number) (List.map (He.Dv.v K) []) [] (ga K "_law_number") fd
  d_l_same : ∃ fd, FunD K "_law_same" "_law_same" (defArgs s_l_same) (defBody s_l_same) (defScope s_l_same) (List.map (He.Dv.v K) []) [] (ga K "_law_same") fd
  d_l_value : ∃ fd, FunD K "_law_value" "_law_value" (defArgs s_l_value) (defBody s_l_value) (defScope s_l_value) (List.map (He.Dv.v K) []) [] (ga K "_law_value") fd
  d_l_statement : ∃ fd, FunD K "_law_statement" "_law_statement" (defArgs s_l_statement) (defBody s_l_statement) (defScope s_l_statement) (List.map (He.Dv.v K) []) [] (ga K "_law_statement") fd
  d_l_block : ∃ fd, FunD K "_law_block" "_law_block" (defArgs s_l_block) (defBody s_l_block) (defScope s_l_block) (List.map (He.Dv.v K) []) [] (ga K "_law_block") fd
  d_l_alike : ∃ fd, FunD K "_law_alike" "_law_alike" (defArgs s_l_alike) (defBody s_l_alike) (defScope s_l_alike) (List.map (He.Dv.v K) []) [] (ga K "_law_alike") fd
  d_l_game : ∃ fd, FunD K "_law_game" "_law_game" (defArgs s_l_game) (defBody s_l_game) (defScope s_l_game) (List.map (He.Dv.v K) []) [] (ga K "_law_game") fd
  d_l_number_of : ∃ fd, FunD K "_law_number_of" "_law_number_of" (defArgs s_l_number_of) (defBody s_l_number_of) (defScope s_l_number_of) (List.map (He.Dv.v K) []) [] (ga K "_law_number_of") fd
  d_l_stored : ∃ fd, FunD K "_law_stored" "_law_stored" (defArgs s_l_stored) (defBody s_l_stored) (defScope s_l_stored) (List.map (He.Dv.v K) []) [] (ga K "_law_stored") fd
  d_l_node : ∃ fd, FunD K "_law_node" "_law_node" (defArgs s_l_node) (defBody s_l_node) (defScope s_l_node) (List.map (He.Dv.v K) []) [] (ga K "_law_node") fd
  d_l_tree : ∃ fd, FunD K "_law_tree" "_law_tree" (defArgs s_l_tree) (defBody s_l_tree) (defScope s_l_tree) (List.map (He.Dv.v K) []) [] (ga K "_law_tree") fd
  d_l_parts : ∃ fd, FunD K "_law_parts" "_law_parts" (defArgs s_l_parts) (defBody s_l_parts) (defScope s_l_parts) (List.map (He.Dv.v K) []) [] (ga K "_law_parts") fd
  d_l_views : ∃ fd, FunD K "_law_views" "_law_views" (defArgs s_l_views) (defBody s_l_views) (defScope s_l_views) (List.map (He.Dv.v K) []) [] (ga K "_law_views") fd
  d_l_by_hand : ∃ fd, FunD K "_law_by_hand" "_law_by_hand" (defArgs s_l_by_hand) (defBody s_l_by_hand) (defScope s_l_by_hand) (List.map (He.Dv.v K) []) [] (ga K "_law_by_hand") fd
  d_l_deep : ∃ fd, FunD K "_law_deep" "_law_deep" (defArgs s_l_deep) (defBody s_l_deep) (defScope s_l_deep) (List.map (He.Dv.v K) []) [] (ga K "_law_deep") fd
  d_l_like : ∃ fd, FunD K "_law_like" "_law_like" (defArgs s_l_like) (defBody s_l_like) (defScope s_l_like) (List.map (He.Dv.v K) []) [] (ga K "_law_like") fd
  d_l_all : ∃ fd, FunD K "_law_all" "_law_all" (defArgs s_l_all) (defBody s_l_all) (defScope s_l_all) (List.map (He.Dv.v K) []) [] (ga K "_law_all") fd
  d_law : ∃ fd, FunD K "law" "law" (defArgs s_law) (defBody s_law) (defScope s_law) (List.map (He.Dv.v K) []) [] (ga K "law") fd
  g_combine : mg "combine" = some (.ref (ga K "combine"))
  g_value_of : mg "value_of" = some (.ref (ga K "value_of"))
  g_chained : mg "chained" = some (.ref (ga K "chained"))
  g_tree_of : mg "tree_of" = some (.ref (ga K "tree_of"))
  g_views_of : mg "views_of" = some (.ref (ga K "views_of"))
  g_ends_of : mg "ends_of" = some (.ref (ga K "ends_of"))
  g_l_pool : mg "_law_pool" = some (.ref (ga K "_law_pool"))
  g_l_draw : mg "_law_draw" = some (.ref (ga K "_law_draw"))
  g_l_spend : mg "_law_spend" = some (.ref (ga K "_law_spend"))
  g_l_number : mg "_law_number" = some (.ref (ga K "_law_number"))
  g_l_same : mg "_law_same" = some (.ref (ga K "_law_same"))
  g_l_value : mg "_law_value" = some (.ref (ga K "_law_value"))
  g_l_statement : mg "_law_statement" = some (.ref (ga K "_law_statement"))
  g_l_block : mg "_law_block" = some (.ref (ga K "_law_block"))
  g_l_alike : mg "_law_alike" = some (.ref (ga K "_law_alike"))
  g_l_game : mg "_law_game" = some (.ref (ga K "_law_game"))
  g_l_number_of : mg "_law_number_of" = some (.ref (ga K "_law_number_of"))
  g_l_stored : mg "_law_stored" = some (.ref (ga K "_law_stored"))
  g_l_node : mg "_law_node" = some (.ref (ga K "_law_node"))
  g_l_tree : mg "_law_tree" = some (.ref (ga K "_law_tree"))
  g_l_parts : mg "_law_parts" = some (.ref (ga K "_law_parts"))
  g_l_views : mg "_law_views" = some (.ref (ga K "_law_views"))
  g_l_by_hand : mg "_law_by_hand" = some (.ref (ga K "_law_by_hand"))
  g_l_deep : mg "_law_deep" = some (.ref (ga K "_law_deep"))
  g_l_like : mg "_law_like" = some (.ref (ga K "_law_like"))
  g_l_all : mg "_law_all" = some (.ref (ga K "_law_all"))
  g_law : mg "law" = some (.ref (ga K "law"))
  g_LossError : mg "LossError" = some (.ref (ga K "LossError"))
  x_LossError : PySem.W.excIn K (ga K "LossError") He.veBase "ValueError.__new__" = true ∧ PySem.W.keepIn K (.ref (ga K "LossError")) = true ∧ PySem.W.subIn K (.ref (ga K "LossError")) (.type "BaseException") = some true ∧ PySem.W.typeIn K (.ref (ga K "LossError")) = some (.type "type")
  g_BadText : mg "BadText" = some (.ref (ga K "BadText"))
  g_BadRatio : mg "BadRatio" = some (.ref (ga K "BadRatio"))
  x_BadRatio : PySem.W.excIn K (ga K "BadRatio") He.veBase "ValueError.__new__" = true ∧ PySem.W.keepIn K (.ref (ga K "BadRatio")) = true ∧ PySem.W.subIn K (.ref (ga K "BadRatio")) (.type "BaseException") = some true ∧ PySem.W.typeIn K (.ref (ga K "BadRatio")) = some (.type "type")
  g_BadPlan : mg "BadPlan" = some (.ref (ga K "BadPlan"))
  g_BadPaper : mg "BadPaper" = some (.ref (ga K "BadPaper"))
  g_NoShare : mg "NoShare" = some (.ref (ga K "NoShare"))
  g_NoPlan : mg "NoPlan" = some (.ref (ga K "NoPlan"))
  g_TooLarge : mg "TooLarge" = some (.ref (ga K "TooLarge"))
  g_End : mg "End" = some (.ref (ga K "End"))
  c_End : Cls K (ga K "End")
  m_End : Mk K (ga K "End") (ma K (ga K "End") "__init__")
  a_End_paid : NoAttr K (ga K "End") "paid"
  g_Lot : mg "Lot" = some (.ref (ga K "Lot"))
  c_Lot : Cls K (ga K "Lot")
  m_Lot : Mk K (ga K "Lot") (ma K (ga K "Lot") "__init__")
  a_Lot_parts : NoAttr K (ga K "Lot") "parts"
  g_Move : mg "Move" = some (.ref (ga K "Move"))
  c_Move : Cls K (ga K "Move")
  m_Move : Mk K (ga K "Move") (ma K (ga K "Move") "__init__")
  a_Move_seat : NoAttr K (ga K "Move") "seat"
  a_Move_view : NoAttr K (ga K "Move") "view"
  a_Move_parts : NoAttr K (ga K "Move") "parts"
  g_Way : mg "Way" = some (.ref (ga K "Way"))
  c_Way : Cls K (ga K "Way")
  m_Way : Mk K (ga K "Way") (ma K (ga K "Way") "__init__")
  a_Way_table : NoAttr K (ga K "Way") "table"
  a_Way_views : NoAttr K (ga K "Way") "views"
  a_Way_paid : NoAttr K (ga K "Way") "paid"
  t_Way_stored : Meth K (ga K "Way") "stored" (ma K (ga K "Way") "stored")
  t_Way_seen : Meth K (ga K "Way") "seen" (ma K (ga K "Way") "seen")
  g_Builder : mg "Builder" = some (.ref (ga K "Builder"))
  c_Builder : Cls K (ga K "Builder")
  m_Builder : Mk K (ga K "Builder") (ma K (ga K "Builder") "__init__")
  a_Builder_sizes : NoAttr K (ga K "Builder") "sizes"
  a_Builder_count : NoAttr K (ga K "Builder") "count"
  t_Builder_node : Meth K (ga K "Builder") "node" (ma K (ga K "Builder") "node")
  t_Builder_branch : Meth K (ga K "Builder") "branch" (ma K (ga K "Builder") "branch")
  g_Game : mg "Game" = some (.ref (ga K "Game"))
  c_Game : Cls K (ga K "Game")
  m_Game : Mk K (ga K "Game") (ma K (ga K "Game") "__init__")
  a_Game_variables : NoAttr K (ga K "Game") "variables"
  a_Game_block : NoAttr K (ga K "Game") "block"
  t_Game_eq : Meth K (ga K "Game") "__eq__" (ma K (ga K "Game") "__eq__")
  f_ValueError : mg "ValueError" = none
  f_reversed : mg "reversed" = none
  f_list : mg "list" = none
  f_isinstance : mg "isinstance" = none
  f_int : mg "int" = none
  f_range : mg "range" = none
  f_tuple : mg "tuple" = none
  f_dict : mg "dict" = none
  f_max : mg "max" = none
  f_bool : mg "bool" = none
  f_str : mg "str" = none
  f_len : mg "len" = none
  f_super : mg "super" = none
  i_MOST_NODES : ∃ t, mg "MOST_NODES" = some (.int 400 t)
  i_MODULUS : ∃ t, mg "MODULUS" = some (.int 65536 t)
  g_NAMES : mg "NAMES" = some (.ref (ga K "NAMES"))
  oc_End : PySem.W.findIn K (.ref (ga K "End")) "__class__" = some (some (.builtin "object.__class__"))
  om_End : PySem.W.mroIn K (ga K "End") (.type "object") = some true
  ki_End_tuple : PySem.W.kitOne K (.ref (ga K "End")) (.type "tuple") = some false
  ki_End_list : PySem.W.kitOne K (.ref (ga K "End")) (.type "list") = some false
  ki_End_bool : PySem.W.kitOne K (.ref (ga K "End")) (.type "bool") = some false
  ki_End_int : PySem.W.kitOne K (.ref (ga K "End")) (.type "int") = some false
  ki_End_str : PySem.W.kitOne K (.ref (ga K "End")) (.type "str") = some false
  ki_End_End : PySem.W.kitOne K (.ref (ga K "End")) (.ref (ga K "End")) = some true
  ki_End_Lot : PySem.W.kitOne K (.ref (ga K "End")) (.ref (ga K "Lot")) = some false
  ki_End_Move : PySem.W.kitOne K (.ref (ga K "End")) (.ref (ga K "Move")) = some false
  ki_End_Way : PySem.W.kitOne K (.ref (ga K "End")) (.ref (ga K "Way")) = some false
  ki_End_Builder : PySem.W.kitOne K (.ref (ga K "End")) (.ref (ga K "Builder")) = some false
  ki_End_Game : PySem.W.kitOne K (.ref (ga K "End")) (.ref (ga K "Game")) = some false
  oc_Lot : PySem.W.findIn K (.ref (ga K "Lot")) "__class__" = some (some (.builtin "object.__class__"))
  om_Lot : PySem.W.mroIn K (ga K "Lot") (.type "object") = some true
  ki_Lot_tuple : PySem.W.kitOne K (.ref (ga K "Lot")) (.type "tuple") = some false
  ki_Lot_list : PySem.W.kitOne K (.ref (ga K "Lot")) (.type "list") = some false
  ki_Lot_bool : PySem.W.kitOne K (.ref (ga K "Lot")) (.type "bool") = some false
  ki_Lot_int : PySem.W.kitOne K (.ref (ga K "Lot")) (.type "int") = some false
  ki_Lot_str : PySem.W.kitOne K (.ref (ga K "Lot")) (.type "str") = some false
  ki_Lot_End : PySem.W.kitOne K (.ref (ga K "Lot")) (.ref (ga K "End")) = some false
  ki_Lot_Lot : PySem.W.kitOne K (.ref (ga K "Lot")) (.ref (ga K "Lot")) = some true
  ki_Lot_Move : PySem.W.kitOne K (.ref (ga K "Lot")) (.ref (ga K "Move")) = some false
  ki_Lot_Way : PySem.W.kitOne K (.ref (ga K "Lot")) (.ref (ga K "Way")) = some false
  ki_Lot_Builder : PySem.W.kitOne K (.ref (ga K "Lot")) (.ref (ga K "Builder")) = some false
  ki_Lot_Game : PySem.W.kitOne K (.ref (ga K "Lot")) (.ref (ga K "Game")) = some false
  oc_Move : PySem.W.findIn K (.ref (ga K "Move")) "__class__" = some (some (.builtin "object.__class__"))
  om_Move : PySem.W.mroIn K (ga K "Move") (.type "object") = some true
  ki_Move_tuple : PySem.W.kitOne K (.ref (ga K "Move")) (.type "tuple") = some false
  ki_Move_list : PySem.W.kitOne K (.ref (ga K "Move")) (.type "list") = some false
  ki_Move_bool : PySem.W.kitOne K (.ref (ga K "Move")) (.type "bool") = some false
  ki_Move_int : PySem.W.kitOne K (.ref (ga K "Move")) (.type "int") = some false
  ki_Move_str : PySem.W.kitOne K (.ref (ga K "Move")) (.type "str") = some false
  ki_Move_End : PySem.W.kitOne K (.ref (ga K "Move")) (.ref (ga K "End")) = some false
  ki_Move_Lot : PySem.W.kitOne K (.ref (ga K "Move")) (.ref (ga K "Lot")) = some false
  ki_Move_Move : PySem.W.kitOne K (.ref (ga K "Move")) (.ref (ga K "Move")) = some true
  ki_Move_Way : PySem.W.kitOne K (.ref (ga K "Move")) (.ref (ga K "Way")) = some false
  ki_Move_Builder : PySem.W.kitOne K (.ref (ga K "Move")) (.ref (ga K "Builder")) = some false
  ki_Move_Game : PySem.W.kitOne K (.ref (ga K "Move")) (.ref (ga K "Game")) = some false
  oc_Way : PySem.W.findIn K (.ref (ga K "Way")) "__class__" = some (some (.builtin "object.__class__"))
  om_Way : PySem.W.mroIn K (ga K "Way") (.type "object") = some true
  ki_Way_tuple : PySem.W.kitOne K (.ref (ga K "Way")) (.type "tuple") = some false
  ki_Way_list : PySem.W.kitOne K (.ref (ga K "Way")) (.type "list") = some false
  ki_Way_bool : PySem.W.kitOne K (.ref (ga K "Way")) (.type "bool") = some false
  ki_Way_int : PySem.W.kitOne K (.ref (ga K "Way")) (.type "int") = some false
  ki_Way_str : PySem.W.kitOne K (.ref (ga K "Way")) (.type "str") = some false
  ki_Way_End : PySem.W.kitOne K (.ref (ga K "Way")) (.ref (ga K "End")) = some false
  ki_Way_Lot : PySem.W.kitOne K (.ref (ga K "Way")) (.ref (ga K "Lot")) = some false
  ki_Way_Move : PySem.W.kitOne K (.ref (ga K "Way")) (.ref (ga K "Move")) = some false
  ki_Way_Way : PySem.W.kitOne K (.ref (ga K "Way")) (.ref (ga K "Way")) = some true
  ki_Way_Builder : PySem.W.kitOne K (.ref (ga K "Way")) (.ref (ga K "Builder")) = some false
  ki_Way_Game : PySem.W.kitOne K (.ref (ga K "Way")) (.ref (ga K "Game")) = some false
  oc_Builder : PySem.W.findIn K (.ref (ga K "Builder")) "__class__" = some (some (.builtin "object.__class__"))
  om_Builder : PySem.W.mroIn K (ga K "Builder") (.type "object") = some true
  ki_Builder_tuple : PySem.W.kitOne K (.ref (ga K "Builder")) (.type "tuple") = some false
  ki_Builder_list : PySem.W.kitOne K (.ref (ga K "Builder")) (.type "list") = some false
  ki_Builder_bool : PySem.W.kitOne K (.ref (ga K "Builder")) (.type "bool") = some false
  ki_Builder_int : PySem.W.kitOne K (.ref (ga K "Builder")) (.type "int") = some false
  ki_Builder_str : PySem.W.kitOne K (.ref (ga K "Builder")) (.type "str") = some false
  ki_Builder_End : PySem.W.kitOne K (.ref (ga K "Builder")) (.ref (ga K "End")) = some false
  ki_Builder_Lot : PySem.W.kitOne K (.ref (ga K "Builder")) (.ref (ga K "Lot")) = some false
  ki_Builder_Move : PySem.W.kitOne K (.ref (ga K "Builder")) (.ref (ga K "Move")) = some false
  ki_Builder_Way : PySem.W.kitOne K (.ref (ga K "Builder")) (.ref (ga K "Way")) = some false
  ki_Builder_Builder : PySem.W.kitOne K (.ref (ga K "Builder")) (.ref (ga K "Builder")) = some true
  ki_Builder_Game : PySem.W.kitOne K (.ref (ga K "Builder")) (.ref (ga K "Game")) = some false
  oc_Game : PySem.W.findIn K (.ref (ga K "Game")) "__class__" = some (some (.builtin "object.__class__"))
  nf_Game : PySem.W.notFirst K (ga K "Game") (.ref (ga K "Game")) = true
  ne_Game : PySem.W.findIn K (.ref (ga K "Game")) "__ne__" = some (some (.builtin "object.__ne__"))
  om_Game : PySem.W.mroIn K (ga K "Game") (.type "object") = some true
  ki_Game_tuple : PySem.W.kitOne K (.ref (ga K "Game")) (.type "tuple") = some false
  ki_Game_list : PySem.W.kitOne K (.ref (ga K "Game")) (.type "list") = some false
  ki_Game_bool : PySem.W.kitOne K (.ref (ga K "Game")) (.type "bool") = some false
  ki_Game_int : PySem.W.kitOne K (.ref (ga K "Game")) (.type "int") = some false
  ki_Game_str : PySem.W.kitOne K (.ref (ga K "Game")) (.type "str") = some false
  ki_Game_End : PySem.W.kitOne K (.ref (ga K "Game")) (.ref (ga K "End")) = some false
  ki_Game_Lot : PySem.W.kitOne K (.ref (ga K "Game")) (.ref (ga K "Lot")) = some false
  ki_Game_Move : PySem.W.kitOne K (.ref (ga K "Game")) (.ref (ga K "Move")) = some false
  ki_Game_Way : PySem.W.kitOne K (.ref (ga K "Game")) (.ref (ga K "Way")) = some false
  ki_Game_Builder : PySem.W.kitOne K (.ref (ga K "Game")) (.ref (ga K "Builder")) = some false
  ki_Game_Game : PySem.W.kitOne K (.ref (ga K "Game")) (.ref (ga K "Game")) = some true
  og : PySem.W.specialIn K (.builtin "object.__class__") "__get__" = some (some (.builtin "getset_descriptor.__get__"))
  ot : PySem.W.takesIn K (.builtin "object.__class__") = some true
  xc_LossError : ExcC K (ga K "LossError")
  em_LossError_LossError : PySem.W.exmOne K (.ref (ga K "LossError")) (.ref (ga K "LossError")) = some true
  ki_LossError_LossError : PySem.W.kitOne K (.ref (ga K "LossError")) (.ref (ga K "LossError")) = some true
  em_LossError_BadText : PySem.W.exmOne K (.ref (ga K "LossError")) (.ref (ga K "BadText")) = some false
  ki_LossError_BadText : PySem.W.kitOne K (.ref (ga K "LossError")) (.ref (ga K "BadText")) = some false
  em_LossError_BadRatio : PySem.W.exmOne K (.ref (ga K "LossError")) (.ref (ga K "BadRatio")) = some false
  ki_LossError_BadRatio : PySem.W.kitOne K (.ref (ga K "LossError")) (.ref (ga K "BadRatio")) = some false
  em_LossError_BadPlan : PySem.W.exmOne K (.ref (ga K "LossError")) (.ref (ga K "BadPlan")) = some false
  ki_LossError_BadPlan : PySem.W.kitOne K (.ref (ga K "LossError")) (.ref (ga K "BadPlan")) = some false
  em_LossError_BadPaper : PySem.W.exmOne K (.ref (ga K "LossError")) (.ref (ga K "BadPaper")) = some false
  ki_LossError_BadPaper : PySem.W.kitOne K (.ref (ga K "LossError")) (.ref (ga K "BadPaper")) = some false
  em_LossError_NoShare : PySem.W.exmOne K (.ref (ga K "LossError")) (.ref (ga K "NoShare")) = some false
  ki_LossError_NoShare : PySem.W.kitOne K (.ref (ga K "LossError")) (.ref (ga K "NoShare")) = some false
  em_LossError_NoPlan : PySem.W.exmOne K (.ref (ga K "LossError")) (.ref (ga K "NoPlan")) = some false
  ki_LossError_NoPlan : PySem.W.kitOne K (.ref (ga K "LossError")) (.ref (ga K "NoPlan")) = some false
  em_LossError_TooLarge : PySem.W.exmOne K (.ref (ga K "LossError")) (.ref (ga K "TooLarge")) = some false
  ki_LossError_TooLarge : PySem.W.kitOne K (.ref (ga K "LossError")) (.ref (ga K "TooLarge")) = some false
  kv_LossError : PySem.W.kitOne K (.ref (ga K "LossError")) (.type "ValueError") = some true
  xc_BadText : ExcC K (ga K "BadText")
  em_BadText_LossError : PySem.W.exmOne K (.ref (ga K "BadText")) (.ref (ga K "LossError")) = some true
  ki_BadText_LossError : PySem.W.kitOne K (.ref (ga K "BadText")) (.ref (ga K "LossError")) = some true
  em_BadText_BadText : PySem.W.exmOne K (.ref (ga K "BadText")) (.ref (ga K "BadText")) = some true
  ki_BadText_BadText : PySem.W.kitOne K (.ref (ga K "BadText")) (.ref (ga K "BadText")) = some true
  em_BadText_BadRatio : PySem.W.exmOne K (.ref (ga K "BadText")) (.ref (ga K "BadRatio")) = some false
  ki_BadText_BadRatio : PySem.W.kitOne K (.ref (ga K "BadText")) (.ref (ga K "BadRatio")) = some false
  em_BadText_BadPlan : PySem.W.exmOne K (.ref (ga K "BadText")) (.ref (ga K "BadPlan")) = some false
  ki_BadText_BadPlan : PySem.W.kitOne K (.ref (ga K "BadText")) (.ref (ga K "BadPlan")) = some false
  em_BadText_BadPaper : PySem.W.exmOne K (.ref (ga K "BadText")) (.ref (ga K "BadPaper")) = some false
  ki_BadText_BadPaper : PySem.W.kitOne K (.ref (ga K "BadText")) (.ref (ga K "BadPaper")) = some false
  em_BadText_NoShare : PySem.W.exmOne K (.ref (ga K "BadText")) (.ref (ga K "NoShare")) = some false
  ki_BadText_NoShare : PySem.W.kitOne K (.ref (ga K "BadText")) (.ref (ga K "NoShare")) = some false
  em_BadText_NoPlan : PySem.W.exmOne K (.ref (ga K "BadText")) (.ref (ga K "NoPlan")) = some false
  ki_BadText_NoPlan : PySem.W.kitOne K (.ref (ga K "BadText")) (.ref (ga K "NoPlan")) = some false
  em_BadText_TooLarge : PySem.W.exmOne K (.ref (ga K "BadText")) (.ref (ga K "TooLarge")) = some false
  ki_BadText_TooLarge : PySem.W.kitOne K (.ref (ga K "BadText")) (.ref (ga K "TooLarge")) = some false
  kv_BadText : PySem.W.kitOne K (.ref (ga K "BadText")) (.type "ValueError") = some true
  xc_BadRatio : ExcC K (ga K "BadRatio")
  em_BadRatio_LossError : PySem.W.exmOne K (.ref (ga K "BadRatio")) (.ref (ga K "LossError")) = some true
  ki_BadRatio_LossError : PySem.W.kitOne K (.ref (ga K "BadRatio")) (.ref (ga K "LossError")) = some true
  em_BadRatio_BadText : PySem.W.exmOne K (.ref (ga K "BadRatio")) (.ref (ga K "BadText")) = some false
  ki_BadRatio_BadText : PySem.W.kitOne K (.ref (ga K "BadRatio")) (.ref (ga K "BadText")) = some false
  em_BadRatio_BadRatio : PySem.W.exmOne K (.ref (ga K "BadRatio")) (.ref (ga K "BadRatio")) = some true
  ki_BadRatio_BadRatio : PySem.W.kitOne K (.ref (ga K "BadRatio")) (.ref (ga K "BadRatio")) = some true
  em_BadRatio_BadPlan : PySem.W.exmOne K (.ref (ga K "BadRatio")) (.ref (ga K "BadPlan")) = some false
  ki_BadRatio_BadPlan : PySem.W.kitOne K (.ref (ga K "BadRatio")) (.ref (ga K "BadPlan")) = some false
  em_BadRatio_BadPaper : PySem.W.exmOne K (.ref (ga K "BadRatio")) (.ref (ga K "BadPaper")) = some false
  ki_BadRatio_BadPaper : PySem.W.kitOne K (.ref (ga K "BadRatio")) (.ref (ga K "BadPaper")) = some false
  em_BadRatio_NoShare : PySem.W.exmOne K (.ref (ga K "BadRatio")) (.ref (ga K "NoShare")) = some false
  ki_BadRatio_NoShare : PySem.W.kitOne K (.ref (ga K "BadRatio")) (.ref (ga K "NoShare")) = some false
  em_BadRatio_NoPlan : PySem.W.exmOne K (.ref (ga K "BadRatio")) (.ref (ga K "NoPlan")) = some false
  ki_BadRatio_NoPlan : PySem.W.kitOne K (.ref (ga K "BadRatio")) (.ref (ga K "NoPlan")) = some false
  em_BadRatio_TooLarge : PySem.W.exmOne K (.ref (ga K "BadRatio")) (.ref (ga K "TooLarge")) = some false
  ki_BadRatio_TooLarge : PySem.W.kitOne K (.ref (ga K "BadRatio")) (.ref (ga K "TooLarge")) = some false
  kv_BadRatio : PySem.W.kitOne K (.ref (ga K "BadRatio")) (.type "ValueError") = some true
  xc_BadPlan : ExcC K (ga K "BadPlan")
  em_BadPlan_LossError : PySem.W.exmOne K (.ref (ga K "BadPlan")) (.ref (ga K "LossError")) = some true
  ki_BadPlan_LossError : PySem.W.kitOne K (.ref (ga K "BadPlan")) (.ref (ga K "LossError")) = some true
  em_BadPlan_BadText : PySem.W.exmOne K (.ref (ga K "BadPlan")) (.ref (ga K "BadText")) = some false
  ki_BadPlan_BadText : PySem.W.kitOne K (.ref (ga K "BadPlan")) (.ref (ga K "BadText")) = some false
  em_BadPlan_BadRatio : PySem.W.exmOne K (.ref (ga K "BadPlan")) (.ref (ga K "BadRatio")) = some false
  ki_BadPlan_BadRatio : PySem.W.kitOne K (.ref (ga K "BadPlan")) (.ref (ga K "BadRatio")) = some false
  em_BadPlan_BadPlan : PySem.W.exmOne K (.ref (ga K "BadPlan")) (.ref (ga K "BadPlan")) = some true
  ki_BadPlan_BadPlan : PySem.W.kitOne K (.ref (ga K "BadPlan")) (.ref (ga K "BadPlan")) = some true
  em_BadPlan_BadPaper : PySem.W.exmOne K (.ref (ga K "BadPlan")) (.ref (ga K "BadPaper")) = some false
  ki_BadPlan_BadPaper : PySem.W.kitOne K (.ref (ga K "BadPlan")) (.ref (ga K "BadPaper")) = some false
  em_BadPlan_NoShare : PySem.W.exmOne K (.ref (ga K "BadPlan")) (.ref (ga K "NoShare")) = some false
  ki_BadPlan_NoShare : PySem.W.kitOne K (.ref (ga K "BadPlan")) (.ref (ga K "NoShare")) = some false
  em_BadPlan_NoPlan : PySem.W.exmOne K (.ref (ga K "BadPlan")) (.ref (ga K "NoPlan")) = some false
  ki_BadPlan_NoPlan : PySem.W.kitOne K (.ref (ga K "BadPlan")) (.ref (ga K "NoPlan")) = some false
  em_BadPlan_TooLarge : PySem.W.exmOne K (.ref (ga K "BadPlan")) (.ref (ga K "TooLarge")) = some false
  ki_BadPlan_TooLarge : PySem.W.kitOne K (.ref (ga K "BadPlan")) (.ref (ga K "TooLarge")) = some false
  kv_BadPlan : PySem.W.kitOne K (.ref (ga K "BadPlan")) (.type "ValueError") = some true
  xc_BadPaper : ExcC K (ga K "BadPaper")
  em_BadPaper_LossError : PySem.W.exmOne K (.ref (ga K "BadPaper")) (.ref (ga K "LossError")) = some true
  ki_BadPaper_LossError : PySem.W.kitOne K (.ref (ga K "BadPaper")) (.ref (ga K "LossError")) = some true
  em_BadPaper_BadText : PySem.W.exmOne K (.ref (ga K "BadPaper")) (.ref (ga K "BadText")) = some false
  ki_BadPaper_BadText : PySem.W.kitOne K (.ref (ga K "BadPaper")) (.ref (ga K "BadText")) = some false
  em_BadPaper_BadRatio : PySem.W.exmOne K (.ref (ga K "BadPaper")) (.ref (ga K "BadRatio")) = some false
  ki_BadPaper_BadRatio : PySem.W.kitOne K (.ref (ga K "BadPaper")) (.ref (ga K "BadRatio")) = some false
  em_BadPaper_BadPlan : PySem.W.exmOne K (.ref (ga K "BadPaper")) (.ref (ga K "BadPlan")) = some false
  ki_BadPaper_BadPlan : PySem.W.kitOne K (.ref (ga K "BadPaper")) (.ref (ga K "BadPlan")) = some false
  em_BadPaper_BadPaper : PySem.W.exmOne K (.ref (ga K "BadPaper")) (.ref (ga K "BadPaper")) = some true
  ki_BadPaper_BadPaper : PySem.W.kitOne K (.ref (ga K "BadPaper")) (.ref (ga K "BadPaper")) = some true
  em_BadPaper_NoShare : PySem.W.exmOne K (.ref (ga K "BadPaper")) (.ref (ga K "NoShare")) = some false
  ki_BadPaper_NoShare : PySem.W.kitOne K (.ref (ga K "BadPaper")) (.ref (ga K "NoShare")) = some false
  em_BadPaper_NoPlan : PySem.W.exmOne K (.ref (ga K "BadPaper")) (.ref (ga K "NoPlan")) = some false
  ki_BadPaper_NoPlan : PySem.W.kitOne K (.ref (ga K "BadPaper")) (.ref (ga K "NoPlan")) = some false
  em_BadPaper_TooLarge : PySem.W.exmOne K (.ref (ga K "BadPaper")) (.ref (ga K "TooLarge")) = some false
  ki_BadPaper_TooLarge : PySem.W.kitOne K (.ref (ga K "BadPaper")) (.ref (ga K "TooLarge")) = some false
  kv_BadPaper : PySem.W.kitOne K (.ref (ga K "BadPaper")) (.type "ValueError") = some true
  xc_NoShare : ExcC K (ga K "NoShare")
  em_NoShare_LossError : PySem.W.exmOne K (.ref (ga K "NoShare")) (.ref (ga K "LossError")) = some true
  ki_NoShare_LossError : PySem.W.kitOne K (.ref (ga K "NoShare")) (.ref (ga K "LossError")) = some true
  em_NoShare_BadText : PySem.W.exmOne K (.ref (ga K "NoShare")) (.ref (ga K "BadText")) = some false
  ki_NoShare_BadText : PySem.W.kitOne K (.ref (ga K "NoShare")) (.ref (ga K "BadText")) = some false
  em_NoShare_BadRatio : PySem.W.exmOne K (.ref (ga K "NoShare")) (.ref (ga K "BadRatio")) = some false
  ki_NoShare_BadRatio : PySem.W.kitOne K (.ref (ga K "NoShare")) (.ref (ga K "BadRatio")) = some false
  em_NoShare_BadPlan : PySem.W.exmOne K (.ref (ga K "NoShare")) (.ref (ga K "BadPlan")) = some false
  ki_NoShare_BadPlan : PySem.W.kitOne K (.ref (ga K "NoShare")) (.ref (ga K "BadPlan")) = some false
  em_NoShare_BadPaper : PySem.W.exmOne K (.ref (ga K "NoShare")) (.ref (ga K "BadPaper")) = some false
  ki_NoShare_BadPaper : PySem.W.kitOne K (.ref (ga K "NoShare")) (.ref (ga K "BadPaper")) = some false
  em_NoShare_NoShare : PySem.W.exmOne K (.ref (ga K "NoShare")) (.ref (ga K "NoShare")) = some true
  ki_NoShare_NoShare : PySem.W.kitOne K (.ref (ga K "NoShare")) (.ref (ga K "NoShare")) = some true
  em_NoShare_NoPlan : PySem.W.exmOne K (.ref (ga K "NoShare")) (.ref (ga K "NoPlan")) = some false
  ki_NoShare_NoPlan : PySem.W.kitOne K (.ref (ga K "NoShare")) (.ref (ga K "NoPlan")) = some false
  em_NoShare_TooLarge : PySem.W.exmOne K (.ref (ga K "NoShare")) (.ref (ga K "TooLarge")) = some false
  ki_NoShare_TooLarge : PySem.W.kitOne K (.ref (ga K "NoShare")) (.ref (ga K "TooLarge")) = some false
  kv_NoShare : PySem.W.kitOne K (.ref (ga K "NoShare")) (.type "ValueError") = some true
  xc_NoPlan : ExcC K (ga K "NoPlan")
  em_NoPlan_LossError : PySem.W.exmOne K (.ref (ga K "NoPlan")) (.ref (ga K "LossError")) = some true
  ki_NoPlan_LossError : PySem.W.kitOne K (.ref (ga K "NoPlan")) (.ref (ga K "LossError")) = some true
  em_NoPlan_BadText : PySem.W.exmOne K (.ref (ga K "NoPlan")) (.ref (ga K "BadText")) = some false
  ki_NoPlan_BadText : PySem.W.kitOne K (.ref (ga K "NoPlan")) (.ref (ga K "BadText")) = some false
  em_NoPlan_BadRatio : PySem.W.exmOne K (.ref (ga K "NoPlan")) (.ref (ga K "BadRatio")) = some false
  ki_NoPlan_BadRatio : PySem.W.kitOne K (.ref (ga K "NoPlan")) (.ref (ga K "BadRatio")) = some false
  em_NoPlan_BadPlan : PySem.W.exmOne K (.ref (ga K "NoPlan")) (.ref (ga K "BadPlan")) = some false
  ki_NoPlan_BadPlan : PySem.W.kitOne K (.ref (ga K "NoPlan")) (.ref (ga K "BadPlan")) = some false
  em_NoPlan_BadPaper : PySem.W.exmOne K (.ref (ga K "NoPlan")) (.ref (ga K "BadPaper")) = some false
  ki_NoPlan_BadPaper : PySem.W.kitOne K (.ref (ga K "NoPlan")) (.ref (ga K "BadPaper")) = some false
  em_NoPlan_NoShare : PySem.W.exmOne K (.ref (ga K "NoPlan")) (.ref (ga K "NoShare")) = some false
  ki_NoPlan_NoShare : PySem.W.kitOne K (.ref (ga K "NoPlan")) (.ref (ga K "NoShare")) = some false
  em_NoPlan_NoPlan : PySem.W.exmOne K (.ref (ga K "NoPlan")) (.ref (ga K "NoPlan")) = some true
  ki_NoPlan_NoPlan : PySem.W.kitOne K (.ref (ga K "NoPlan")) (.ref (ga K "NoPlan")) = some true
  em_NoPlan_TooLarge : PySem.W.exmOne K (.ref (ga K "NoPlan")) (.ref (ga K "TooLarge")) = some false
  ki_NoPlan_TooLarge : PySem.W.kitOne K (.ref (ga K "NoPlan")) (.ref (ga K "TooLarge")) = some false
  kv_NoPlan : PySem.W.kitOne K (.ref (ga K "NoPlan")) (.type "ValueError") = some true
  xc_TooLarge : ExcC K (ga K "TooLarge")
  em_TooLarge_LossError : PySem.W.exmOne K (.ref (ga K "TooLarge")) (.ref (ga K "LossError")) = some true
  ki_TooLarge_LossError : PySem.W.kitOne K (.ref (ga K "TooLarge")) (.ref (ga K "LossError")) = some true
  em_TooLarge_BadText : PySem.W.exmOne K (.ref (ga K "TooLarge")) (.ref (ga K "BadText")) = some false
  ki_TooLarge_BadText : PySem.W.kitOne K (.ref (ga K "TooLarge")) (.ref (ga K "BadText")) = some false
  em_TooLarge_BadRatio : PySem.W.exmOne K (.ref (ga K "TooLarge")) (.ref (ga K "BadRatio")) = some false
  ki_TooLarge_BadRatio : PySem.W.kitOne K (.ref (ga K "TooLarge")) (.ref (ga K "BadRatio")) = some false
  em_TooLarge_BadPlan : PySem.W.exmOne K (.ref (ga K "TooLarge")) (.ref (ga K "BadPlan")) = some false
  ki_TooLarge_BadPlan : PySem.W.kitOne K (.ref (ga K "TooLarge")) (.ref (ga K "BadPlan")) = some false
  em_TooLarge_BadPaper : PySem.W.exmOne K (.ref (ga K "TooLarge")) (.ref (ga K "BadPaper")) = some false
  ki_TooLarge_BadPaper : PySem.W.kitOne K (.ref (ga K "TooLarge")) (.ref (ga K "BadPaper")) = some false
  em_TooLarge_NoShare : PySem.W.exmOne K (.ref (ga K "TooLarge")) (.ref (ga K "NoShare")) = some false
  ki_TooLarge_NoShare : PySem.W.kitOne K (.ref (ga K "TooLarge")) (.ref (ga K "NoShare")) = some false
  em_TooLarge_NoPlan : PySem.W.exmOne K (.ref (ga K "TooLarge")) (.ref (ga K "NoPlan")) = some false
  ki_TooLarge_NoPlan : PySem.W.kitOne K (.ref (ga K "TooLarge")) (.ref (ga K "NoPlan")) = some false
  em_TooLarge_TooLarge : PySem.W.exmOne K (.ref (ga K "TooLarge")) (.ref (ga K "TooLarge")) = some true
  ki_TooLarge_TooLarge : PySem.W.kitOne K (.ref (ga K "TooLarge")) (.ref (ga K "TooLarge")) = some true
  kv_TooLarge : PySem.W.kitOne K (.ref (ga K "TooLarge")) (.type "ValueError") = some true
  v_NAMES : He.valsB K (ga K "NAMES") [("choose", .str "chooser"), ("come", .str "comer")] = true
  sb_BadText : SupX.supB R.prog.main.file K (ga K "BadText") "at" = true
  xf_BadText : L2.XfC K (ga K "BadText")
  xn_BadText : PySem.W.findIn K (.ref (ga K "BadText")) "at" = some none
  sb_BadPlan : SupX.supB R.prog.main.file K (ga K "BadPlan") "at" = true
  xf_BadPlan : L2.XfC K (ga K "BadPlan")
  xn_BadPlan : PySem.W.findIn K (.ref (ga K "BadPlan")) "at" = some none
  sb_BadPaper : SupX.supB R.prog.main.file K (ga K "BadPaper") "at" = true
  xf_BadPaper : L2.XfC K (ga K "BadPaper")
  xn_BadPaper : PySem.W.findIn K (.ref (ga K "BadPaper")) "at" = some none
  sb_NoShare : SupX.supB R.prog.main.file K (ga K "NoShare") "what" = true
  xf_NoShare : L2.XfC K (ga K "NoShare")
  xn_NoShare : PySem.W.findIn K (.ref (ga K "NoShare")) "what" = some none
  sb_NoPlan : SupX.supB R.prog.main.file K (ga K "NoPlan") "least" = true
  xf_NoPlan : L2.XfC K (ga K "NoPlan")
  xn_NoPlan : PySem.W.findIn K (.ref (ga K "NoPlan")) "least" = some none
  sb_TooLarge : SupX.supB R.prog.main.file K (ga K "TooLarge") "what" = true
  xf_TooLarge : L2.XfC K (ga K "TooLarge")
  xn_TooLarge : PySem.W.findIn K (.ref (ga K "TooLarge")) "what" = some none
  s_BadText : SupX.SupC PR K (ga K "BadText") "at"
  s_BadPlan : SupX.SupC PR K (ga K "BadPlan") "at"
  s_BadPaper : SupX.SupC PR K (ga K "BadPaper") "at"
  s_NoShare : SupX.SupC PR K (ga K "NoShare") "what"
  s_NoPlan : SupX.SupC PR K (ga K "NoPlan") "least"
  s_TooLarge : SupX.SupC PR K (ga K "TooLarge") "what"
theorem txt_of {w : World} {K : PySem.W.Frag} {h : Heap} {mg : Str → Option Value} (X : K.In h) (G : h.Ns mainGlobals mg) (c : He.SaysX fa fn tabs [] exB w h K) (z : He.zsW K zs = zv) : Txt K mg where
  d_End_init := He.SaysD.def_ c.t.d 0 (d := d_End_init) rfl
  d_Lot_init := He.SaysD.def_ c.t.d 1 (d := d_Lot_init) rfl
  d_Move_init := He.SaysD.def_ c.t.d 2 (d := d_Move_init) rfl
  d_combine := He.SaysD.def_ c.t.d 3 (d := d_combine) rfl
  d_value_of := He.SaysD.def_ c.t.d 4 (d := d_value_of) rfl
  d_Way_init := He.SaysD.def_ c.t.d 5 (d := d_Way_init) rfl
  d_Way_stored := He.SaysD.def_ c.t.d 6 (d := d_Way_stored) rfl
  d_Way_seen := He.SaysD.def_ c.t.d 7 (d := d_Way_seen) rfl
  d_Builder_init := He.SaysD.def_ c.t.d 8 (d := d_Builder_init) rfl
  d_Builder_node := He.SaysD.def_ c.t.d 9 (d := d_Builder_node) rfl
  d_Builder_branch := He.SaysD.def_ c.t.d 10 (d := d_Builder_branch) rfl
  d_chained := He.SaysD.def_ c.t.d 11 (d := d_chained) rfl
  d_tree_of := He.SaysD.def_ c.t.d 12 (d := d_tree_of) rfl
  d_views_of := He.SaysD.def_ c.t.d 13 (d := d_views_of) rfl
  d_ends_of := He.SaysD.def_ c.t.d 14 (d := d_ends_of) rfl
  d_Game_init := He.SaysD.def_ c.t.d 15 (d := d_Game_init) rfl
  d_Game_eq := He.SaysD.def_ c.t.d 16 (d := d_Game_eq) rfl
  d_l_pool := He.SaysD.def_ c.t.d 17 (d := d_l_pool) rfl
  d_l_draw := He.SaysD.def_ c.t.d 18 (d := d_l_draw) rfl
  d_l_spend := He.SaysD.def_ c.t.d 19 (d := d_l_spend) rfl
  d_l_number := He.SaysD.def_ c.t.d 20 (d := d_l_number) rfl
  d_l_same := He.SaysD.def_ c.t.d 21 (d := d_l_same) rfl
  d_l_value := He.SaysD.def_ c.t.d 22 (d := d_l_value) rfl
  d_l_statement := He.SaysD.def_ c.t.d 23 (d := d_l_statement) rfl
  d_l_block := He.SaysD.def_ c.t.d 24 (d := d_l_block) rfl
  d_l_alike := He.SaysD.def_ c.t.d 25 (d := d_l_alike) rfl
  d_l_game := He.SaysD.def_ c.t.d 26 (d := d_l_game) rfl
  d_l_number_of := He.SaysD.def_ c.t.d 27 (d := d_l_number_of) rfl
  d_l_stored := He.SaysD.def_ c.t.d 28 (d := d_l_stored) rfl
  d_l_node := He.SaysD.def_ c.t.d 29 (d := d_l_node) rfl
  d_l_tree := He.SaysD.def_ c.t.d 30 (d := d_l_tree) rfl
  d_l_parts := He.SaysD.def_ c.t.d 31 (d := d_l_parts) rfl
  d_l_views := He.SaysD.def_ c.t.d 32 (d := d_l_views) rfl
  d_l_by_hand := He.SaysD.def_ c.t.d 33 (d := d_l_by_hand) rfl
  d_l_deep := He.SaysD.def_ c.t.d 34 (d := d_l_deep) rfl
  d_l_like := He.SaysD.def_ c.t.d 35 (d := d_l_like) rfl
  d_l_all := He.SaysD.def_ c.t.d 36 (d := d_l_all) rfl
  d_law := He.SaysD.def_ c.t.d 37 (d := d_law) rfl
  g_combine := He.glo_ok X G (He.SaysD.fact c.t.d 0 (f := .glo "combine") rfl)
  g_value_of := He.glo_ok X G (He.SaysD.fact c.t.d 1 (f := .glo "value_of") rfl)
  g_chained := He.glo_ok X G (He.SaysD.fact c.t.d 2 (f := .glo "chained") rfl)
  g_tree_of := He.glo_ok X G (He.SaysD.fact c.t.d 3 (f := .glo "tree_of") rfl)
  g_views_of := He.glo_ok X G (He.SaysD.fact c.t.d 4 (f := .glo "views_of") rfl)
  g_ends_of := He.glo_ok X G (He.SaysD.fact c.t.d 5 (f := .glo "ends_of") rfl)
  g_l_pool := He.glo_ok X G (He.SaysD.fact c.t.d 6 (f := .glo "_law_pool") rfl)
  g_l_draw := He.glo_ok X G (He.SaysD.fact c.t.d 7 (f := .glo "_law_draw") rfl)
  g_l_spend := He.glo_ok X G (He.SaysD.fact c.t.d 8 (f := .glo "_law_spend") rfl)
  g_l_number := He.glo_ok X G (He.SaysD.fact c.t.d 9 (f := .glo "_law_number") rfl)
  g_l_same := He.glo_ok X G (He.SaysD.fact c.t.d 10 (f := .glo "_law_same") rfl)
  g_l_value := He.glo_ok X G (He.SaysD.fact c.t.d 11 (f := .glo "_law_value") rfl)
  g_l_statement := He.glo_ok X G (He.SaysD.fact c.t.d 12 (f := .glo "_law_statement") rfl)
  g_l_block := He.glo_ok X G (He.SaysD.fact c.t.d 13 (f := .glo "_law_block") rfl)
  g_l_alike := He.glo_ok X G (He.SaysD.fact c.t.d 14 (f := .glo "_law_alike") rfl)
  g_l_game := He.glo_ok X G (He.SaysD.fact c.t.d 15 (f := .glo "_law_game") rfl)
  g_l_number_of := He.glo_ok X G (He.SaysD.fact c.t.d 16 (f := .glo "_law_number_of") rfl)
  g_l_stored := He.glo_ok X G (He.SaysD.fact c.t.d 17 (f := .glo "_law_stored") rfl)
  g_l_node := He.glo_ok X G (He.SaysD.fact c.t.d 18 (f := .glo "_law_node") rfl)
  g_l_tree := He.glo_ok X G (He.SaysD.fact c.t.d 19 (f := .glo "_law_tree") rfl)
  g_l_parts := He.glo_ok X G (He.SaysD.fact c.t.d 20 (f := .glo "_law_parts") rfl)
  g_l_views := He.glo_ok X G (He.SaysD.fact c.t.d 21 (f := .glo "_law_views") rfl)
  g_l_by_hand := He.glo_ok X G (He.SaysD.fact c.t.d 22 (f := .glo "_law_by_hand") rfl)
  g_l_deep := He.glo_ok X G (He.SaysD.fact c.t.d 23 (f := .glo "_law_deep") rfl)
  g_l_like := He.glo_ok X G (He.SaysD.fact c.t.d 24 (f := .glo "_law_like") rfl)
  g_l_all := He.glo_ok X G (He.SaysD.fact c.t.d 25 (f := .glo "_law_all") rfl)
  g_law := He.glo_ok X G (He.SaysD.fact c.t.d 26 (f := .glo "law") rfl)
  g_LossError := He.glo_ok X G (He.SaysD.fact c.t.d 27 (f := .glo "LossError") rfl)
  x_LossError := He.exc_ok (He.SaysD.fact c.t.d 28 (f := .exc "LossError") rfl)
  g_BadText := He.glo_ok X G (He.SaysD.fact c.t.d 29 (f := .glo "BadText") rfl)
  g_BadRatio := He.glo_ok X G (He.SaysD.fact c.t.d 30 (f := .glo "BadRatio") rfl)
  x_BadRatio := He.exc_ok (He.SaysD.fact c.t.d 31 (f := .exc "BadRatio") rfl)
  g_BadPlan := He.glo_ok X G (He.SaysD.fact c.t.d 32 (f := .glo "BadPlan") rfl)
  g_BadPaper := He.glo_ok X G (He.SaysD.fact c.t.d 33 (f := .glo "BadPaper") rfl)
  g_NoShare := He.glo_ok X G (He.SaysD.fact c.t.d 34 (f := .glo "NoShare") rfl)
  g_NoPlan := He.glo_ok X G (He.SaysD.fact c.t.d 35 (f := .glo "NoPlan") rfl)
  g_TooLarge := He.glo_ok X G (He.SaysD.fact c.t.d 36 (f := .glo "TooLarge") rfl)
  g_End := He.glo_ok X G (He.SaysD.fact c.t.d 37 (f := .glo "End") rfl)
  c_End := He.cls_ok (He.SaysD.fact c.t.d 38 (f := .cls "End") rfl)
  m_End := He.mkr_ok (He.SaysD.fact c.t.d 39 (f := .mkr "End") rfl)
  a_End_paid := He.noat_ok (He.SaysD.fact c.t.d 40 (f := .noat "End" "paid") rfl)
  g_Lot := He.glo_ok X G (He.SaysD.fact c.t.d 41 (f := .glo "Lot") rfl)
  c_Lot := He.cls_ok (He.SaysD.fact c.t.d 42 (f := .cls "Lot") rfl)
  m_Lot := He.mkr_ok (He.SaysD.fact c.t.d 43 (f := .mkr "Lot") rfl)
  a_Lot_parts := He.noat_ok (He.SaysD.fact c.t.d 44 (f := .noat "Lot" "parts") rfl)
  g_Move := He.glo_ok X G (He.SaysD.fact c.t.d 45 (f := .glo "Move") rfl)
  c_Move := He.cls_ok (He.SaysD.fact c.t.d 46 (f := .cls "Move") rfl)
  m_Move := He.mkr_ok (He.SaysD.fact c.t.d 47 (f := .mkr "Move") rfl)
  a_Move_seat := He.noat_ok (He.SaysD.fact c.t.d 48 (f := .noat "Move" "seat") rfl)
  a_Move_view := He.noat_ok (He.SaysD.fact c.t.d 49 (f := .noat "Move" "view") rfl)
  a_Move_parts := He.noat_ok (He.SaysD.fact c.t.d 50 (f := .noat "Move" "parts") rfl)
  g_Way := He.glo_ok X G (He.SaysD.fact c.t.d 51 (f := .glo "Way") rfl)
  c_Way := He.cls_ok (He.SaysD.fact c.t.d 52 (f := .cls "Way") rfl)
  m_Way := He.mkr_ok (He.SaysD.fact c.t.d 53 (f := .mkr "Way") rfl)
  a_Way_table := He.noat_ok (He.SaysD.fact c.t.d 54 (f := .noat "Way" "table") rfl)
  a_Way_views := He.noat_ok (He.SaysD.fact c.t.d 55 (f := .noat "Way" "views") rfl)
  a_Way_paid := He.noat_ok (He.SaysD.fact c.t.d 56 (f := .noat "Way" "paid") rfl)
  t_Way_stored := He.meth_ok (He.SaysD.fact c.t.d 57 (f := .meth "Way" "stored") rfl)
  t_Way_seen := He.meth_ok (He.SaysD.fact c.t.d 58 (f := .meth "Way" "seen") rfl)
  g_Builder := He.glo_ok X G (He.SaysD.fact c.t.d 59 (f := .glo "Builder") rfl)
  c_Builder := He.cls_ok (He.SaysD.fact c.t.d 60 (f := .cls "Builder") rfl)
  m_Builder := He.mkr_ok (He.SaysD.fact c.t.d 61 (f := .mkr "Builder") rfl)
  a_Builder_sizes := He.noat_ok (He.SaysD.fact c.t.d 62 (f := .noat "Builder" "sizes") rfl)
  a_Builder_count := He.noat_ok (He.SaysD.fact c.t.d 63 (f := .noat "Builder" "count") rfl)
  t_Builder_node := He.meth_ok (He.SaysD.fact c.t.d 64 (f := .meth "Builder" "node") rfl)
  t_Builder_branch := He.meth_ok (He.SaysD.fact c.t.d 65 (f := .meth "Builder" "branch") rfl)
  g_Game := He.glo_ok X G (He.SaysD.fact c.t.d 66 (f := .glo "Game") rfl)
  c_Game := He.cls_ok (He.SaysD.fact c.t.d 67 (f := .cls "Game") rfl)
  m_Game := He.mkr_ok (He.SaysD.fact c.t.d 68 (f := .mkr "Game") rfl)
  a_Game_variables := He.noat_ok (He.SaysD.fact c.t.d 69 (f := .noat "Game" "variables") rfl)
  a_Game_block := He.noat_ok (He.SaysD.fact c.t.d 70 (f := .noat "Game" "block") rfl)
  t_Game_eq := He.meth_ok (He.SaysD.fact c.t.d 71 (f := .meth "Game" "__eq__") rfl)
  f_ValueError := He.free_ok X G (He.SaysD.fact c.t.d 72 (f := .free "ValueError") rfl)
  f_reversed := He.free_ok X G (He.SaysD.fact c.t.d 73 (f := .free "reversed") rfl)
  f_list := He.free_ok X G (He.SaysD.fact c.t.d 74 (f := .free "list") rfl)
  f_isinstance := He.free_ok X G (He.SaysD.fact c.t.d 75 (f := .free "isinstance") rfl)
  f_int := He.free_ok X G (He.SaysD.fact c.t.d 76 (f := .free "int") rfl)
  f_range := He.free_ok X G (He.SaysD.fact c.t.d 77 (f := .free "range") rfl)
  f_tuple := He.free_ok X G (He.SaysD.fact c.t.d 78 (f := .free "tuple") rfl)
  f_dict := He.free_ok X G (He.SaysD.fact c.t.d 79 (f := .free "dict") rfl)
  f_max := He.free_ok X G (He.SaysD.fact c.t.d 80 (f := .free "max") rfl)
  f_bool := He.free_ok X G (He.SaysD.fact c.t.d 81 (f := .free "bool") rfl)
  f_str := He.free_ok X G (He.SaysD.fact c.t.d 82 (f := .free "str") rfl)
  f_len := He.free_ok X G (He.SaysD.fact c.t.d 83 (f := .free "len") rfl)
  f_super := He.free_ok X G (He.SaysD.fact c.t.d 84 (f := .free "super") rfl)
  i_MOST_NODES := He.int_ok X G (He.SaysD.fact c.t.d 85 (f := .int "MOST_NODES" 400) rfl)
  i_MODULUS := He.int_ok X G (He.SaysD.fact c.t.d 86 (f := .int "MODULUS" 65536) rfl)
  g_NAMES := He.glo_ok X G (He.SaysD.fact c.t.d 87 (f := .glo "NAMES") rfl)
  oc_End := eqO_ok (exB_at c.more 0 rfl)
  om_End := of_decide_eq_true (exB_at c.more 1 rfl)
  ki_End_tuple := of_decide_eq_true (exB_at c.more 2 rfl)
  ki_End_list := of_decide_eq_true (exB_at c.more 3 rfl)
  ki_End_bool := of_decide_eq_true (exB_at c.more 4 rfl)
  ki_End_int := of_decide_eq_true (exB_at c.more 5 rfl)
  ki_End_str := of_decide_eq_true (exB_at c.more 6 rfl)
  ki_End_End := of_decide_eq_true (exB_at c.more 7 rfl)
  ki_End_Lot := of_decide_eq_true (exB_at c.more 8 rfl)
  ki_End_Move := of_decide_eq_true (exB_at c.more 9 rfl)
  ki_End_Way := of_decide_eq_true (exB_at c.more 10 rfl)
  ki_End_Builder := of_decide_eq_true (exB_at c.more 11 rfl)
  ki_End_Game := of_decide_eq_true (exB_at c.more 12 rfl)
  oc_Lot := eqO_ok (exB_at c.more 13 rfl)
  om_Lot := of_decide_eq_true (exB_at c.more 14 rfl)
  ki_Lot_tuple := of_decide_eq_true (exB_at c.more 15 rfl)
  ki_Lot_list := of_decide_eq_true (exB_at c.more 16 rfl)
  ki_Lot_bool := of_decide_eq_true (exB_at c.more 17 rfl)
  ki_Lot_int := of_decide_eq_true (exB_at c.more 18 rfl)
  ki_Lot_str := of_decide_eq_true (exB_at c.more 19 rfl)
  ki_Lot_End := of_decide_eq_true (exB_at c.more 20 rfl)
  ki_Lot_Lot := of_decide_eq_true (exB_at c.more 21 rfl)
  ki_Lot_Move := of_decide_eq_true (exB_at c.more 22 rfl)
  ki_Lot_Way := of_decide_eq_true (exB_at c.more 23 rfl)
  ki_Lot_Builder := of_decide_eq_true (exB_at c.more 24 rfl)
  ki_Lot_Game := of_decide_eq_true (exB_at c.more 25 rfl)
  oc_Move := eqO_ok (exB_at c.more 26 rfl)
  om_Move := of_decide_eq_true (exB_at c.more 27 rfl)
  ki_Move_tuple := of_decide_eq_true (exB_at c.more 28 rfl)
  ki_Move_list := of_decide_eq_true (exB_at c.more 29 rfl)
  ki_Move_bool := of_decide_eq_true (exB_at c.more 30 rfl)
  ki_Move_int := of_decide_eq_true (exB_at c.more 31 rfl)
  ki_Move_str := of_decide_eq_true (exB_at c.more 32 rfl)
  ki_Move_End := of_decide_eq_true (exB_at c.more 33 rfl)
  ki_Move_Lot := of_decide_eq_true (exB_at c.more 34 rfl)
  ki_Move_Move := of_decide_eq_true (exB_at c.more 35 rfl)
  ki_Move_Way := of_decide_eq_true (exB_at c.more 36 rfl)
  ki_Move_Builder := of_decide_eq_true (exB_at c.more 37 rfl)
  ki_Move_Game := of_decide_eq_true (exB_at c.more 38 rfl)
  oc_Way := eqO_ok (exB_at c.more 39 rfl)
  om_Way := of_decide_eq_true (exB_at c.more 40 rfl)
  ki_Way_tuple := of_decide_eq_true (exB_at c.more 41 rfl)
  ki_Way_list := of_decide_eq_true (exB_at c.more 42 rfl)
  ki_Way_bool := of_decide_eq_true (exB_at c.more 43 rfl)
  ki_Way_int := of_decide_eq_true (exB_at c.more 44 rfl)
  ki_Way_str := of_decide_eq_true (exB_at c.more 45 rfl)
  ki_Way_End := of_decide_eq_true (exB_at c.more 46 rfl)
  ki_Way_Lot := of_decide_eq_true (exB_at c.more 47 rfl)
  ki_Way_Move := of_decide_eq_true (exB_at c.more 48 rfl)
  ki_Way_Way := of_decide_eq_true (exB_at c.more 49 rfl)
  ki_Way_Builder := of_decide_eq_true (exB_at c.more 50 rfl)
  ki_Way_Game := of_decide_eq_true (exB_at c.more 51 rfl)
  oc_Builder := eqO_ok (exB_at c.more 52 rfl)
  om_Builder := of_decide_eq_true (exB_at c.more 53 rfl)
  ki_Builder_tuple := of_decide_eq_true (exB_at c.more 54 rfl)
  ki_Builder_list := of_decide_eq_true (exB_at c.more 55 rfl)
  ki_Builder_bool := of_decide_eq_true (exB_at c.more 56 rfl)
  ki_Builder_int := of_decide_eq_true (exB_at c.more 57 rfl)
  ki_Builder_str := of_decide_eq_true (exB_at c.more 58 rfl)
  ki_Builder_End := of_decide_eq_true (exB_at c.more 59 rfl)
  ki_Builder_Lot := of_decide_eq_true (exB_at c.more 60 rfl)
  ki_Builder_Move := of_decide_eq_true (exB_at c.more 61 rfl)
  ki_Builder_Way := of_decide_eq_true (exB_at c.more 62 rfl)
  ki_Builder_Builder := of_decide_eq_true (exB_at c.more 63 rfl)
  ki_Builder_Game := of_decide_eq_true (exB_at c.more 64 rfl)
  oc_Game := eqO_ok (exB_at c.more 65 rfl)
  nf_Game := (exB_at c.more 66 rfl)
  ne_Game := eqO_ok (exB_at c.more 67 rfl)
  om_Game := of_decide_eq_true (exB_at c.more 68 rfl)
  ki_Game_tuple := of_decide_eq_true (exB_at c.more 69 rfl)
  ki_Game_list := of_decide_eq_true (exB_at c.more 70 rfl)
  ki_Game_bool := of_decide_eq_true (exB_at c.more 71 rfl)
  ki_Game_int := of_decide_eq_true (exB_at c.more 72 rfl)
  ki_Game_str := of_decide_eq_true (exB_at c.more 73 rfl)
  ki_Game_End := of_decide_eq_true (exB_at c.more 74 rfl)
  ki_Game_Lot := of_decide_eq_true (exB_at c.more 75 rfl)
  ki_Game_Move := of_decide_eq_true (exB_at c.more 76 rfl)
  ki_Game_Way := of_decide_eq_true (exB_at c.more 77 rfl)
  ki_Game_Builder := of_decide_eq_true (exB_at c.more 78 rfl)
  ki_Game_Game := of_decide_eq_true (exB_at c.more 79 rfl)
  og := eqO_ok (exB_at c.more 80 rfl)
  ot := of_decide_eq_true (exB_at c.more 81 rfl)
  xc_LossError := excB_ok (exB_at c.more 82 rfl)
  em_LossError_LossError := of_decide_eq_true (exB_at c.more 83 rfl)
  ki_LossError_LossError := of_decide_eq_true (exB_at c.more 84 rfl)
  em_LossError_BadText := of_decide_eq_true (exB_at c.more 85 rfl)
  ki_LossError_BadText := of_decide_eq_true (exB_at c.more 86 rfl)
  em_LossError_BadRatio := of_decide_eq_true (exB_at c.more 87 rfl)
  ki_LossError_BadRatio := of_decide_eq_true (exB_at c.more 88 rfl)
  em_LossError_BadPlan := of_decide_eq_true (exB_at c.more 89 rfl)
  ki_LossError_BadPlan := of_decide_eq_true (exB_at c.more 90 rfl)
  em_LossError_BadPaper := of_decide_eq_true (exB_at c.more 91 rfl)
  ki_LossError_BadPaper := of_decide_eq_true (exB_at c.more 92 rfl)
  em_LossError_NoShare := of_decide_eq_true (exB_at c.more 93 rfl)
  ki_LossError_NoShare := of_decide_eq_true (exB_at c.more 94 rfl)
  em_LossError_NoPlan := of_decide_eq_true (exB_at c.more 95 rfl)
  ki_LossError_NoPlan := of_decide_eq_true (exB_at c.more 96 rfl)
  em_LossError_TooLarge := of_decide_eq_true (exB_at c.more 97 rfl)
  ki_LossError_TooLarge := of_decide_eq_true (exB_at c.more 98 rfl)
  kv_LossError := of_decide_eq_true (exB_at c.more 99 rfl)
  xc_BadText := excB_ok (exB_at c.more 100 rfl)
  em_BadText_LossError := of_decide_eq_true (exB_at c.more 101 rfl)
  ki_BadText_LossError := of_decide_eq_true (exB_at c.more 102 rfl)
  em_BadText_BadText := of_decide_eq_true (exB_at c.more 103 rfl)
  ki_BadText_BadText := of_decide_eq_true (exB_at c.more 104 rfl)
  em_BadText_BadRatio := of_decide_eq_true (exB_at c.more 105 rfl)
  ki_BadText_BadRatio := of_decide_eq_true (exB_at c.more 106 rfl)
  em_BadText_BadPlan := of_decide_eq_true (exB_at c.more 107 rfl)
  ki_BadText_BadPlan := of_decide_eq_true (exB_at c.more 108 rfl)
  em_BadText_BadPaper := of_decide_eq_true (exB_at c.more 109 rfl)
  ki_BadText_BadPaper := of_decide_eq_true (exB_at c.more 110 rfl)
  em_BadText_NoShare := of_decide_eq_true (exB_at c.more 111 rfl)
  ki_BadText_NoShare := of_decide_eq_true (exB_at c.more 112 rfl)
  em_BadText_NoPlan := of_decide_eq_true (exB_at c.more 113 rfl)
  ki_BadText_NoPlan := of_decide_eq_true (exB_at c.more 114 rfl)
  em_BadText_TooLarge := of_decide_eq_true (exB_at c.more 115 rfl)
  ki_BadText_TooLarge := of_decide_eq_true (exB_at c.more 116 rfl)
  kv_BadText := of_decide_eq_true (exB_at c.more 117 rfl)
  xc_BadRatio := excB_ok (exB_at c.more 118 rfl)
  em_BadRatio_LossError := of_decide_eq_true (exB_at c.more 119 rfl)
  ki_BadRatio_LossError := of_decide_eq_true (exB_at c.more 120 rfl)
  em_BadRatio_BadText := of_decide_eq_true (exB_at c.more 121 rfl)
  ki_BadRatio_BadText := of_decide_eq_true (exB_at c.more 122 rfl)
  em_BadRatio_BadRatio := of_decide_eq_true (exB_at c.more 123 rfl)
  ki_BadRatio_BadRatio := of_decide_eq_true (exB_at c.more 124 rfl)
  em_BadRatio_BadPlan := of_decide_eq_true (exB_at c.more 125 rfl)
  ki_BadRatio_BadPlan := of_decide_eq_true (exB_at c.more 126 rfl)
  em_BadRatio_BadPaper := of_decide_eq_true (exB_at c.more 127 rfl)
  ki_BadRatio_BadPaper := of_decide_eq_true (exB_at c.more 128 rfl)
  em_BadRatio_NoShare := of_decide_eq_true (exB_at c.more 129 rfl)
  ki_BadRatio_NoShare := of_decide_eq_true (exB_at c.more 130 rfl)
  em_BadRatio_NoPlan := of_decide_eq_true (exB_at c.more 131 rfl)
  ki_BadRatio_NoPlan := of_decide_eq_true (exB_at c.more 132 rfl)
  em_BadRatio_TooLarge := of_decide_eq_true (exB_at c.more 133 rfl)
  ki_BadRatio_TooLarge := of_decide_eq_true (exB_at c.more 134 rfl)
  kv_BadRatio := of_decide_eq_true (exB_at c.more 135 rfl)
  xc_BadPlan := excB_ok (exB_at c.more 136 rfl)
  em_BadPlan_LossError := of_decide_eq_true (exB_at c.more 137 rfl)
  ki_BadPlan_LossError := of_decide_eq_true (exB_at c.more 138 rfl)
  em_BadPlan_BadText := of_decide_eq_true (exB_at c.more 139 rfl)
  ki_BadPlan_BadText := of_decide_eq_true (exB_at c.more 140 rfl)
  em_BadPlan_BadRatio := of_decide_eq_true (exB_at c.more 141 rfl)
  ki_BadPlan_BadRatio := of_decide_eq_true (exB_at c.more 142 rfl)
  em_BadPlan_BadPlan := of_decide_eq_true (exB_at c.more 143 rfl)
  ki_BadPlan_BadPlan := of_decide_eq_true (exB_at c.more 144 rfl)
  em_BadPlan_BadPaper := of_decide_eq_true (exB_at c.more 145 rfl)
  ki_BadPlan_BadPaper := of_decide_eq_true (exB_at c.more 146 rfl)
  em_BadPlan_NoShare := of_decide_eq_true (exB_at c.more 147 rfl)
  ki_BadPlan_NoShare := of_decide_eq_true (exB_at c.more 148 rfl)
  em_BadPlan_NoPlan := of_decide_eq_true (exB_at c.more 149 rfl)
  ki_BadPlan_NoPlan := of_decide_eq_true (exB_at c.more 150 rfl)
  em_BadPlan_TooLarge := of_decide_eq_true (exB_at c.more 151 rfl)
  ki_BadPlan_TooLarge := of_decide_eq_true (exB_at c.more 152 rfl)
  kv_BadPlan := of_decide_eq_true (exB_at c.more 153 rfl)
  xc_BadPaper := excB_ok (exB_at c.more 154 rfl)
  em_BadPaper_LossError := of_decide_eq_true (exB_at c.more 155 rfl)
  ki_BadPaper_LossError := of_decide_eq_true (exB_at c.more 156 rfl)
  em_BadPaper_BadText := of_decide_eq_true (exB_at c.more 157 rfl)
  ki_BadPaper_BadText := of_decide_eq_true (exB_at c.more 158 rfl)
  em_BadPaper_BadRatio := of_decide_eq_true (exB_at c.more 159 rfl)
  ki_BadPaper_BadRatio := of_decide_eq_true (exB_at c.more 160 rfl)
  em_BadPaper_BadPlan := of_decide_eq_true (exB_at c.more 161 rfl)
  ki_BadPaper_BadPlan := of_decide_eq_true (exB_at c.more 162 rfl)
  em_BadPaper_BadPaper := of_decide_eq_true (exB_at c.more 163 rfl)
  ki_BadPaper_BadPaper := of_decide_eq_true (exB_at c.more 164 rfl)
  em_BadPaper_NoShare := of_decide_eq_true (exB_at c.more 165 rfl)
  ki_BadPaper_NoShare := of_decide_eq_true (exB_at c.more 166 rfl)
  em_BadPaper_NoPlan := of_decide_eq_true (exB_at c.more 167 rfl)
  ki_BadPaper_NoPlan := of_decide_eq_true (exB_at c.more 168 rfl)
  em_BadPaper_TooLarge := of_decide_eq_true (exB_at c.more 169 rfl)
  ki_BadPaper_TooLarge := of_decide_eq_true (exB_at c.more 170 rfl)
  kv_BadPaper := of_decide_eq_true (exB_at c.more 171 rfl)
  xc_NoShare := excB_ok (exB_at c.more 172 rfl)
  em_NoShare_LossError := of_decide_eq_true (exB_at c.more 173 rfl)
  ki_NoShare_LossError := of_decide_eq_true (exB_at c.more 174 rfl)
  em_NoShare_BadText := of_decide_eq_true (exB_at c.more 175 rfl)
  ki_NoShare_BadText := of_decide_eq_true (exB_at c.more 176 rfl)
  em_NoShare_BadRatio := of_decide_eq_true (exB_at c.more 177 rfl)
  ki_NoShare_BadRatio := of_decide_eq_true (exB_at c.more 178 rfl)
  em_NoShare_BadPlan := of_decide_eq_true (exB_at c.more 179 rfl)
  ki_NoShare_BadPlan := of_decide_eq_true (exB_at c.more 180 rfl)
  em_NoShare_BadPaper := of_decide_eq_true (exB_at c.more 181 rfl)
  ki_NoShare_BadPaper := of_decide_eq_true (exB_at c.more 182 rfl)
  em_NoShare_NoShare := of_decide_eq_true (exB_at c.more 183 rfl)
  ki_NoShare_NoShare := of_decide_eq_true (exB_at c.more 184 rfl)
  em_NoShare_NoPlan := of_decide_eq_true (exB_at c.more 185 rfl)
  ki_NoShare_NoPlan := of_decide_eq_true (exB_at c.more 186 rfl)
  em_NoShare_TooLarge := of_decide_eq_true (exB_at c.more 187 rfl)
  ki_NoShare_TooLarge := of_decide_eq_true (exB_at c.more 188 rfl)
  kv_NoShare := of_decide_eq_true (exB_at c.more 189 rfl)
  xc_NoPlan := excB_ok (exB_at c.more 190 rfl)
  em_NoPlan_LossError := of_decide_eq_true (exB_at c.more 191 rfl)
  ki_NoPlan_LossError := of_decide_eq_true (exB_at c.more 192 rfl)
  em_NoPlan_BadText := of_decide_eq_true (exB_at c.more 193 rfl)
  ki_NoPlan_BadText := of_decide_eq_true (exB_at c.more 194 rfl)
  em_NoPlan_BadRatio := of_decide_eq_true (exB_at c.more 195 rfl)
  ki_NoPlan_BadRatio := of_decide_eq_true (exB_at c.more 196 rfl)
  em_NoPlan_BadPlan := of_decide_eq_true (exB_at c.more 197 rfl)
  ki_NoPlan_BadPlan := of_decide_eq_true (exB_at c.more 198 rfl)
  em_NoPlan_BadPaper := of_decide_eq_true (exB_at c.more 199 rfl)
  ki_NoPlan_BadPaper := of_decide_eq_true (exB_at c.more 200 rfl)
  em_NoPlan_NoShare := of_decide_eq_true (exB_at c.more 201 rfl)
  ki_NoPlan_NoShare := of_decide_eq_true (exB_at c.more 202 rfl)
  em_NoPlan_NoPlan := of_decide_eq_true (exB_at c.more 203 rfl)
  ki_NoPlan_NoPlan := of_decide_eq_true (exB_at c.more 204 rfl)
  em_NoPlan_TooLarge := of_decide_eq_true (exB_at c.more 205 rfl)
  ki_NoPlan_TooLarge := of_decide_eq_true (exB_at c.more 206 rfl)
  kv_NoPlan := of_decide_eq_true (exB_at c.more 207 rfl)
  xc_TooLarge := excB_ok (exB_at c.more 208 rfl)
  em_TooLarge_LossError := of_decide_eq_true (exB_at c.more 209 rfl)
  ki_TooLarge_LossError := of_decide_eq_true (exB_at c.more 210 rfl)
  em_TooLarge_BadText := of_decide_eq_true (exB_at c.more 211 rfl)
  ki_TooLarge_BadText := of_decide_eq_true (exB_at c.more 212 rfl)
  em_TooLarge_BadRatio := of_decide_eq_true (exB_at c.more 213 rfl)
  ki_TooLarge_BadRatio := of_decide_eq_true (exB_at c.more 214 rfl)
  em_TooLarge_BadPlan := of_decide_eq_true (exB_at c.more 215 rfl)
  ki_TooLarge_BadPlan := of_decide_eq_true (exB_at c.more 216 rfl)
  em_TooLarge_BadPaper := of_decide_eq_true (exB_at c.more 217 rfl)
  ki_TooLarge_BadPaper := of_decide_eq_true (exB_at c.more 218 rfl)
  em_TooLarge_NoShare := of_decide_eq_true (exB_at c.more 219 rfl)
  ki_TooLarge_NoShare := of_decide_eq_true (exB_at c.more 220 rfl)
  em_TooLarge_NoPlan := of_decide_eq_true (exB_at c.more 221 rfl)
  ki_TooLarge_NoPlan := of_decide_eq_true (exB_at c.more 222 rfl)
  em_TooLarge_TooLarge := of_decide_eq_true (exB_at c.more 223 rfl)
  ki_TooLarge_TooLarge := of_decide_eq_true (exB_at c.more 224 rfl)
  kv_TooLarge := of_decide_eq_true (exB_at c.more 225 rfl)
  v_NAMES := (exB_at c.more 226 rfl)
  sb_BadText := (exB_at c.more 227 rfl)
  xf_BadText := L2.xfB_ok (exB_at c.more 228 rfl)
  xn_BadText := eqO_ok (exB_at c.more 229 rfl)
  sb_BadPlan := (exB_at c.more 230 rfl)
  xf_BadPlan := L2.xfB_ok (exB_at c.more 231 rfl)
  xn_BadPlan := eqO_ok (exB_at c.more 232 rfl)
  sb_BadPaper := (exB_at c.more 233 rfl)
  xf_BadPaper := L2.xfB_ok (exB_at c.more 234 rfl)
  xn_BadPaper := eqO_ok (exB_at c.more 235 rfl)
  sb_NoShare := (exB_at c.more 236 rfl)
  xf_NoShare := L2.xfB_ok (exB_at c.more 237 rfl)
  xn_NoShare := eqO_ok (exB_at c.more 238 rfl)
  sb_NoPlan := (exB_at c.more 239 rfl)
  xf_NoPlan := L2.xfB_ok (exB_at c.more 240 rfl)
  xn_NoPlan := eqO_ok (exB_at c.more 241 rfl)
  sb_TooLarge := (exB_at c.more 242 rfl)
  xf_TooLarge := L2.xfB_ok (exB_at c.more 243 rfl)
  xn_TooLarge := eqO_ok (exB_at c.more 244 rfl)
  s_BadText := SupX.sup_of (P := PR) (x := "at") (exB_at c.more 227 rfl) (He.zsW_at z 0 rfl rfl) (by decide +kernel) (fun _ _ _ _ _ _ _ _ _ => rfl) rfl rfl rfl rfl rfl rfl (by decide +kernel) (by decide +kernel) (by decide +kernel) (by decide +kernel) (by decide +kernel) (by decide) (by decide) (fun _ _ _ _ => rfl) ⟨_, fun _ _ _ _ => rfl⟩ (fun _ _ _ _ => rfl) (fun _ _ _ _ => rfl)
  s_BadPlan := SupX.sup_of (P := PR) (x := "at") (exB_at c.more 230 rfl) (He.zsW_at z 1 rfl rfl) (by decide +kernel) (fun _ _ _ _ _ _ _ _ _ => rfl) rfl rfl rfl rfl rfl rfl (by decide +kernel) (by decide +kernel) (by decide +kernel) (by decide +kernel) (by decide +kernel) (by decide) (by decide) (fun _ _ _ _ => rfl) ⟨_, fun _ _ _ _ => rfl⟩ (fun _ _ _ _ => rfl) (fun _ _ _ _ => rfl)
  s_BadPaper := SupX.sup_of (P := PR) (x := "at") (exB_at c.more 233 rfl) (He.zsW_at z 2 rfl rfl) (by decide +kernel) (fun _ _ _ _ _ _ _ _ _ => rfl) rfl rfl rfl rfl rfl rfl (by decide +kernel) (by decide +kernel) (by decide +kernel) (by decide +kernel) (by decide +kernel) (by decide) (by decide) (fun _ _ _ _ => rfl) ⟨_, fun _ _ _ _ => rfl⟩ (fun _ _ _ _ => rfl) (fun _ _ _ _ => rfl)
  s_NoShare := SupX.sup_of (P := PR) (x := "what") (exB_at c.more 236 rfl) (He.zsW_at z 3 rfl rfl) (by decide +kernel) (fun _ _ _ _ _ _ _ _ _ => rfl) rfl rfl rfl rfl rfl rfl (by decide +kernel) (by decide +kernel) (by decide +kernel) (by decide +kernel) (by decide +kernel) (by decide) (by decide) (fun _ _ _ _ => rfl) ⟨_, fun _ _ _ _ => rfl⟩ (fun _ _ _ _ => rfl) (fun _ _ _ _ => rfl)
  s_NoPlan := SupX.sup_of (P := PR) (x := "least") (exB_at c.more 239 rfl) (He.zsW_at z 4 rfl rfl) (by decide +kernel) (fun _ _ _ _ _ _ _ _ _ => rfl) rfl rfl rfl rfl rfl rfl (by decide +kernel) (by decide +kernel) (by decide +kernel) (by decide +kernel) (by decide +kernel) (by decide) (by decide) (fun _ _ _ _ => rfl) ⟨_, fun _ _ _ _ => rfl⟩ (fun _ _ _ _ => rfl) (fun _ _ _ _ => rfl)
  s_TooLarge := SupX.sup_of (P := PR) (x := "what") (exB_at c.more 242 rfl) (He.zsW_at z 5 rfl rfl) (by decide +kernel) (fun _ _ _ _ _ _ _ _ _ => rfl) rfl rfl rfl rfl rfl rfl (by decide +kernel) (by decide +kernel) (by decide +kernel) (by decide +kernel) (by decide +kernel) (by decide) (by decide) (fun _ _ _ _ => rfl) ⟨_, fun _ _ _ _ => rfl⟩ (fun _ _ _ _ => rfl) (fun _ _ _ _ => rfl)
/-- what the written dicts hold -/
structure TabW (w : World) (K : PySem.W.Frag) : Prop where
  k_NAMES : (ga K "NAMES" == sysModules) = false ∧ ∀ z : Str, KGet K w (ga K "NAMES") z ((([("choose", .str "chooser"), ("come", .str "comer")] : List (Str × He.Dv)).lookup z).map (He.Dv.v K))
theorem tabW_of {w : World} {K : PySem.W.Frag} {h : Heap} (c : He.SaysX fa fn tabs [] exB w h K) : TabW w K where
  k_NAMES := by
    have e : tabs.map (fun t => He.dicW K (t.1 K)) = tabs.map fun t => some (He.keysIn w.params t.2) := congrArg (fun z : He.AlT => z.2) c.t
    have e2 : (tabs.map fun t => He.dicW K (t.1 K))[0]? = (tabs.map fun t => some (He.keysIn w.params t.2))[0]? := by rw [e]
    exact kget_of (kvs := [("choose", .str "chooser"), ("come", .str "comer")]) (Option.some.inj e2) (exB_at c.more 226 rfl)
/-! ### the head's run -/
def names0 : List Str := ["LossError", "BadText", "BadRatio", "BadPlan", "BadPaper", "NoShare", "NoPlan", "TooLarge", "MOST_NODES", "MODULUS", "NAMES", "End", "Lot", "Move", "combine", "value_of", "Way", "Builder", "chained", "tree_of", "views_of", "ends_of", "Game", "_law_pool", "_law_draw", "_law_spend", "_law_number", "_law_same", "_law_value", "_law_statement"]
def names1 : List Str := ["_law_block", "_law_alike", "_law_game", "_law_number_of", "_law_stored", "_law_node", "_law_tree", "_law_parts", "_law_views", "_law_by_hand", "_law_deep", "_law_like", "_law_all"]
def names : List Str := names0 ++ names1
abbrev lawAt : Nat := 47
abbrev hk : PySem.W.Hook := He.hookY 4 fa fn tabs exB zs zv
def ob (s : PySem.W.SharedT) : He.AlX × List SupX.FnZ := He.obsY 4 fa fn tabs exB zs (HandSHeadRun.getT s)
theorem ob_eq (s : PySem.W.SharedT) : ob s = hk.obs s.abs := He.obsY_eq (HandSHeadRun.getT_eq s)
theorem run (w : World) : HandSHeadRun.RunEq R (PySem.W.view R.prog [lawAt]) hk ob 60000 names w := by
  refine PySem.W.byRow2 "special-get-raises" (P := fun w => HandSHeadRun.RunEq R (PySem.W.view R.prog [lawAt]) hk ob 60000 names w) (fun w => ?_) (fun w => ?_) w <;>
    (intro os
     kernel_rfl)
end LL
namespace LL
open PySem PySem.Spec PyProof.Rows L2 He Evl
/-! ### rules of own operators, own str -/
section
variable {X : Cx} {CX : CXT} {n : Nat} {C g : Addr} {sp : Sp} {E : XK}
def rOwnB (C : Addr) (sp : Sp) (E : XK) : R2 := fun x y H Q => ∃ a dx fs b dy gs, x = .ref a ∧ y = .ref b ∧ H a = some (.ins C dx fs) ∧ H b = some (.ins C dy gs) ∧ sp [x, y] H Q E
theorem op_ownB {op : Operator} (hc : PySem.W.selfFirst X.K C = true) (hs : PySem.W.findIn X.K (.ref C) (PySem.dunder op.info.2) = some (some (.ref g))) (hf : PySem.W.isFn X.K (.ref g) = true) (F : FnR X.prog X.w X.K X.mg X.base CX n g sp)
    (hr : Room n X.A) (hx : Passes CX X E) : OpR X (binaryOp op) (rOwnB C sp E) := by
  intro pins s σ H x y v u Q I rx ry h
  obtain ⟨a, dx, fs, b, dy, gs, rfl, rfl, ha, hb, q⟩ := h
  cases (show v = Value.ref a from rx)
  cases (show u = Value.ref b from ry)
  obtain ⟨mA, O, _⟩ := ins_get I.hok ha
  obtain ⟨od, J, _⟩ := O.look
  obtain ⟨mB, O2, _⟩ := ins_get I.hok hb
  obtain ⟨od2, J2, _⟩ := O2.look
  obtain ⟨m, hF⟩ := I.fr
  refine PySem.W.binop_K hF I.ok.mod.kin J J2.type hc hs hf ?_
  refine wpAny_mono (wpAny_call (run_fnR (us := [.ref a, .ref b]) (vs := [.ref a, .ref b]) F hr hx I (.cons rfl (.cons rfl .nil)) q)) (fun w s' z => ?_) fun _ _ x => x
  obtain ⟨z', H', I', rz, qz⟩ := z
  exact SlX.cmpback rz ⟨z', H', I', rz, qz⟩
theorem op_ownC {op : CmpOp} (hop : ∀ a b, compareOp op a b = richCompare op a b) (hn : PySem.W.notFirst X.K C (.ref C) = true) (hs : PySem.W.findIn X.K (.ref C) (cmpInfo op).2.1 = some (some (.ref g))) (hf : PySem.W.isFn X.K (.ref g) = true) (F : FnR X.prog X.w X.K X.mg X.base CX n g sp)
    (hr : Room n X.A) (hx : Passes CX X E) : OpR X (compareOp op) (rOwnB C sp E) := by
  intro pins s σ H x y v u Q I rx ry h
  obtain ⟨a, dx, fs, b, dy, gs, rfl, rfl, ha, hb, q⟩ := h
  cases (show v = Value.ref a from rx)
  cases (show u = Value.ref b from ry)
  obtain ⟨mA, O, _⟩ := ins_get I.hok ha
  obtain ⟨od, J, _⟩ := O.look
  obtain ⟨mB, O2, _⟩ := ins_get I.hok hb
  obtain ⟨od2, J2, _⟩ := O2.look
  obtain ⟨m, hF⟩ := I.fr
  rw [hop]
  refine PySem.W.cmp_K (op := op) (tb := .ref C) hr.units0 hF I.ok.mod.kin J J2.type hn hs hf ?_
  refine wpAny_mono (wpAny_call (run_fnR (us := [.ref a, .ref b]) (vs := [.ref a, .ref b]) F hr hx I (.cons rfl (.cons rfl .nil)) q)) (fun w s' z => ?_) fun _ _ x => x
  obtain ⟨z', H', I', rz, qz⟩ := z
  exact SlX.cmpback rz ⟨z', H', I', rz, qz⟩
def rStrOwn (C : Addr) (sp : Sp) (E : XK) : List V → Hp → VK → Prop := fun xs H Q => ∃ a dx fs, xs = [.ref a] ∧ H a = some (.ins C dx fs) ∧ sp [.ref a] H (fun z H' => ∃ y, z = .str y ∧ Q (.str y) H') E
open Builtin Builtin.Str PySem.W in
theorem call_strOwn (hs : PySem.W.findIn X.K (.ref C) "__str__" = some (some (.ref g))) (hf : PySem.W.isFn X.K (.ref g) = true) (F : FnR X.prog X.w X.K X.mg X.base CX n g sp) (hr : Room (n + 2) X.A) (hx : Passes CX X E) : CallR X (.type "str") (rStrOwn C sp E) := by
  intro pins s σ H xs us Q I r h
  obtain ⟨a, dx, fs, rfl, ha, q⟩ := h
  obtain ⟨u, rfl, ru⟩ := r.one
  cases (show u = Value.ref a from ru)
  obtain ⟨mA, O, _⟩ := ins_get I.hok ha
  obtain ⟨od, J, _⟩ := O.look
  have hr2 : Room n X.A.in1.in1 := (show Room (n + 1) X.A.in1 from Room.in1 hr).in1
  refine callType_codes (T := "str") (Bi := Builtin.«object.__init__») (Q₁ := fun r s₁ => ∃ y u, r = .str y u ∧ EP X pins σ Q r s₁) PySem.F.called_str (PySem.F.typeCall_str_1 _) PySem.F.entry_object_init ?_ ?_
  · refine codeAny_of_tree ?_
    show wpAny _ X.A.in1.in1 (do checkBuiltinCall "str.__new__" ⟨[.type "str", .ref a], []⟩; again (.builtin "str.__new__" ⟨[.type "str", .ref a], []⟩)) _ _ s
    refine wpAny_bind (wpAny_of_eq (PySem.F.newCall_str_1 _) (wpAny_pure ⟨plainId_quiet (by decide +kernel) _, codeAny_builtin PySem.F.entry_str_new ?_⟩))
    rw [Around.under_plainId (by decide +kernel) _]
    rw [str_new_tree]
    refine wpAny_bind (wpAny_pure ?_)
    refine wpAny_bind (wpAny_of_eq isSubtype_str_str ?_)
    have key : wpAny (model X.prog X.w) X.A.in1.in1 (PySem.Builtin.Str.strOf (.ref a)) (fun r s₁ => ∃ y u, r = .str y u ∧ EP X pins σ Q r s₁) X.xe s := by
      unfold PySem.Builtin.Str.strOf
      rw [show isExactStr (.ref a) = false from rfl]
      refine wpAny_bind (m := cRoomFor _ _) (wpAny_cRoomFor hr2.units0 ?_)
      refine wpAny_bind (m := callSpecial? (.ref a) (Str.ofString "__str__")) (special_fn I.kIn J hs (beq_iff_eq.mp hf) (wpAny_mono (wpAny_call (SlX.run_at (us := [.ref a]) (ws := [.ref a]) F hr2 I.env0.in1.in1 hx I (.cons rfl .nil) q)) (fun r s' z => ?_) fun _ _ y => y))
      obtain ⟨z', H', I', rz, y, ez, qz⟩ := z
      subst ez
      obtain ⟨t, e⟩ := (show ∃ t, r = Value.str y t from rz)
      cases e
      exact wpAny_pure ⟨_, _, rfl, .str y, H', I', ⟨t, rfl⟩, qz⟩
    exact wpAny_bind (wpAny_mono key (fun r s₁ hr => wpAny_pure hr) fun _ _ y => y)
  · rintro obj s₁ ⟨y, u, rfl, hq⟩
    exact ⟨typeIs_str _ _ _, PySem.F.args_object_init_2 _ _, object_init_meets PySem.F.called_str.init.lookup PySem.F.called_str.made (by decide) X.prog X.w X.A.in1 _ s₁ ⟨typeIs_str _ _ _, rfl, hq⟩⟩
end
section
variable {P : Program} {w : World} {K : PySem.W.Frag} {mg : Str → Option Value} {base : Heap}
abbrev Fn (P : Program) (w : World) (K : PySem.W.Frag) (mg : Str → Option Value) (base : Heap) (k : Nat) (f : Addr) (sp : Sp) : Prop := FnR P w K mg base (L2.CX P w) k f sp
/-- what a call lets out is what the def lets out -/
theorem pc {N : List Str} {qual : Str} {scope : Scope} {f : Addr} {cd : Value} {A : Around} {outer : List Env} {s : Shared} {H : Hp} {E : XK} (h : scope.kind = .function := by rfl) : Passes (L2.CX P w) (cxOf (L2.CX P w) P w K mg base N qual scope f cd A outer s H E) E :=
  passes_call (takes_of rfl rfl rfl rfl) (fun _ _ _ _ h => h)
theorem fn_def {x qual : Str} {st : Stmt} {f : Addr} {N ps : List Str} {k : Nat} {sp : Sp} (D : ∃ fd, FunD K x qual (defArgs st) (defBody st) (defScope st) [] [] f fd) (S : FnScope N ps (defScope st))
    (hb : ∀ (kV doc pm : Value) (an : Option Addr) (cdv ct : Value) (us : List Value), us.length = ps.length → bindArgs (PySem.W.fnOf x qual (defArgs st) (defBody st) (defScope st) .none kV doc pm an cdv ct) ⟨us, []⟩ = pure (ps.zip us))
    (len : ∀ vs H Q E, sp vs H Q E → vs.length = ps.length)
    (hbody : ∀ (cdv : Value) (A : Around) (outer : List Env) (s : Shared) (H : Hp) (vs : List V) (Q : VK) (E : XK), Room k (A.deeper (envOfC qual (defScope st) s.heap.objs.size f cdv)) → sp vs H Q E →
      ∃ t, PSs (cxOf (L2.CX P w) P w K mg base N qual (defScope st) f cdv A outer s H E) (defBody st) t ∧ t { nx := fun _ H' => Q .non H', rt := Q } (start N vs) H) : Fn P w K mg base (k + 1) f sp := by
  obtain ⟨fd, F⟩ := D
  exact (FnOk.raw (F.ok S len hbody) (F.bindsN hb) (dvs := []) .nil).imp (fun vs H Q E h => by simpa using h)
theorem pe_gr {X : Cx} {x : Str} {a : Addr} {pos : Pos} (hm : X.mg x = some (.ref a)) (hg : Gl X x := by rfl) (hd : (x == ("__debug__" : Str)) = false := by decide) : PE X (.Name x pos) (tC (.ref a)) := pe_glob hg hm rfl hd
/-! ### further rules -/
theorem kp_of {x qual : Str} {st : Stmt} {f : Addr} {dvs : List V} (D : ∃ fd, FunD K x qual (defArgs st) (defBody st) (defScope st) dvs [] f fd) : PySem.W.keepIn K (.ref f) = true := by
  obtain ⟨fd, F⟩ := D
  exact F.kp
theorem pe_fn {X : Cx} {CX : CXT} {k : Nat} {f : Addr} {sp : Sp} {E : XK} {x x' qual : Str} {st : Stmt} {dvs : List V} {e : Expr} {es : List Expr} {t : TA} {p pos : Pos} (D : ∃ fd, FunD X.K x' qual (defArgs st) (defBody st) (defScope st) dvs [] f fd)
    (F : FnR X.prog X.w X.K X.mg X.base CX k f sp) (hr : Room k X.A) (hm : X.mg x = some (.ref f)) (hx : Passes CX X E) (ha : PA X (e :: es) t) (hg : Gl X x := by rfl) (hdb : (x == ("__debug__" : Str)) = false := by decide)
    (he : starEach (e :: es) X.env = (false, eval e X.env) :: starEach es X.env := by rfl) (hpl : (backTo pos (starEach es X.env)).any (·.1) = false := by rfl) :
    PE X (.Call (.Name x p) (e :: es) [] pos) (fun σ H Q => t σ H fun vs H1 => sp vs H1 Q E) := by
  refine ⟨fun pins s σ H Q I h => ?_⟩
  refine wpAny_Call_Name_kw (ld_glob I hg hm ?_ hdb)
  refine PySem.W.callWith_K (h₀ := X.base) I.ok.mod.kin (kp_of D) (thn (ha.run pos pins s σ H _ I h) fun us s1 ⟨vs, H1, I1, r, q⟩ => ⟨I1.kIn, ?_⟩) he hpl
  exact wpAny_call (run_fnR F hr hx I1 r q)
theorem pe_methR0 {X : Cx} {CX : CXT} {k : Nat} {C f : Addr} {m : Str} {sp : Sp} {E : XK} {o : Expr} {ta : TE} {apos pos : Pos} {pl : Sem Bool} (he : PE X o ta) (c : Cls X.K C) (hm : Meth X.K C m f)
    (F : FnR X.prog X.w X.K X.mg X.base CX k f sp) (hr : Room k X.A) (hx : Passes CX X E)
    (ht : eval (.Call (.Attribute o m apos) [] [] pos) X.env = (do
      let ov ← eval o X.env
      standAt apos.atName
      let (f, first) ← holding [ov] (getMethod ov m pl)
      callWith pos f first (backTo pos (starEach [] X.env)) (backToKw pos (keywordEach [] X.env))) := by rfl) :
    PE X (.Call (.Attribute o m apos) [] [] pos) (tMethR C m sp E ta tNil) := by
  refine ⟨fun pins s σ H Q I h => ?_⟩
  refine PySem.W.methodCall_KW (pl := pl) (thn (he.run pins s σ H _ I h) fun u s1 ⟨x, H1, I1, rx, a, dx, fs, ex, ea, l, q⟩ => ?_) ht
  subst ex
  obtain rfl : u = Value.ref a := rx
  refine getmeth_ok I1 ea c hm l ?_
  exact PySem.W.callWith_K0 (first := [.ref a]) I1.kIn hm.kp (wpAny_call (run_fnR (us := [.ref a]) (vs := [.ref a]) F hr hx I1 (.cons rfl .nil) q))
theorem pe_gi {X : Cx} {x : Str} {i : Int} {pos : Pos} (h : ∃ t, X.mg x = some (.int i t)) (hg : Gl X x := by rfl) (hd : (x == ("__debug__" : Str)) = false := by decide) : PE X (.Name x pos) (tC (.int i)) := by
  obtain ⟨t, hm⟩ := h
  exact pe_glob hg hm ⟨_, rfl⟩ hd
theorem pe_gs {X : Cx} {x z : Str} {pos : Pos} (h : ∃ t, X.mg x = some (.str z t)) (hg : Gl X x := by rfl) (hd : (x == ("__debug__" : Str)) = false := by decide) : PE X (.Name x pos) (tC (.str z)) := by
  obtain ⟨t, hm⟩ := h
  exact pe_glob hg hm ⟨_, rfl⟩ hd
theorem run_makeR0 {X : Cx} {CX : CXT} {k : Nat} {f C : Addr} {sp : Sp} {E : XK} {pins : List (Addr × Obj)} {σ : L2.St} {H : Hp} {s : Shared} {Q : VK} (M : Mk X.K C f) (F : FnR X.prog X.w X.K X.mg X.base CX k f sp) (hr : Room (k + 1) X.A) (hx : Passes CX X E) (I : Inv X pins σ H s)
    (h : ∀ x dx, H x = Option.none → H dx = Option.none → dx ≠ x → sp [V.ref x] (upd (upd H dx (.own x)) x (.ins C dx [])) (fun v H2 => v = .non ∧ Q (.ref x) H2) E) :
    wpAny (model X.prog X.w) X.A (call (.ref C) []) (EP X pins σ Q) X.xe s := StX.run_makeR M F hr hx I .nil h
end
/-! ### calls in a try: what is let out is wished for at the slots -/
section
variable {X : Cx} {CX : CXT} {k : Nat} {f C : Addr} {sp : Sp} {E : L2.St → XK} {x : Str} {e : Expr} {es : List Expr} {t : TA} {p pos : Pos}
theorem run_makeRS {pins : List (Addr × Obj)} {σ : L2.St} {H : Hp} {s : Shared} {Q : VK} {us : List Value} {vs : List V} {E : XK} (M : Mk X.K C f) (F : FnR X.prog X.w X.K X.mg X.base CX k f sp) (hr : Room (k + 1) X.A) (hx : PassesAt CX X σ E) (I : Inv X pins σ H s) (r : Vals vs us)
    (h : ∀ x dx, H x = Option.none → H dx = Option.none → dx ≠ x → sp (V.ref x :: vs) (upd (upd H dx (.own x)) x (.ins C dx [])) (fun v H2 => v = .non ∧ Q (.ref x) H2) E) :
    wpAny (model X.prog X.w) X.A (call (.ref C) us) (EP X pins σ Q) X.xe s := by
  have hq := h (s.heap.objs.size + 1) s.heap.objs.size (I.hok.fresh (Nat.le_succ _)) (I.hok.fresh (Nat.le_refl _)) (Nat.ne_of_lt (Nat.lt_succ_self _))
  have I2 := Inv.made (C := C) I
  have r2 : Vals (V.ref (s.heap.objs.size + 1) :: vs) (Value.ref (s.heap.objs.size + 1) :: us) := .cons rfl r
  refine wpAny_call (make_map (f := f) I.kIn M.makes M.init (beq_iff_eq.mp M.fn) (codeAny_mono (F _ X.stack _ _ (Value.ref (s.heap.objs.size + 1) :: us) _ _ E (hr.make C us []) (I2.env0.make C us []) r2 hq) fun r s' hq' => ?_))
  cases r with
  | error e => exact hx pins _ _ e s' I2 hq'
  | ok fl =>
    cases fl with
    | ret u =>
      obtain ⟨v, H', I3, rv, ev, q3⟩ := I2.after hq'
      subst ev
      exact ⟨rv, ⟨V.ref (s.heap.objs.size + 1), H', I3, rfl, q3⟩⟩
    | next => exact False.elim hq'
    | brk => exact False.elim hq'
    | cont => exact False.elim hq'
def tMakeRS (C : Addr) (sp : Sp) (E : L2.St → XK) (t : TA) : TE := fun σ H Q => StX.tMakeR C sp (E σ) t σ H Q
theorem pe_makeRS (M : Mk X.K C f) (F : FnR X.prog X.w X.K X.mg X.base CX k f sp) (hr : Room (k + 1) X.A) (hg : Gl X x) (hm : X.mg x = some (.ref C)) (hx : ∀ σ, PassesAt CX X σ (E σ)) (ha : PA X (e :: es) t) (hdb : (x == ("__debug__" : Str)) = false := by decide)
    (he : starEach (e :: es) X.env = (false, eval e X.env) :: starEach es X.env := by rfl) (hpl : (backTo pos (starEach es X.env)).any (·.1) = false := by rfl) : PE X (.Call (.Name x p) (e :: es) [] pos) (tMakeRS C sp E t) := by
  refine ⟨fun pins s σ H Q I h => ?_⟩
  refine wpAny_Call_Name_kw (ld_glob I hg hm ?_ hdb)
  refine PySem.W.callWith_K (h₀ := X.base) I.ok.mod.kin M.kp (thn (ha.run pos pins s σ H _ I h) fun us s1 ⟨vs, H1, I1, r, q⟩ => ⟨I1.kIn, ?_⟩) he hpl
  exact run_makeRS M F hr (hx σ) I1 r q
theorem run_fnRS {pins : List (Addr × Obj)} {σ : L2.St} {H : Hp} {s : Shared} {E : XK} {Q : VK} {us : List Value} {vs : List V} (F : FnR X.prog X.w X.K X.mg X.base CX k f sp) (hr : Room k X.A) (hx : PassesAt CX X σ E) (I : Inv X pins σ H s) (r : Vals vs us) (h : sp vs H Q E) :
    codeAny (model X.prog X.w) X.A (.call (.ref f) ⟨us, []⟩) (fun r s' => match r with | .ok (.ret v) => EP X pins σ Q v s' | .ok _ => False | .error e => X.xe e s') s := by
  refine codeAny_mono (F X.A X.stack s H us vs Q E hr I.env0 r h) fun r s' hq => ?_
  cases r with
  | error e => exact hx pins H s e s' I hq
  | ok fl =>
    cases fl with
    | ret u => exact I.after hq
    | next => exact hq.elim
    | brk => exact hq.elim
    | cont => exact hq.elim
def tMethRS (C : Addr) (m : Str) (sp : Sp) (E : L2.St → XK) (ta : TE) (t : TA) : TE := fun σ H Q => tMethR C m sp (E σ) ta t σ H Q
theorem pe_methRS {m : Str} {o : Expr} {ta : TE} {apos : Pos} {pl : Sem Bool} (he : PE X o ta) (c : Cls X.K C) (hm : Meth X.K C m f)
    (F : FnR X.prog X.w X.K X.mg X.base CX k f sp) (hr : Room k X.A) (hx : ∀ σ, PassesAt CX X σ (E σ)) (ha : PA X (e :: es) t)
    (hst : starEach (e :: es) X.env = (false, eval e X.env) :: starEach es X.env := by rfl) (hpl : (backTo pos (starEach es X.env)).any (·.1) = false := by rfl)
    (ht : eval (.Call (.Attribute o m apos) (e :: es) [] pos) X.env = (do
      let ov ← eval o X.env
      standAt apos.atName
      let (f, first) ← holding [ov] (getMethod ov m pl)
      callWith pos f first (backTo pos (starEach (e :: es) X.env)) (backToKw pos (keywordEach [] X.env))) := by rfl) :
    PE X (.Call (.Attribute o m apos) (e :: es) [] pos) (tMethRS C m sp E ta t) := by
  refine ⟨fun pins s σ H Q I h => ?_⟩
  refine PySem.W.methodCall_KW (pl := pl) (thn (he.run pins s σ H _ I h) fun u s1 ⟨x, H1, I1, rx, a, dx, fs, ex, ea, l, q⟩ => ?_) ht
  subst ex
  obtain rfl : u = Value.ref a := rx
  refine getmeth_ok I1 ea c hm l ?_
  refine PySem.W.callWith_K (first := [.ref a]) (h₀ := X.base) I.ok.mod.kin hm.kp (thn (ha.run pos pins s1 σ H1 _ I1 q) fun us s2 ⟨vs, H2, I2, r, q2⟩ => ⟨I2.kIn, ?_⟩) hst hpl
  exact wpAny_call (run_fnRS (us := .ref a :: us) (vs := .ref a :: vs) F hr (hx σ) I2 (.cons rfl r) q2)
/-! ### the same rules with the written part by name (in a try) -/
theorem ixk_tup {X : Cx} (K : PySem.W.Frag) (h : X.K = K := by rfl) : IxR X (rIxT K) := by subst h; exact ix_tup
theorem ixk_list {X : Cx} (K : PySem.W.Frag) (h : X.K = K := by rfl) : IxR X (rIxL K) := by subst h; exact ix_list
theorem callk_isi {X : Cx} (K : PySem.W.Frag) (h : X.K = K := by rfl) : CallR X (.builtin "isinstance") (rIsi K) := by subst h; exact call_isi
theorem pek_fld {X : Cx} (K : PySem.W.Frag) {e : Expr} {ta : TE} {f : Str} {pos : Pos} (ha : PE X e ta) (hb : attributeBase e f X.env (eval e X.env) = eval e X.env) (h : X.K = K := by rfl) : PE X (.Attribute e f pos) (tFld K ta f) := by subst h; exact pe_fld ha hb
/-- a suite that is read under a condition -/
theorem pss_given {p : Prop} {st : List Stmt} {t : TS} (h : p → PSs X st t) : PSs X st (fun D σ H => p ∧ t D σ H) := ⟨fun pins s σ H D I hw => (h hw.1).run pins s σ H D I hw.2⟩
/-- isinstance(e, (c1, ..)), e the exception that the suite holds -/
def rIsET (K : PySem.W.Frag) (D a : Addr) : List V → Hp → VK → Prop := fun xs H Q => ∃ (tp : Addr) (cs : List V) (us : List Value) (b : Bool), xs = [.ref a, .ref tp] ∧ H tp = some (.tup cs) ∧ Paired ClsV cs us ∧ PySem.W.kitAny K (.ref D) us = some b ∧ Q (.bl b) H
theorem call_isET {a D : Addr} {oe : Obj} {pn : List (Addr × Obj)} (C : ExcC X.K D) (hz : Zc (.ref D) none oe) (hf : ∃ vs, oe.data = .fields vs) : CallR (X.suite a ((a, oe) :: pn)) (.builtin "isinstance") (rIsET X.K D a) := by
  intro pins s σ H xs us Q I r h
  obtain ⟨tp, cs, ws, b, rfl, hT, k, e, q⟩ := h
  obtain ⟨u1, u2, rfl, r1, r2⟩ := vals2 r
  cases (show u1 = Value.ref a from r1)
  cases (show u2 = Value.ref tp from r2)
  obtain ⟨_, its, rv, o, h1, h2, n, h3⟩ := (show ObjOk X.prog X.w H s.heap tp (.tup cs) from I.hok tp _ hT)
  have e3 := ClsV.all k rv
  subst e3
  obtain ⟨oc, od, dt, sl⟩ := o
  simp only at h2 h3
  subst h2 h3
  obtain ⟨hget, _⟩ := I.pin (a, oe) (List.mem_append.mpr (.inl List.mem_cons_self))
  obtain ⟨vs, hv⟩ := hf
  have J : PySem.W.InstAt s.heap a oe D none := by
    obtain ⟨oc, od, oda, osl⟩ := oe
    obtain ⟨h1, h2⟩ := hz
    dsimp only at h1 h2 hv
    subst h1 h2 hv
    exact ⟨hget, rfl, rfl, trivial⟩
  exact PySem.W.kia_tup (PySem.W.handS_kitx_exc C.hg C.hk C.hs C.hd C.ha C.hn C.ht C.hm) I.kIn J h1 e (fun z => nomatch z) fun tk => ⟨.bl b, H, I.kept (t' := tk) fun _ _ z => z, rfl, q⟩
theorem callk_isE (K : PySem.W.Frag) {a D : Addr} {oe : Obj} {pn : List (Addr × Obj)} (C : ExcC K D) (hz : Zc (.ref D) none oe) (hf : ∃ vs, oe.data = .fields vs) (h : X.K = K := by rfl) : CallR (X.suite a ((a, oe) :: pn)) (.builtin "isinstance") (rIsE K D a) := by subst h; exact call_isE C hz hf
theorem callk_isET (K : PySem.W.Frag) {a D : Addr} {oe : Obj} {pn : List (Addr × Obj)} (C : ExcC K D) (hz : Zc (.ref D) none oe) (hf : ∃ vs, oe.data = .fields vs) (h : X.K = K := by rfl) : CallR (X.suite a ((a, oe) :: pn)) (.builtin "isinstance") (rIsET K D a) := by subst h; exact call_isET C hz hf
end
end LL
namespace LL
open PySem PySem.Spec PyProof.Rows L2 He Evl
/-! ### the law's pool of draws -/
structure Pl where
  cells : List Int
  at_ : Addr
  ix : Nat
  big : Int
  st : Int
  run : Int
  bud : Int
def Pl.l (P : Pl) : List V := [.ref P.at_, .int P.ix, .int P.big, .int P.st, .int P.run, .int P.bud]
/-- the pool P stands at p -/
structure PoolAt (H : Hp) (p : Addr) (P : Pl) : Prop where
  l : H p = some (.lst P.l)
  c : H P.at_ = some (.lst (P.cells.map V.int))
  n : P.cells.length ≤ 63
theorem PoolAt.ne {H : Hp} {p : Addr} {P : Pl} (h : PoolAt H p P) : P.at_ ≠ p := by
  intro e
  have h1 := h.c
  rw [e, h.l] at h1
  simp only [Option.some.injEq, HO.lst.injEq, Pl.l] at h1
  cases hc : P.cells with
  | nil => rw [hc] at h1; simp at h1
  | cons a r => rw [hc] at h1; simp at h1
/-- all but what stands at p is as it was -/
def But (p : Addr) (H H' : Hp) : Prop := ∀ b o, b ≠ p → H b = some o → H' b = some o
theorem But.refl {p : Addr} (H : Hp) : But p H H := fun _ _ _ h => h
theorem But.trans {p : Addr} {H H1 H2 : Hp} (a : But p H H1) (b : But p H1 H2) : But p H H2 := fun c o n h => b c o n (a c o n h)
theorem But.same {p : Addr} {H H' : Hp} (e : Same H H') : But p H H' := fun b o _ h => e b o h
theorem But.upd {p : Addr} {H : Hp} {o : HO} : But p H (upd H p o) := fun b _ n h => (upd_ne n).trans h
theorem But.put {p : Addr} {H H' : Hp} {o : HO} (h : But p H H') : But p H (L2.upd H' p o) := h.trans .upd
theorem PoolAt.put {H : Hp} {p : Addr} {P P' : Pl} (h : PoolAt H p P) (e : P'.at_ = P.at_ ∧ P'.cells = P.cells) : PoolAt (upd H p (.lst P'.l)) p P' :=
  ⟨upd_same, by rw [e.1, e.2, upd_ne h.ne]; exact h.c, by rw [e.2]; exact h.n⟩
theorem PoolAt.mono {H H' : Hp} {p : Addr} {P : Pl} (e : Same H H') (h : PoolAt H p P) : PoolAt H' p P := ⟨e _ _ h.l, e _ _ h.c, h.n⟩
def spPool (K : PySem.W.Frag) : Sp := fun vs H Q _ => ∃ (a : Addr) (ns : List Int) (b : Int), vs = [.ref a, .int b] ∧ SqL K H a (ns.map V.int) ∧ ns.length ≤ 63 ∧ ∀ p H' P, Same H H' → H p = none → H P.at_ = none → PoolAt H' p P → P.bud = b → Q (.ref p) H'
/-- _law_draw(pool, n): some number from 0 to n - 1, the pool changed -/
def spDraw : Sp := fun vs H Q _ => ∃ (p : Addr) (n : Int) (P : Pl), vs = [.ref p, .int n] ∧ PoolAt H p P ∧ 0 < n ∧ n < 1073741824 ∧
  ∀ (r : Int) (P' : Pl), 0 ≤ r → r < n → P'.at_ = P.at_ → P'.cells = P.cells → P'.bud = P.bud → Q (.int r) (upd H p (.lst P'.l))
section
variable {P : Program} {w : World} {K : PySem.W.Frag} {mg : Str → Option Value} {base : Heap}
theorem fn_l_pool (T : Txt K mg) : Fn P w K mg base 1 (ga K "_law_pool") (spPool K) := by
  refine fn_def T.d_l_pool sc_l_pool (fun _ _ _ _ _ _ us hl => match us, hl with | [_, _], _ => rfl) (fun vs H Q E h => ?_) (fun cdv A outer s H vs Q E hr h => ?_)
  · obtain ⟨a, ns, b, rfl, _⟩ := h
    rfl
  · obtain ⟨a, ns, b, rfl, hS, hz, k⟩ := h
    refine ⟨_, pss_one (ps_ret (pe_lst (pa_cons (pe_callTy call_list_of (by rfl) T.f_list (by decide +kernel) (pa_cons (pv 0) pa_nil)) (pa_cons (pe_int) (pa_cons (pe_int) (pa_cons (pe_int) (pa_cons (pe_int) (pa_cons (pv 1) pa_nil)))))))), ?_⟩
    refine ⟨_, rfl, a, _, rfl, .inl hS, fun c nc => ?_⟩
    refine ⟨_, rfl, (by show 6 ≤ sizeLine; decide), fun p np => ?_⟩
    have ncp : c ≠ p := ne_of_none upd_same np
    have np0 : H p = none := by rw [upd_ne ncp.symm] at np; exact np
    refine k p _ ⟨ns, c, 0, 0, 1, 0, b⟩ (fun x o e => ?_) np0 nc ⟨upd_same, (upd_ne ncp).trans upd_same, hz⟩ rfl
    rw [upd_ne (ne_of_none e np0), upd_ne (ne_of_none e nc)]
    exact e
theorem w_ix {σ : L2.St} {H : Hp} {Q : VK} {i : Nat} {p : Addr} {xs : List V} {k : Int} {v : V} (hp : H p = some (.lst xs)) (ha : atI xs k = some v) (q : Q v H) (hs : σ[i]? = some (some (.ref p)) := by rfl) : tOp (rIxL K) (tVar i) (tC (.int k)) σ H Q :=
  ⟨_, hs, p, xs, k, v, rfl, rfl, SqL.of hp, ha, q⟩
theorem fn_l_draw (T : Txt K mg) : Fn P w K mg base 1 (ga K "_law_draw") (spDraw) := by
  refine fn_def T.d_l_draw sc_l_draw (fun _ _ _ _ _ _ us hl => match us, hl with | [_, _], _ => rfl) (fun vs H Q E h => ?_) (fun cdv A outer s H vs Q E hr h => ?_)
  · obtain ⟨a, ns, b, rfl, _⟩ := h
    rfl
  · obtain ⟨p, n, ⟨cells, at_, ix, big, st, run, bud⟩, rfl, hP, h0, h1, k⟩ := h
    have nd := sc_l_draw.nd
    refine ⟨_, Evl.pss_cut (ps_if (PW.pt (pw_and (pt_cmpR op_le (pe_ix ix_list (pv 0) (pe_int) (fun _ _ => rfl)) (pe_int) (nomark _)) (pw_and (pt_cmpR op_le (pe_ix ix_list (pv 0) (pe_int) (fun _ _ => rfl)) (pe_int) (nomark _)) (pw_and1 (pt_cmpR op_lt (pe_ix ix_list (pv 0) (pe_int) (fun _ _ => rfl)) (pe_callB call_len_seq (by rfl) T.f_len PySem.boot_len (pa_cons (pe_ix ix_list (pv 0) (pe_int) (fun _ _ => rfl)) pa_nil)) (nomark _)))))) (pss_cons (ps_set (i := 2) nd rfl (by first | exact Or.inl rfl | exact Or.inr rfl) (pe_ix ix_list (pe_ix ix_list (pv 0) (pe_int) (fun _ _ => rfl)) (pe_ix ix_list (pv 0) (pe_int) (fun _ _ => rfl)) (fun _ _ => rfl)))
      (pss_cons (ps_asg (pe_op op_add (pe_ix ix_list (pv 0) (pe_int) (fun _ _ => rfl)) (pe_int)) (pg_sub (pv 0) (pe_int) set_list))
      (pss_cons (ps_asg (pe_op op_mod (pe_callTy call_int1 (by rfl) T.f_int (by decide +kernel) (pa_cons (pe_op op_add (pe_op op_mul (pe_ix ix_list (pv 0) (pe_int) (fun _ _ => rfl)) (pe_int)) (pv 2)) pa_nil)) (pe_int)) (pg_sub (pv 0) (pe_int) set_list))
      (pss_cons (ps_asg (pe_int) (pg_sub (pv 0) (pe_int) set_list))
      (pss_one (ps_if (pt_cmpR op_ge (pv 2) (pe_op op_pow (pe_int) (pe_int)) (nomark _)) (pss_one (ps_asg (pv 2) (pg_sub (pv 0) (pe_int) set_list))) (pss_nil))))))) (pss_nil))
      (pss_cons (ps_if (pt_cmpR op_gt (pe_ix ix_list (pv 0) (pe_int) (fun _ _ => rfl)) (pe_int) (nomark _)) (pss_cons (ps_set (i := 3) nd rfl (by first | exact Or.inl rfl | exact Or.inr rfl) (pe_op op_mod (pe_callTy call_int1 (by rfl) T.f_int (by decide +kernel) (pa_cons (pe_ix ix_list (pv 0) (pe_int) (fun _ _ => rfl)) pa_nil)) (pv 1)))
      (pss_cons (ps_asg (pe_op op_fdiv (pe_ix ix_list (pv 0) (pe_int) (fun _ _ => rfl)) (pv 1)) (pg_sub (pv 0) (pe_int) set_list))
      (pss_cons (ps_asg (pe_int) (pg_sub (pv 0) (pe_int) set_list))
      (pss_one (ps_ret (pv 3)))))) (pss_nil))
      (pss_cons (ps_asg (pe_op op_sub (pe_ix ix_list (pv 0) (pe_int) (fun _ _ => rfl)) (pe_int)) (pg_sub (pv 0) (pe_int) set_list))
      (pss_cons (ps_asg (pe_op op_mod (pe_callTy call_int1 (by rfl) T.f_int (by decide +kernel) (pa_cons (pe_op op_add (pe_op op_mul (pe_ix ix_list (pv 0) (pe_int) (fun _ _ => rfl)) (pe_int)) (pe_int)) pa_nil)) (pe_int)) (pg_sub (pv 0) (pe_int) set_list))
      (pss_one (ps_ret (pe_op op_mod (pe_op op_mod (pe_callTy call_int1 (by rfl) T.f_int (by decide +kernel) (pa_cons (pe_op op_add (pe_op op_mul (pe_ix ix_list (pv 0) (pe_int) (fun _ _ => rfl)) (pe_int)) (pe_int)) pa_nil)) (pe_int)) (pv 1))))))), ?_⟩
    have hl : H p = some (.lst [.ref at_, .int ix, .int big, .int st, .int run, .int bud]) := hP.l
    have hc : H at_ = some (.lst (cells.map V.int)) := hP.c
    have nac : at_ ≠ p := hP.ne
    refine ⟨fun σ H' => ∃ (P' : Pl) (v : Option V), σ = [some (.ref p), some (.int n), v, none] ∧ H' = upd H p (.lst P'.l) ∧ P'.at_ = at_ ∧ P'.cells = cells ∧ P'.bud = bud, ?_, ?_⟩
    · have no : ∃ (P' : Pl) (v : Option V), L2.start n_l_draw [V.ref p, V.int n] = [some (.ref p), some (.int n), v, none] ∧ H = upd H p (.lst (Pl.l P')) ∧ P'.at_ = at_ ∧ P'.cells = cells ∧ P'.bud = bud := by
        refine ⟨⟨cells, at_, ix, big, st, run, bud⟩, none, rfl, ?_, rfl, rfl, rfl⟩
        funext b
        by_cases e : b = p
        · subst e; rw [upd_same]; exact hl
        · rw [upd_ne e]
      refine ⟨_, rfl, p, _, _, _, rfl, rfl, SqL.of hl, rfl, _, _, rfl, rfl, _, rfl, ite2 (fun c1 => ?_) fun c1 => iteF no⟩
      refine ⟨_, rfl, p, _, _, _, rfl, rfl, SqL.of hl, rfl, _, _, rfl, rfl, _, rfl, ite2 (fun c2 => ?_) fun c2 => iteF no⟩
      refine ⟨_, rfl, p, _, _, _, rfl, rfl, SqL.of hl, rfl, _, rfl, p, _, _, _, rfl, rfl, SqL.of hl, rfl, at_, _, rfl, .inl (SqL.of hc), _, _, rfl, rfl, _, rfl, ite2 (fun c3 => ?_) fun c3 => no⟩
      have c3' : ix < cells.length := by
        have := of_decide_eq_true c3
        rw [List.length_map] at this
        omega
      have hx : atI (cells.map V.int) (ix : Int) = some (V.int cells[ix]) := at_of (j := ix) rfl (by rw [List.getElem?_map, List.getElem?_eq_getElem c3']; rfl)
      refine ⟨_, rfl, p, _, _, _, rfl, rfl, SqL.of hl, rfl, _, rfl, p, _, _, _, rfl, rfl, SqL.of hl, rfl, at_, _, _, _, rfl, rfl, SqL.of hc, hx, ?_⟩
      refine ⟨_, rfl, p, _, _, _, rfl, rfl, SqL.of hl, rfl, _, _, rfl, rfl, _, rfl, p, _, _, _, rfl, rfl, hl, rfl, ?_⟩
      refine ⟨_, rfl, p, _, _, _, rfl, rfl, SqL.of upd_same, rfl, _, _, rfl, rfl, .inr ⟨by decide, by decide⟩, _, rfl, _, _, rfl, rfl, .inl ⟨_, rfl, _, _, rfl, rfl, (by show (0 : Int) < 2147483647; decide), _, rfl, p, _, _, _, rfl, rfl, upd_same, rfl, ?_⟩⟩
      refine ⟨_, rfl, p, _, _, _, rfl, rfl, upd_same, rfl, ?_⟩
      refine ⟨_, rfl, _, _, rfl, rfl, ⟨by decide, by decide, by decide⟩, _, _, rfl, rfl, _, rfl, ite2 (fun c4 => ?_) fun c4 => ?_⟩
      · refine ⟨_, rfl, _, rfl, p, _, _, _, rfl, rfl, upd_same, rfl, ?_⟩
        refine ⟨⟨cells, at_, ix + 1, cells[ix], (st * 31 + cells[ix]) % 2147483647, 7, bud⟩, _, rfl, ?_, rfl, rfl, rfl⟩
        rw [upd_upd, upd_upd, upd_upd]
        rfl
      · refine ⟨⟨cells, at_, ix + 1, big, (st * 31 + cells[ix]) % 2147483647, 7, bud⟩, _, rfl, ?_, rfl, rfl, rfl⟩
        rw [upd_upd, upd_upd]
        rfl
    · rintro σ H' ⟨⟨cells', at', ix', big', st', run', bud'⟩, v, rfl, rfl, e1, e2, e3⟩
      dsimp only at e1 e2 e3
      subst e1 e2 e3
      refine ⟨_, rfl, p, _, _, _, rfl, rfl, SqL.of upd_same, rfl, _, _, rfl, rfl, _, rfl, ite2 (fun c5 => ?_) fun c5 => ?_⟩
      · refine ⟨_, rfl, p, _, _, _, rfl, rfl, SqL.of upd_same, rfl, .inl ⟨_, rfl, _, rfl, _, _, rfl, rfl, h0, ?_⟩⟩
        refine ⟨_, rfl, p, _, _, _, rfl, rfl, SqL.of upd_same, rfl, _, rfl, _, _, rfl, rfl, ⟨h0, h1⟩, _, rfl, p, _, _, _, rfl, rfl, upd_same, rfl, ?_⟩
        refine ⟨_, rfl, p, _, _, _, rfl, rfl, upd_same, rfl, _, rfl, ?_⟩
        rw [upd_upd, upd_upd]
        exact k (big' % n) ⟨cells', at', ix', big' / n, st', 0, bud'⟩ (Int.emod_nonneg _ (by omega)) (Int.emod_lt_of_pos _ h0) rfl rfl rfl
      · refine ⟨_, rfl, p, _, _, _, rfl, rfl, SqL.of upd_same, rfl, _, _, rfl, rfl, _, rfl, p, _, _, _, rfl, rfl, upd_same, rfl, ?_⟩
        refine ⟨_, rfl, p, _, _, _, rfl, rfl, SqL.of upd_same, rfl, _, _, rfl, rfl, .inr ⟨by decide, by decide⟩, _, _, rfl, rfl, .inl ⟨_, rfl, _, _, rfl, rfl, (by show (0 : Int) < 2147483647; decide), _, rfl, p, _, _, _, rfl, rfl, upd_same, rfl, ?_⟩⟩
        refine ⟨_, rfl, p, _, _, _, rfl, rfl, SqL.of upd_same, rfl, _, _, rfl, rfl, .inr ⟨by decide, by decide⟩, _, _, rfl, rfl, .inl ⟨_, rfl, _, _, rfl, rfl, (by show (0 : Int) < 2147483647; decide), _, rfl, _, _, rfl, rfl, h0, ?_⟩⟩
        rw [upd_upd, upd_upd]
        exact k _ ⟨cells', at', ix', big', (st' * 48271 + 12345) % 2147483647, run' - 1, bud'⟩ (Int.emod_nonneg _ (by omega)) (Int.emod_lt_of_pos _ h0) rfl rfl rfl
theorem PoolAt.step {H : Hp} {p : Addr} {P P' : Pl} (h : PoolAt H p P) (e1 : P'.at_ = P.at_) (e2 : P'.cells = P.cells) : PoolAt (upd H p (.lst P'.l)) p P' ∧ But p H (upd H p (.lst P'.l)) := ⟨h.put ⟨e1, e2⟩, .upd⟩
theorem at3 {a b c : V} {r : Int} (h0 : 0 ≤ r) (h1 : r < 3) : ∃ v, atI [a, b, c] r = some v ∧ (v = a ∨ v = b ∨ v = c) := by
  rcases (show r = 0 ∨ r = 1 ∨ r = 2 by omega) with rfl | rfl | rfl
  · exact ⟨_, rfl, .inl rfl⟩
  · exact ⟨_, rfl, .inr (.inl rfl)⟩
  · exact ⟨_, rfl, .inr (.inr rfl)⟩
theorem at2 {a b : V} {r : Int} (h0 : 0 ≤ r) (h1 : r < 2) : ∃ v, atI [a, b] r = some v ∧ (v = a ∨ v = b) := by
  rcases (show r = 0 ∨ r = 1 by omega) with rfl | rfl
  · exact ⟨_, rfl, .inl rfl⟩
  · exact ⟨_, rfl, .inr rfl⟩
end
section
variable {P : Program} {w : World} {K : PySem.W.Frag} {mg : Str → Option Value} {base : Heap}
/-! ### data and their kinds -/
def Dep : Nat → PyData → Prop
  | 0, .list _ => False
  | 0, .tuple _ => False
  | n + 1, .list ds => ds.length ≤ 100000 ∧ ∀ d ∈ ds, Dep n d
  | n + 1, .tuple ds => ds.length ≤ 100000 ∧ ∀ d ∈ ds, Dep n d
  | _, .dict _ => False
  | _, _ => True
def tyN : PyData → String
  | .none => "NoneType" | .bool _ => "bool" | .int _ => "int" | .str _ => "str" | .list _ => "list" | .tuple _ => "tuple" | .dict _ => "dict"
def isTup : PyData → Bool | .tuple _ => true | _ => false
def isLst : PyData → Bool | .list _ => true | _ => false
def isBoo : PyData → Bool | .bool _ => true | _ => false
def isInt : PyData → Bool | .bool _ => true | .int _ => true | _ => false
def isStr : PyData → Bool | .str _ => true | _ => false
theorem ty_dp {H : Hp} {v : V} {d : PyData} (h : Dp K H v d) : TyX K H v (.type (tyN d)) := by
  cases h with
  | non => exact .base .non
  | bl b => exact .base (.bl b)
  | int i => exact .base (.int i)
  | str x => exact .base (.str x)
  | lst hs _ =>
    rcases hs with (h | ⟨o, h⟩) | ⟨o, its, n, h, c, _⟩
    · exact .base (.lst h)
    · exact .base (.frz h)
    · exact .kList h c
  | tup hs _ =>
    rcases hs with (h | ⟨o, h⟩) | ⟨o, its, n, h, c, _⟩
    · exact .base (.tup h)
    · exact .fTuple h
    · exact .kTuple h c
theorem kit_tup (d : PyData) : PySem.W.kitOne K (.type (tyN d)) (.type "tuple") = some (isTup d) := by cases d <;> (simp only [tyN, isTup, isLst, isBoo, isInt, isStr]; exact kit_ty (by decide +kernel))
theorem kit_lst (d : PyData) : PySem.W.kitOne K (.type (tyN d)) (.type "list") = some (isLst d) := by cases d <;> (simp only [tyN, isTup, isLst, isBoo, isInt, isStr]; exact kit_ty (by decide +kernel))
theorem kit_boo (d : PyData) : PySem.W.kitOne K (.type (tyN d)) (.type "bool") = some (isBoo d) := by cases d <;> (simp only [tyN, isTup, isLst, isBoo, isInt, isStr]; exact kit_ty (by decide +kernel))
theorem kit_int (d : PyData) : PySem.W.kitOne K (.type (tyN d)) (.type "int") = some (isInt d) := by cases d <;> (simp only [tyN, isTup, isLst, isBoo, isInt, isStr]; exact kit_ty (by decide +kernel))
theorem kit_str (d : PyData) : PySem.W.kitOne K (.type (tyN d)) (.type "str") = some (isStr d) := by cases d <;> (simp only [tyN, isTup, isLst, isBoo, isInt, isStr]; exact kit_ty (by decide +kernel))
theorem dp_all_len {H : Hp} : ∀ {xs : List V} {ds : List PyData}, DpAll K H xs ds → xs.length = ds.length
  | _, _, .nil => rfl
  | _, _, .cons _ t => congrArg (· + 1) (dp_all_len t)
theorem dp_all_get {H : Hp} : ∀ {xs : List V} {ds : List PyData} {i : Nat}, DpAll K H xs ds → i < xs.length → ∃ x d, xs[i]? = some x ∧ ds[i]? = some d ∧ Dp K H x d
  | _, _, 0, .cons h _, _ => ⟨_, _, rfl, rfl, h⟩
  | _, _, i + 1, .cons _ t, l => dp_all_get (i := i) t (by simpa using l)
  | _, _, _, .nil, l => by simp at l
def isNon : PyData → Bool | .none => true | _ => false
theorem dp_non {H : Hp} {v : V} {d : PyData} (h : Dp K H v d) : decide (v = .non) = isNon d := by
  cases h <;> simp [isNon]
mutual
theorem dp_mono {H H' : Hp} (e : Ex H H') : ∀ {v : V} {d : PyData}, Dp K H v d → Dp K H' v d
  | _, _, .non => .non
  | _, _, .bl b => .bl b
  | _, _, .int i => .int i
  | _, _, .str x => .str x
  | _, _, .lst h a => .lst (ex_l e h) (dpa_mono e a)
  | _, _, .tup h a => .tup (ex_t e h) (dpa_mono e a)
theorem dpa_mono {H H' : Hp} (e : Ex H H') : ∀ {vs : List V} {ds : List PyData}, DpAll K H vs ds → DpAll K H' vs ds
  | _, _, .nil => .nil
  | _, _, .cons h a => .cons (dp_mono e h) (dpa_mono e a)
end
theorem ev_isi {σ : L2.St} {H : Hp} {ta : TE} {x : V} {d : PyData} {n : String} {b : Bool} (ha : Ev ta σ H x) (hd : Dp K H x d) (hk : PySem.W.kitOne K (.type (tyN d)) (.type n) = some b) : Ev (tCB (rIsi K) (tCons ta (tCons (tC (.ty n)) tNil))) σ H (.bl b) :=
  fun H1 e Q q => ha H1 e _ fun H2 e2 => ⟨_, _, _, _, b, rfl, ClsV.ty _, ty_dp (dp_mono (e.trans e2) hd), hk, q H2 e2⟩
theorem ev_isN {σ : L2.St} {H : Hp} {ta : TE} {x : V} {d : PyData} (ha : Ev ta σ H x) (hd : Dp K H x d) : Ev (tOp (fun x y H Q => y = .non ∧ Q (.bl (decide (x = .non))) H) ta (tC .non)) σ H (.bl (isNon d)) :=
  fun H1 e Q q => ha H1 e _ fun H2 e2 => ⟨rfl, by rw [dp_non hd]; exact q H2 e2⟩
theorem ev_eqD {σ : L2.St} {H : Hp} {ta tb : TE} {x y : V} {d f : PyData} (ha : Ev ta σ H x) (hb : Ev tb σ H y) (hd : Dp K H x d) (hf : Dp K H y f) (s1 : SeqAt.shaped d = true) (s2 : SeqAt.shaped f = true) : Ev (tOp (rEqD K) ta tb) σ H (.bl (PyData.eqv d f)) :=
  fun H1 e Q q => ha H1 e _ fun H2 e2 => hb H2 (e.trans e2) _ fun H3 e3 => ⟨d, f, dp_mono ((e.trans e2).trans e3) hd, dp_mono ((e.trans e2).trans e3) hf, s1, s2, q H3 (e2.trans e3)⟩
theorem ev_lenS {σ : L2.St} {H : Hp} {ta : TE} {a : Addr} {xs : List V} (ha : Ev ta σ H (.ref a)) (h : SqL K H a xs ∨ SqT K H a xs) : Ev (tCB (rLenS K) (tCons ta tNil)) σ H (.int (xs.length : Int)) :=
  fun H1 e Q q => ha H1 e _ fun H2 e2 => ⟨_, xs, rfl, h.imp (ex_l (e.trans e2)) (ex_t (e.trans e2)), q H2 e2⟩
open Classical in
noncomputable def same (d e : PyData) : Bool := decide (d = e)
theorem same_t {d e : PyData} (h : d = e) : same d e = true := by simp [same, h]
theorem same_f {d e : PyData} (h : d ≠ e) : same d e = false := by simp [same, h]
theorem same_of {d e : PyData} {b : Bool} (h : b = true ↔ d = e) : b = same d e := by
  cases b with
  | true => exact (same_t (h.mp rfl)).symm
  | false => exact (same_f fun z => by simpa using h.mpr z).symm
def spSame (K : PySem.W.Frag) (n : Nat) : Sp := fun vs H Q _ => ∃ (x y : V) (d e : PyData), vs = [x, y] ∧ Dp K H x d ∧ Dp K H y e ∧ Dep n e ∧ ∀ H', Ex H H' → Q (.bl (same d e)) H'
theorem sv_same {n : Nat} {H : Hp} {x y : V} {d e : PyData} (hd : Dp K H x d) (he : Dp K H y e) (hn : Dep n e) : SpV (spSame K n) [x, y] H (.bl (same d e)) :=
  fun H1 e1 Q q E => ⟨x, y, d, e, rfl, dp_mono e1 hd, dp_mono e1 he, hn, fun H' e2 => q H' e2⟩
theorem ev_fn {sp : Sp} {vs : List V} {E : XK} {ta : TA} {σ : L2.St} {H : Hp} {z : V} (h : EvA ta σ H vs) (hs : SpV sp vs H z) : Ev (fun σ H Q => ta σ H fun vs H1 => sp vs H1 Q E) σ H z := fun H1 e Q q =>
  h H1 e _ fun H2 e2 => hs H2 (e.trans e2) Q (fun H3 e3 => q H3 (e2.trans e3)) E
theorem rv_seq {H : Hp} {p : Addr} {xs : List V} {i : Int} {v : V} (h : SqL K H p xs ∨ SqT K H p xs) (ha : atI xs i = some v) : RV (fun x y H Q => rIxL K x y H Q ∨ rIxT K x y H Q ∨ rIxS x y H Q) (.ref p) (.int i) H v :=
  fun H1 e Q q => h.elim (fun h => .inl (rv_ixL h ha H1 e Q q)) (fun h => .inr (.inl (rv_ixT h ha H1 e Q q)))
theorem leaf_eq {H : Hp} {x y : V} {d e : PyData} (hd : Dp K H x d) (he : Dp K H y e) (ht : tyN d = tyN e) (h1 : isTup e = false) (h2 : isLst e = false) : scal x y = true ∧ decide (x = y) = same d e := by
  have hs : scal x y = true := by cases hd <;> cases he <;> first | rfl | (simp [tyN] at ht; done) | (simp [isTup] at h1; done) | (simp [isLst] at h2; done)
  refine ⟨hs, same_of ?_⟩
  cases hd <;> cases he <;> first | (simp [tyN] at ht; done) | (simp [isTup] at h1; done) | (simp [isLst] at h2; done) | simp
def spPrev (K : PySem.W.Frag) : Nat → Sp
  | 0 => fun _ _ _ _ => False
  | n + 1 => spSame K n
theorem dp_seq {H : Hp} {a : Addr} {e : PyData} (h : Dp K H (.ref a) e) : ∃ xs ds, DpAll K H xs ds ∧ ((e = .list ds ∧ SqL K H a xs) ∨ (e = .tuple ds ∧ SqT K H a xs)) := by
  cases h with
  | lst h1 h2 => exact ⟨_, _, h2, .inl ⟨rfl, h1⟩⟩
  | tup h1 h2 => exact ⟨_, _, h2, .inr ⟨rfl, h1⟩⟩
theorem fn_l_same (T : Txt K mg) : ∀ n, Fn P w K mg base (n + 1) (ga K "_law_same") (spSame K n) := by
  have go : ∀ n, Fn P w K mg base n (ga K "_law_same") (spPrev K n) → Fn P w K mg base (n + 1) (ga K "_law_same") (spSame K n) := by
    intro n IH
    refine fn_def T.d_l_same sc_l_same (fun _ _ _ _ _ _ us hl => match us, hl with | [_, _], _ => rfl) (fun vs H Q E h => ?_) (fun cdv A outer s H vs Q E hr h => ?_)
    · obtain ⟨a, ns, _, b, rfl, _⟩ := h
      rfl
    · obtain ⟨x, y, d, e, rfl, hd, he, hde, k⟩ := h
      have nd := sc_l_same.nd
      refine ⟨_, pss_cons (ps_if (PW.pt (pw_or (pt_val (pe_callB call_isi (by rfl) T.f_isinstance (by decide +kernel) (pa_cons (pv 1) (pa_cons (pe_bltn (v := .ty "tuple") rfl T.f_tuple (by decide +kernel) rfl) pa_nil)))) (pw_or1 (pt_val (pe_callB call_isi (by rfl) T.f_isinstance (by decide +kernel) (pa_cons (pv 1) (pa_cons (pe_bltn (v := .ty "list") rfl T.f_list (by decide +kernel) rfl) pa_nil))))))) (pss_cons (ps_if (PW.pt (pw_or (pt_cmpR op_ne (pe_callB call_isi (by rfl) T.f_isinstance (by decide +kernel) (pa_cons (pv 1) (pa_cons (pe_bltn (v := .ty "tuple") rfl T.f_tuple (by decide +kernel) rfl) pa_nil))) (pe_callB call_isi (by rfl) T.f_isinstance (by decide +kernel) (pa_cons (pv 0) (pa_cons (pe_bltn (v := .ty "tuple") rfl T.f_tuple (by decide +kernel) rfl) pa_nil))) (nomark _)) (pw_or1 (pt_cmpR op_ne (pe_callB call_isi (by rfl) T.f_isinstance (by decide +kernel) (pa_cons (pv 1) (pa_cons (pe_bltn (v := .ty "list") rfl T.f_list (by decide +kernel) rfl) pa_nil))) (pe_callB call_isi (by rfl) T.f_isinstance (by decide +kernel) (pa_cons (pv 0) (pa_cons (pe_bltn (v := .ty "list") rfl T.f_list (by decide +kernel) rfl) pa_nil))) (nomark _))))) (pss_one (ps_ret (pe_bl))) (pss_nil))
      (pss_cons (ps_if (pt_cmpR op_ne (pe_callB call_len_seq (by rfl) T.f_len PySem.boot_len (pa_cons (pv 0) pa_nil)) (pe_callB call_len_seq (by rfl) T.f_len PySem.boot_len (pa_cons (pv 1) pa_nil)) (nomark _)) (pss_one (ps_ret (pe_bl))) (pss_nil))
      (pss_cons (ps_for (passes_of rfl) rfl (pi_range1 rfl T.f_range (pa_cons (pe_callB call_len_seq (by rfl) T.f_len PySem.boot_len (pa_cons (pv 1) pa_nil)) pa_nil)) (pg_name (i := 2) nd rfl (by first | exact Or.inl rfl | exact Or.inr rfl)) (pss_one (ps_if (pt_not (pt_val (pe_fn T.d_l_same IH hr T.g_l_same pc (pa_cons (pe_ix ix_seq (pv 0) (pv 2) (fun _ _ => rfl)) (pa_cons (pe_ix ix_seq (pv 1) (pv 2) (fun _ _ => rfl)) pa_nil))))) (pss_one (ps_ret (pe_bl))) (pss_nil))))
      (pss_one (ps_ret (pe_bl)))))) (pss_nil))
      (pss_cons (ps_if (PW.pt (pw_or (pt_cmpR op_isN (pv 1) (pe_non) (nomark _)) (pw_or1 (pt_val (pe_callB call_isi (by rfl) T.f_isinstance (by decide +kernel) (pa_cons (pv 1) (pa_cons (pe_bltn (v := .ty "bool") rfl T.f_bool (by decide +kernel) rfl) pa_nil))))))) (pss_one (ps_ret (pe_and (pe_cmpR op_eq (pe_cmpR op_isN (pv 0) (pe_non) (nomark _)) (pe_cmpR op_isN (pv 1) (pe_non) (nomark _)) (nomark _)) (pe_and (pe_or (pe_cmpR op_isN (pv 1) (pe_non) (nomark _)) (pe_one (pe_callB call_isi (by rfl) T.f_isinstance (by decide +kernel) (pa_cons (pv 0) (pa_cons (pe_bltn (v := .ty "bool") rfl T.f_bool (by decide +kernel) rfl) pa_nil))))) (pe_one (pe_cmpR op_eq (pv 0) (pv 1) (nomark _))))))) (pss_nil))
      (pss_cons (ps_if (pt_val (pe_callB call_isi (by rfl) T.f_isinstance (by decide +kernel) (pa_cons (pv 1) (pa_cons (pe_bltn (v := .ty "int") rfl T.f_int (by decide +kernel) rfl) pa_nil)))) (pss_one (ps_ret (pe_and (pe_callB call_isi (by rfl) T.f_isinstance (by decide +kernel) (pa_cons (pv 0) (pa_cons (pe_bltn (v := .ty "int") rfl T.f_int (by decide +kernel) rfl) pa_nil))) (pe_and (pe_not (pe_callB call_isi (by rfl) T.f_isinstance (by decide +kernel) (pa_cons (pv 0) (pa_cons (pe_bltn (v := .ty "bool") rfl T.f_bool (by decide +kernel) rfl) pa_nil)))) (pe_one (pe_cmpR op_eq (pv 0) (pv 1) (nomark _))))))) (pss_nil))
      (pss_one (ps_ret (pe_and (pe_callB call_isi (by rfl) T.f_isinstance (by decide +kernel) (pa_cons (pv 0) (pa_cons (pe_bltn (v := .ty "str") rfl T.f_str (by decide +kernel) rfl) pa_nil))) (pe_one (pe_cmpR op_eq (pv 0) (pv 1) (nomark _)))))))), ?_⟩
      have vx : ∀ H1, Ev (tVar 0) (L2.start n_l_same [x, y]) H1 x := fun H1 => ev_var rfl
      have vy : ∀ H1, Ev (tVar 1) (L2.start n_l_same [x, y]) H1 y := fun H1 => ev_var rfl
      refine s_if (et_or (et_B (ev_isi (vy _) he (kit_tup e))) fun _ => et_B (ev_isi (vy _) he (kit_lst e))) (fun hb H1 e1 => ?_) (fun hb H1 e1 => ?_)
      · have hb' : isTup e = true ∨ isLst e = true := by
          cases h1 : isTup e with
          | true => exact .inl rfl
          | false => rw [h1] at hb; exact .inr (by simpa using hb)
        have hd1 := dp_mono e1 hd
        have he1 := dp_mono e1 he
        refine s_if (et_or (et_test (ev_op (ev_isi (vy _) he1 (kit_tup e)) (ev_isi (vx _) hd1 (kit_tup d)) (rv_ne rfl))) fun _ => et_test (ev_op (ev_isi (vy _) he1 (kit_lst e)) (ev_isi (vx _) hd1 (kit_lst d)) (rv_ne rfl))) (fun hc H2 e2 => ?_) (fun hc H2 e2 => ?_)
        · have ne : d ≠ e := fun z => by subst z; simp at hc
          exact s_ret ev_c fun H3 e3 => by rw [same_f ne] at k; exact k H3 ((e1.trans e2).trans e3)
        · have h1 : isTup e = isTup d := by
            cases h1 : isTup e <;> cases h2 : isTup d <;> rw [h1, h2] at hc <;> simp at hc ⊢
          have h2 : isLst e = isLst d := by
            cases h1 : isLst e <;> cases h2 : isLst d <;> rw [h1, h2] at hc <;> simp at hc ⊢
          have both : ∃ (a b : Addr) (xs ys : List V) (ds es : List PyData), x = .ref a ∧ y = .ref b ∧ DpAll K H xs ds ∧ DpAll K H ys es ∧ (SqL K H a xs ∨ SqT K H a xs) ∧ (SqL K H b ys ∨ SqT K H b ys) ∧ (d = e ↔ ds = es) ∧ es.length ≤ 100000 ∧ ∃ m, n = m + 1 ∧ ∀ z ∈ es, Dep m z := by
            cases he with
            | lst g1 g2 =>
              cases hd with
              | lst f1 f2 =>
                cases n with
                | zero => exact hde.elim
                | succ m => exact ⟨_, _, _, _, _, _, rfl, rfl, f2, g2, .inl f1, .inl g1, by simp, hde.1, m, rfl, hde.2⟩
              | _ => simp [isLst] at h2
            | tup g1 g2 =>
              cases hd with
              | tup f1 f2 =>
                cases n with
                | zero => exact hde.elim
                | succ m => exact ⟨_, _, _, _, _, _, rfl, rfl, f2, g2, .inr f1, .inr g1, by simp, hde.1, m, rfl, hde.2⟩
              | _ => simp [isTup] at h1
            | _ => simp [isTup, isLst] at hb'
          obtain ⟨a, b, xs, ys, ds, es, rfl, rfl, fx, fy, sx, sy, hiff, hlen, m, rfl, hdm⟩ := both
          have lx := dp_all_len fx
          have ly := dp_all_len fy
          have e12 := e1.trans e2
          have sx2 := sx.imp (ex_l e12) (ex_t e12)
          have sy2 := sy.imp (ex_l e12) (ex_t e12)
          refine s_if (et_test (ev_op (ev_lenS (vx _) sx2) (ev_lenS (vy _) sy2) (rv_ne rfl))) (fun hc H3 e3 => ?_) (fun hc H3 e3 => ?_)
          · have ne : d ≠ e := fun z => by
              have := hiff.mp z
              subst this
              simp [lx, ly] at hc
            exact s_ret ev_c fun H4 e4 => by rw [same_f ne] at k; exact k H4 ((e12.trans e3).trans e4)
          · have el : xs.length = ys.length := by
              have : (xs.length : Int) = ys.length := by simpa using hc
              omega
            have e13 := e12.trans e3
            have sy3 := sy.imp (ex_l e13) (ex_t e13)
            have sx3 := sx.imp (ex_l e13) (ex_t e13)
            refine s_forR1 (n := (ys.length : Int)) (ea_cons (ev_lenS (vy _) sy3) ea_nil) (by omega) (fun i σ' H' => Ex H H' ∧ (∃ v, σ' = [some (.ref a), some (.ref b), v]) ∧ ds.take i = es.take i) (fun H4 e4 => ⟨e13.trans e4, ⟨none, rfl⟩, rfl⟩) ?_ ?_
            · rintro i σ' H' hi ⟨e4, ⟨v, rfl⟩, ht⟩
              have hi' : i < ys.length := by omega
              obtain ⟨x1, d1, gx, gd, gp⟩ := dp_all_get fx (by omega : i < xs.length)
              obtain ⟨y1, d2, gy, ge, gq⟩ := dp_all_get fy hi'
              have sx4 := sx.imp (ex_l e4) (ex_t e4)
              have sy4 := sy.imp (ex_l e4) (ex_t e4)
              have r1 : Ev (tOp (fun x y H Q => rIxL K x y H Q ∨ rIxT K x y H Q ∨ rIxS x y H Q) (tVar 0) (tVar 2)) [some (.ref a), some (.ref b), some (.int (i : Int))] H' x1 := ev_op (ev_var rfl) (ev_var rfl) (rv_seq sx4 (atI_nat gx))
              have r2 : Ev (tOp (fun x y H Q => rIxL K x y H Q ∨ rIxT K x y H Q ∨ rIxS x y H Q) (tVar 1) (tVar 2)) [some (.ref a), some (.ref b), some (.int (i : Int))] H' y1 := ev_op (ev_var rfl) (ev_var rfl) (rv_seq sy4 (atI_nat gy))
              have td : ds.take (i + 1) = ds.take i ++ [d1] := by rw [List.take_add_one, gd]; rfl
              have te : es.take (i + 1) = es.take i ++ [d2] := by rw [List.take_add_one, ge]; rfl
              refine s_if (et_not (et_B (ev_fn (ea_cons r1 (ea_cons r2 ea_nil)) (sv_same (dp_mono e4 gp) (dp_mono e4 gq) (hdm _ (List.mem_of_getElem? ge)))))) (fun hc H5 e5 => ?_) (fun hc H5 e5 => ?_)
              · have n1 : d1 ≠ d2 := fun z => by rw [same_t z] at hc; simp at hc
                have ne : d ≠ e := fun z => by
                  have := hiff.mp z
                  subst this
                  rw [gd] at ge
                  exact n1 (Option.some.inj ge)
                exact s_ret ev_c fun H6 e6 => by rw [same_f ne] at k; exact k H6 ((e4.trans e5).trans e6)
              · have n1 : d1 = d2 := Classical.byContradiction fun z => by rw [same_f z] at hc; simp at hc
                exact ⟨e4.trans e5, ⟨_, rfl⟩, by rw [td, te, ht, n1]⟩
            · rintro σ' H' ⟨e4, ⟨v, rfl⟩, ht⟩
              have eq : ds = es := by
                have h1 : ds.take ds.length = ds := List.take_length
                have h2 : es.take es.length = es := List.take_length
                have z1 : ((ys.length : Int)).toNat = ds.length := by omega
                have z2 : ((ys.length : Int)).toNat = es.length := by omega
                rw [z1] at ht
                rw [h1] at ht
                rw [ht]
                rw [← z1, z2, h2]
              dsimp only
              exact s_ret ev_c fun H5 e5 => by rw [same_t (hiff.mpr eq)] at k; exact k H5 (e4.trans e5)
      · have n1 : isTup e = false := by cases h : isTup e <;> rw [h] at hb <;> simp at hb ⊢
        have n2 : isLst e = false := by cases h : isLst e <;> rw [h] at hb <;> simp at hb ⊢
        have hd1 := dp_mono e1 hd
        have he1 := dp_mono e1 he
        refine s_if (et_or (et_test (ev_isN (vy _) he1)) fun _ => et_B (ev_isi (vy _) he1 (kit_boo e))) (fun hc H2 e2 => ?_) (fun hc H2 e2 => ?_)
        · have hd2 := dp_mono e2 hd1
          have he2 := dp_mono e2 he1
          refine s_ret (ev_is (ev_andV (ev_op (ev_isN (vx _) hd2) (ev_isN (vy _) he2) (rv_eq rfl)) (fun h => ev_andV (ev_orV (ev_isN (vy _) he2) (fun _ => ev_isi (vx _) hd2 (kit_boo d))) (fun h2 => ev_op (vx _) (vy _) (rv_eq (leaf_eq hd2 he2 ?_ n1 n2).1)))) ?_) fun H3 e3 => k H3 ((e1.trans e2).trans e3)
          · cases d <;> cases e <;> simp [isNon, isBoo] at h h2 hc <;> rfl
          · congr 1
            by_cases ht : tyN d = tyN e
            · rw [(leaf_eq hd2 he2 ht n1 n2).2]
              cases d <;> cases e <;> simp [isNon, isBoo, tyN] at hc ht ⊢
            · rw [same_f (fun z => ht (by rw [z]))]
              cases d <;> cases e <;> simp [isNon, isBoo, tyN] at hc ht ⊢
        · refine s_if (et_B (ev_isi (vy _) (dp_mono e2 he1) (kit_int e))) (fun hi H3 e3 => ?_) (fun hi H3 e3 => ?_)
          · have hd2 := dp_mono (e2.trans e3) hd1
            have he2 := dp_mono (e2.trans e3) he1
            refine s_ret (ev_is (ev_andV (ev_isi (vx _) hd2 (kit_int d)) (fun h => ev_andV (ev_notV (ev_isi (vx _) hd2 (kit_boo d))) (fun h2 => ev_op (vx _) (vy _) (rv_eq (leaf_eq hd2 he2 ?_ n1 n2).1)))) ?_) fun H4 e4 => k H4 (((e1.trans e2).trans e3).trans e4)
            · cases d <;> cases e <;> simp [isNon, isBoo, isInt] at h h2 hc hi <;> rfl
            · congr 1
              by_cases ht : tyN d = tyN e
              · rw [(leaf_eq hd2 he2 ht n1 n2).2]
                cases d <;> cases e <;> simp [isNon, isBoo, isInt, tyN] at hc hi ht ⊢
              · rw [same_f (fun z => ht (by rw [z]))]
                cases d <;> cases e <;> simp [isNon, isBoo, isInt, tyN] at hc hi ht ⊢
          · have hd2 := dp_mono (e2.trans e3) hd1
            have he2 := dp_mono (e2.trans e3) he1
            have es : ∃ s, e = .str s := by cases he <;> simp [isNon, isBoo, isInt, isTup, isLst] at hc hi n1 n2 ⊢
            obtain ⟨z, rfl⟩ := es
            refine s_ret (ev_is (ev_andV (ev_isi (vx _) hd2 (kit_str d)) (fun h => ev_op (vx _) (vy _) (rv_eq (leaf_eq hd2 he2 ?_ n1 n2).1))) ?_) fun H4 e4 => k H4 (((e1.trans e2).trans e3).trans e4)
            · cases d <;> simp [isStr] at h <;> rfl
            · congr 1
              by_cases ht : tyN d = tyN (.str z)
              · rw [(leaf_eq hd2 he2 ht n1 n2).2]
                cases d <;> simp [isStr, tyN] at ht ⊢
              · rw [same_f (fun z => ht (by rw [z]))]
                cases d <;> simp [isStr, tyN] at ht ⊢
  intro n
  induction n with
  | zero => exact go 0 (fun _ _ _ _ _ _ _ _ _ _ _ h => h.elim)
  | succ n ih => exact go (n + 1) ih
end
end LL
namespace LL
open PySem PySem.Spec PyProof.Rows L2 He Evl
/-! ### readings that give some value of which a thing is true -/
abbrev VP := V → Hp → Prop
def Mono (P : VP) : Prop := ∀ v H H', Ex H H' → P v H → P v H'
def EvP (te : TE) (σ : L2.St) (H : Hp) (R : VP) : Prop := ∀ H1, Ex H H1 → ∀ Q : VK, (∀ v H2, Ex H1 H2 → R v H2 → Q v H2) → te σ H1 Q
def SpP (sp : Sp) (vs : List V) (H : Hp) (R : VP) : Prop := ∀ (Q : VK) (E : XK), (∀ v H2, Ex H H2 → R v H2 → Q v H2) → sp vs H Q E
section
variable {σ : L2.St} {H H' : Hp} {te ta tb : TE} {R R1 R2 : VP} {D : Ends} {i : Nat} {v : V} {sp : Sp} {E : XK}
theorem EvP.mono (e : Ex H H') (h : EvP te σ H R) : EvP te σ H' R := fun H1 a Q q => h H1 (e.trans a) Q q
theorem ev_p (h : Ev te σ H v) : EvP te σ H (fun w _ => w = v) := fun H1 e Q q => h H1 e Q fun H2 e2 => q v H2 e2 rfl
theorem EvP.ev (h : EvP te σ H (fun w _ => w = v)) : Ev te σ H v := fun H1 e Q q => h H1 e Q fun w H2 e2 z => by subst z; exact q H2 e2
theorem EvP.imp (h : EvP te σ H R) (f : ∀ v H1, Ex H H1 → R v H1 → R1 v H1) : EvP te σ H R1 := fun H1 e Q q => h H1 e Q fun w H2 e2 z => q w H2 e2 (f w H2 (e.trans e2) z)
theorem evp_var (h : σ[i]? = some (some v)) (m : Mono R) (r : R v H) : EvP (tVar i) σ H R := fun H1 e _ q => ⟨v, h, q v H1 (Ex.refl H1) (m _ _ _ e r)⟩
theorem s_asgP (h : EvP te σ H R) (k : ∀ v H1, Ex H H1 → R v H1 → D.nx (σ.set i (some v)) H1) : tAsg te (gName i) D σ H := h H (Ex.refl H) _ fun v H1 e r => k v H1 e r
theorem s_retP (h : EvP te σ H R) (k : ∀ v H1, Ex H H1 → R v H1 → D.rt v H1) : tRet te D σ H := h H (Ex.refl H) _ fun v H1 e r => k v H1 e r
theorem evp_fn1 (h1 : EvP ta σ H R1) (hs : ∀ x H1, Ex H H1 → R1 x H1 → SpP sp [x] H1 R) : EvP (fun σ H Q => tCons ta tNil σ H fun vs H1 => sp vs H1 Q E) σ H R := fun H1 e Q q =>
  h1 H1 e _ fun x H2 e2 r1 => hs x H2 (e.trans e2) r1 Q E fun v H3 e3 r => q v H3 (e2.trans e3) r
theorem evp_fn2 (h1 : EvP ta σ H R1) (m1 : Mono R1) (h2 : EvP tb σ H R2) (hs : ∀ x y H1, Ex H H1 → R1 x H1 → R2 y H1 → SpP sp [x, y] H1 R) : EvP (fun σ H Q => tCons ta (tCons tb tNil) σ H fun vs H1 => sp vs H1 Q E) σ H R := fun H1 e Q q =>
  h1 H1 e _ fun x H2 e2 r1 => h2 H2 (e.trans e2) _ fun y H3 e3 r2 => hs x y H3 ((e.trans e2).trans e3) (m1 _ _ _ e3 r1) r2 Q E fun v H4 e4 r => q v H4 ((e2.trans e3).trans e4) r
theorem evp_op {r : L2.R2} (h1 : EvP ta σ H R1) (m1 : Mono R1) (h2 : EvP tb σ H R2) (hs : ∀ x y H1, Ex H H1 → R1 x H1 → R2 y H1 → ∀ Q : VK, (∀ v H2, Ex H1 H2 → R v H2 → Q v H2) → r x y H1 Q) : EvP (tOp r ta tb) σ H R := fun H1 e Q q =>
  h1 H1 e _ fun x H2 e2 r1 => h2 H2 (e.trans e2) _ fun y H3 e3 r2 => hs x y H3 ((e.trans e2).trans e3) (m1 _ _ _ e3 r1) r2 Q fun v H4 e4 r => q v H4 ((e2.trans e3).trans e4) r
theorem mono_eq : Mono (fun w _ => w = v) := fun _ _ _ _ h => h
end
end LL
namespace LL
open PySem PySem.Spec PyProof.Rows L2 He Evl
/-! ### a base that never changes beside cells that do: B is part of H, B2 of H2; B2 has B's things and new ones; of the rest only the cells ms may have changed -/
structure Stp (ms : List Addr) (B H B2 H2 : Hp) : Prop where
  base : Ex B B2
  in_ : Ex B2 H2
  nw : ∀ b, B b = none → H b ≠ none → B2 b = none
  fr : ∀ b o, b ∉ ms → H b = some o → H2 b = some o
  al : ∀ b, H b ≠ none → H2 b ≠ none
theorem ex_none {B H : Hp} {b : Addr} (e : Ex B H) (h : H b = none) : B b = none := fresh_back e h
namespace Stp
variable {ms ns : List Addr} {B H B2 H2 B3 H3 : Hp} {p : Addr} {o u : HO}
theorem refl (e : Ex B H) : Stp ms B H B H := ⟨Ex.refl B, e, fun _ h _ => h, fun _ _ _ h => h, fun _ h => h⟩
theorem trans (a : Stp ms B H B2 H2) (b : Stp ms B2 H2 B3 H3) : Stp ms B H B3 H3 :=
  ⟨a.base.trans b.base, b.in_, fun c h1 h2 => b.nw c (a.nw c h1 h2) (a.al c h2), fun c o n h => b.fr c o n (a.fr c o n h), fun c h => b.al c (a.al c h)⟩
theorem wk (a : Stp ms B H B2 H2) (h : ∀ x ∈ ms, x ∈ ns) : Stp ns B H B2 H2 := ⟨a.base, a.in_, a.nw, fun b o n => a.fr b o fun z => n (h b z), a.al⟩
theorem nil (a : Stp [] B H B2 H2) : Stp ns B H B2 H2 := a.wk fun _ h => nomatch h
/-- a new thing of the base -/
theorem new (e : Ex B H) (h : H p = none) : Stp ms B H (upd B p o) (upd H p o) :=
  ⟨Ex.new (ex_none e h), fun b u hb => by
      by_cases z : b = p
      · subst z; rw [upd_same] at hb ⊢; exact hb
      · rw [upd_ne z] at hb ⊢; exact e b u hb,
    fun b h1 h2 => by rw [upd_ne (fun z => by subst z; exact h2 h)]; exact h1,
    fun b u _ hb => by rw [upd_ne (ne_of_none hb h)]; exact hb,
    fun b hb => by
      by_cases z : b = p
      · subst z; rw [upd_same]; exact fun q => nomatch q
      · rw [upd_ne z]; exact hb⟩
/-- a new cell beside the base -/
theorem cell (e : Ex B H) (h : H p = none) : Stp ms B H B (upd H p o) :=
  ⟨Ex.refl B, Ex.mut e (ex_none e h), fun _ h1 _ => h1, fun b u _ hb => by rw [upd_ne (ne_of_none hb h)]; exact hb,
    fun b hb => by
      by_cases z : b = p
      · subst z; rw [upd_same]; exact fun q => nomatch q
      · rw [upd_ne z]; exact hb⟩
/-- a store to a cell -/
theorem put (e : Ex B H) (h : B p = none) (m : p ∈ ms) : Stp ms B H B (upd H p o) :=
  ⟨Ex.refl B, Ex.mut e h, fun _ h1 _ => h1, fun b u hn hb => by rw [upd_ne (fun z => hn (by rw [z]; exact m))]; exact hb,
    fun b hb => by
      by_cases z : b = p
      · subst z; rw [upd_same]; exact fun q => nomatch q
      · rw [upd_ne z]; exact hb⟩
/-- a cell becomes a thing of the base -/
theorem keep (e : Ex B H) (h : H p = some o) (hb : B p = none) : Ex B (upd B p o) ∧ Ex (upd B p o) H :=
  ⟨Ex.new hb, fun b u q => by
    by_cases z : b = p
    · subst z; rw [upd_same] at q; rw [h]; exact q
    · rw [upd_ne z] at q; exact e b u q⟩
/-- what is no thing of the base and was there is no thing of the new base -/
theorem off (a : Stp ms B H B2 H2) (h : B p = none) (h2 : H p = some o) : B2 p = none := a.nw p h (by rw [h2]; exact fun q => nomatch q)
theorem ne (a : Stp ms B H B2 H2) (h : H p = some o) (h2 : H2 p = none) : False := a.al p (by rw [h]; exact fun q => nomatch q) h2
/-- from another's step: what stood is as it was -/
theorem ofEx (e : Ex B H) (x : Ex H H2) : Stp ms B H B H2 := ⟨Ex.refl B, e.trans x, fun _ h _ => h, fun b o _ h => x b o h, fun b h q => by
  cases hb : H b with
  | none => exact h hb
  | some o => rw [x b o hb] at q; cases q⟩
end Stp
/-- a step of a def that began with the local cell p (not known to its caller): the caller sees none of it -/
theorem Stp.drop {ms : List Addr} {B H B2 H2 : Hp} {p : Addr} (a : Stp (p :: ms) B H B2 H2) (h : H p = none) : Stp ms B H B2 H2 :=
  ⟨a.base, a.in_, a.nw, fun b o n hb => a.fr b o (fun z => by
    rcases List.mem_cons.mp z with e | e
    · subst e; rw [h] at hb; cases hb
    · exact n e) hb, a.al⟩
/-- behind the making of a local cell: the whole way, seen from ahead of it -/
theorem Stp.with {ms : List Addr} {B H B2 H2 : Hp} {p : Addr} {o : HO} (h : H p = none) (a : Stp (p :: ms) B (upd H p o) B2 H2) : Stp ms B H B2 H2 :=
  ⟨a.base, a.in_, fun b h1 h2 => a.nw b h1 (by rw [upd_ne (fun z => by subst z; exact h2 h)]; exact h2), fun b u n hb => a.fr b u (fun z => by
      rcases List.mem_cons.mp z with e | e
      · subst e; rw [h] at hb; cases hb
      · exact n e) (by rw [upd_ne (ne_of_none hb h)]; exact hb),
    fun b hb => a.al b (by rw [upd_ne (fun z => by subst z; exact hb h)]; exact hb)⟩
/-- the local cell q is done: it goes into the base -/
theorem Stp.close {ms : List Addr} {B H B2 H2 : Hp} {q : Addr} {o0 o : HO} (e : Ex B H) (hq : H q = none) (a : Stp (q :: ms) B (upd H q o0) B2 H2) (hv : H2 q = some o) : Stp ms B H (upd B2 q o) H2 := by
  have b2 : B2 q = none := a.off (ex_none e hq) upd_same
  have w := Stp.with hq a
  obtain ⟨k1, k2⟩ := Stp.keep w.in_ hv b2
  refine ⟨w.base.trans k1, k2, fun b h1 h2 => ?_, w.fr, w.al⟩
  rw [upd_ne (fun z => by subst z; exact h2 hq)]
  exact w.nw b h1 h2
/-- the pool stands at p; its copy of the script is a thing of the base -/
def Pool (p : Addr) (B H : Hp) : Prop := ∃ P : Pl, H p = some (.lst P.l) ∧ B P.at_ = some (.lst (P.cells.map V.int)) ∧ P.cells.length ≤ 63
theorem Pool.at {p : Addr} {B H : Hp} (h : Pool p B H) : ∃ o, H p = some o := let ⟨_, z, _⟩ := h; ⟨_, z⟩
theorem Pool.of {p : Addr} {B B2 H H2 : Hp} (h : Pool p B H) (e : Ex B B2) (hp : H2 p = H p) : Pool p B2 H2 := let ⟨P, h1, h2, h3⟩ := h; ⟨P, hp.trans h1, e _ _ h2, h3⟩
theorem Pool.ne {p q : Addr} {B H : Hp} (h : Pool p B H) (n : H q = none) : q ≠ p := fun z => by
  subst z
  obtain ⟨o, ho⟩ := h.at
  rw [n] at ho
  cases ho
theorem Pool.n1 {p q : Addr} {B H : Hp} {o : HO} (h : Pool p B H) (n : H q = none) : Pool p B (upd H q o) := h.of (Ex.refl B) (upd_ne (h.ne n).symm)
theorem Pool.n2 {p q : Addr} {B H : Hp} {o : HO} (h : Pool p B H) (e : Ex B H) (n : H q = none) : Pool p (upd B q o) (upd H q o) := h.of (Ex.new (ex_none e n)) (upd_ne (h.ne n).symm)
theorem Pool.p1 {p q : Addr} {B H : Hp} {o : HO} (h : Pool p B H) (n : q ≠ p) : Pool p B (upd H q o) := h.of (Ex.refl B) (upd_ne n.symm)
theorem Pool.stp {ms : List Addr} {p : Addr} {B H B2 H2 : Hp} (h : Pool p B H) (a : Stp ms B H B2 H2) (n : p ∉ ms) : Pool p B2 H2 := by
  obtain ⟨o, ho⟩ := h.at
  exact h.of a.base ((a.fr _ _ n ho).trans ho.symm)
/-- a draw: the base stays, some number comes -/
theorem draw_s {p : Addr} {B H : Hp} {n : Int} {Q : VK} {E : XK} (e : Ex B H) (hb : B p = none) (hP : Pool p B H) (h0 : 0 < n) (h1 : n < 1073741824)
    (k : ∀ (r : Int) (H2 : Hp), 0 ≤ r → r < n → Stp [p] B H B H2 → Pool p B H2 → (∀ b, b ≠ p → H2 b = H b) → Q (.int r) H2) : spDraw [.ref p, .int n] H Q E := by
  obtain ⟨P, hl, hc, hz⟩ := hP
  refine ⟨p, n, P, rfl, ⟨hl, e _ _ hc, hz⟩, h0, h1, fun r P' a b e1 e2 _ => k r _ a b (Stp.put e hb (.head _)) ⟨P', upd_same, by rw [e1, e2]; exact hc, by rw [e2]; exact hz⟩ fun b hb => upd_ne hb⟩
end LL
namespace LL
open PySem PySem.Spec PyProof.Rows L2 He Evl ND
theorem yes_if {σ : L2.St} {H : Hp} {A B : Hp → Prop} (h : A H) : tYes σ H (fun b H3 => if b = true then A H3 else B H3) := by
  show (if true = true then A H else B H)
  rw [if_pos rfl]
  exact h
theorem upd_twice {H : Hp} {a : Addr} {o u : HO} : upd (upd H a o) a u = upd H a u := by
  funext b
  by_cases h : b = a
  · rw [h, upd_same, upd_same]
  · rw [upd_ne h, upd_ne h, upd_ne h]
section
variable {K : PySem.W.Frag} {σ : L2.St} {H : Hp} {te tl : TE} {j : Nat} {vs : List Nat} {xs ys : List V}
theorem lc_turn {H0 H' : Hp} {D : Addr} {i : Nat} {x : V} (e0 : Ex H H0) (nD : H0 D = none) (e : Ex H0 H') (hD : H' D = some (.lst (ys.take i))) (hl : ys.length ≤ 40000) (hi : i < ys.length) (hw : ∀ x, wipe ((wipe σ vs).set j (some x)) vs = wipe σ vs)
    (he : ∀ y, ys[i]? = some y → Ev te ((wipe σ vs).set j (some x)) H y) :
    gName j x (wipe σ vs) H' fun σ2 H2 => wipe σ2 vs = wipe σ vs ∧ tYes σ2 H2 fun b H3 => if b = true then te σ2 H3 fun y H4 => ∃ acc, H4 D = some (.lst acc) ∧ acc.length < sizeLine ∧ (Ex H0 (upd H4 D (.lst (acc ++ [y]))) ∧ upd H4 D (.lst (acc ++ [y])) D = some (.lst (ys.take (i + 1)))) else (Ex H0 H3 ∧ H3 D = some (.lst (ys.take (i + 1)))) := by
  refine ⟨hw x, yes_if ?_⟩
  obtain ⟨y, hy⟩ : ∃ y, ys[i]? = some y := ⟨_, List.getElem?_eq_getElem hi⟩
  refine he y hy H' (e0.trans e) _ fun H4 e4 => ⟨ys.take i, e4 _ _ hD, ?_, (e.trans e4).mut nD, ?_⟩
  · rw [List.length_take]
    have : (100000 : Nat) ≤ sizeLine := by decide
    omega
  · rw [upd_same, List.take_add_one, hy]; rfl
/-- [f(x) for x in a tuple] -/
theorem lcT {a : Addr} (h : Ev tl σ H (.ref a)) (hx : SqT K H a xs) (hl : ys.length = xs.length) (hz : xs.length ≤ 40000) (hw : ∀ x, wipe ((wipe σ vs).set j (some x)) vs = wipe σ vs)
    (he : ∀ (i : Nat) (x y : V), xs[i]? = some x → ys[i]? = some y → Ev te ((wipe σ vs).set j (some x)) H y) : EvL (tLc (iTup K tl) (gName j) tYes te vs) σ H ys := fun H0 e Q q => h H0 e _ fun H1 e1 => ⟨a, rfl, ⟨xs, ex_t (e.trans e1) hx⟩, fun D nD =>
  lc_it (walk_tup (xs := xs)) (fun i H' => Ex H1 H' ∧ H' D = some (.lst (ys.take i))) ⟨Ex.new nD, upd_same⟩ (fun i H' _ p => ex_t ((e.trans e1).trans p.1) hx)
    (fun i x H' H'' hi p hy => by
      obtain ⟨rfl, hx⟩ := hy
      exact lc_turn (e.trans e1) nD p.1 p.2 (by omega) (by omega) hw fun y hy => he i x y hx hy) (fun H' p => q D H' (fresh_back e1 nD) (e1.trans p.1) (by rw [p.2, ← hl, List.take_length]))⟩
theorem lcL {a : Addr} (h : Ev tl σ H (.ref a)) (hx : SqL K H a xs) (hl : ys.length = xs.length) (hz : xs.length ≤ 40000) (hw : ∀ x, wipe ((wipe σ vs).set j (some x)) vs = wipe σ vs)
    (he : ∀ (i : Nat) (x y : V), xs[i]? = some x → ys[i]? = some y → Ev te ((wipe σ vs).set j (some x)) H y) : EvL (tLc (iList K tl) (gName j) tYes te vs) σ H ys := fun H0 e Q q => h H0 e _ fun H1 e1 => ⟨a, rfl, ⟨xs, ex_l (e.trans e1) hx⟩, fun D nD =>
  lc_it (walk_list (xs := xs)) (fun i H' => Ex H1 H' ∧ H' D = some (.lst (ys.take i))) ⟨Ex.new nD, upd_same⟩ (fun i H' _ p => ex_l ((e.trans e1).trans p.1) hx)
    (fun i x H' H'' hi p hy => by
      obtain ⟨rfl, hx⟩ := hy
      exact lc_turn (e.trans e1) nD p.1 p.2 (by omega) (by omega) hw fun y hy => he i x y hx hy) (fun H' p => q D H' (fresh_back e1 nD) (e1.trans p.1) (by rw [p.2, ← hl, List.take_length]))⟩
theorem lcN (h : EvL tl σ H xs) (hl : ys.length = xs.length) (hz : xs.length ≤ 40000) (hw : ∀ x, wipe ((wipe σ vs).set j (some x)) vs = wipe σ vs)
    (he : ∀ (i : Nat) (x y : V), xs[i]? = some x → ys[i]? = some y → Ev te ((wipe σ vs).set j (some x)) H y) : EvL (tLc (iList K tl) (gName j) tYes te vs) σ H ys := fun H0 e Q q => h H0 e _ fun a H1 na e1 ha => ⟨a, rfl, ⟨xs, sq_of ha⟩, fun D nD =>
  lc_it (walk_list (xs := xs)) (fun i H' => Ex H1 H' ∧ H' D = some (.lst (ys.take i))) ⟨Ex.new nD, upd_same⟩ (fun i H' _ p => ex_l p.1 (sq_of ha))
    (fun i x H' H'' hi p hy => by
      obtain ⟨rfl, hx⟩ := hy
      exact lc_turn (e.trans e1) nD p.1 p.2 (by omega) (by omega) hw fun y hy => he i x y hx hy) (fun H' p => q D H' (fresh_back e1 nD) (e1.trans p.1) (by rw [p.2, ← hl, List.take_length]))⟩
end
end LL
namespace LL
open PySem PySem.Spec PyProof.Rows L2 He Evl ND
abbrev Evt := Str × List Nat
def evK (e : Evt) : NestedKey := .tup (.text e.1 :: e.2.map fun n => .num (n : Nat))
def viewK (v : List Evt) : NestedKey := .tup (v.map evK)
section
variable {K : PySem.W.Frag}
/-! ### keys of views in the heap -/
theorem dp_tupK {H : Hp} {v : V} {ds : List PyData} (h : Dp K H v (.tuple ds)) : ∃ a vs, v = .ref a ∧ SqT K H a vs ∧ DpAll K H vs ds := by
  cases h with
  | tup h1 h2 => exact ⟨_, _, rfl, h1, h2⟩
def evV (e : Evt) : List V := .str e.1 :: e.2.map fun n => .int (n : Nat)
def EvAt (K : PySem.W.Frag) (H : Hp) (x : V) (e : Evt) : Prop := ∃ a, x = .ref a ∧ SqT K H a (evV e)
theorem dpa_nums {H : Hp} : ∀ (ns : List Nat) (vs : List V), DpAll K H vs (NestedKey.datas (ns.map fun n => .num (n : Nat))) ↔ vs = ns.map fun n => .int (n : Nat)
  | [], vs => by
    rw [List.map_nil, NestedKey.datas]
    exact ⟨fun h => by cases h; rfl, fun h => by rw [h]; exact .nil⟩
  | n :: ns, vs => by
    rw [List.map_cons, NestedKey.datas, NestedKey.data]
    constructor
    · intro h
      cases h with
      | cons h1 h2 =>
        cases h1
        rw [(dpa_nums ns _).mp h2]
        rfl
    · intro h
      rw [h]
      exact .cons (.int _) ((dpa_nums ns _).mpr rfl)
theorem ev_dp {H : Hp} {x : V} {e : Evt} : Dp K H x (evK e).data ↔ EvAt K H x e := by
  unfold evK EvAt evV
  rw [NestedKey.data, NestedKey.datas, NestedKey.data]
  constructor
  · intro h
    obtain ⟨a, vs, rfl, h1, h2⟩ := dp_tupK h
    cases h2 with
    | cons h3 h4 =>
      cases h3
      rw [(dpa_nums _ _).mp h4] at h1
      exact ⟨a, rfl, h1⟩
  · rintro ⟨a, rfl, h⟩
    exact Dp.tup h (.cons (.str _) ((dpa_nums _ _).mpr rfl))
theorem evs_dp {H : Hp} : ∀ {xs : List V} {v : List Evt}, DpAll K H xs (NestedKey.datas (v.map evK)) ↔ Paired (EvAt K H) xs v
  | xs, [] => by
    rw [List.map_nil, NestedKey.datas]
    exact ⟨fun h => by cases h; exact .nil, fun h => by cases h; exact .nil⟩
  | xs, e :: v => by
    rw [List.map_cons, NestedKey.datas]
    constructor
    · intro h
      cases h with
      | cons h1 h2 => exact .cons (ev_dp.mp h1) (evs_dp.mp h2)
    · intro h
      cases h with
      | cons h1 h2 => exact .cons (ev_dp.mpr h1) (evs_dp.mpr h2)
theorem key_view {H : Hp} {b : Addr} {v : List Evt} (h : KeyAt K H b (viewK v)) : ∃ xs, SqT K H b xs ∧ Paired (EvAt K H) xs v := by
  have h := h.2.2
  unfold viewK at h
  rw [NestedKey.data] at h
  obtain ⟨a, xs, e, h1, h2⟩ := dp_tupK h
  cases e
  exact ⟨xs, h1, evs_dp.mp h2⟩
theorem depths_num : ∀ ns : List Nat, NestedKey.depthAll (ns.map fun n => .num (n : Nat)) ≤ 1
  | [] => by rw [List.map_nil, NestedKey.depthAll]; omega
  | n :: ns => by
    have := depths_num ns
    rw [List.map_cons, NestedKey.depthAll, NestedKey.depth]
    omega
theorem depth_ev (e : Evt) : (evK e).depth ≤ 4 := by
  have := depths_num e.2
  unfold evK
  rw [NestedKey.depth, NestedKey.depthAll, NestedKey.depth]
  omega
theorem depths_ev : ∀ v : List Evt, NestedKey.depthAll (v.map evK) ≤ 5
  | [] => by rw [List.map_nil, NestedKey.depthAll]; omega
  | e :: v => by
    have h1 := depth_ev e
    have h2 := depths_ev v
    rw [List.map_cons, NestedKey.depthAll]
    omega
theorem view_key {H : Hp} {b : Addr} {v : List Evt} {xs : List V} (h : SqT K H b xs) (hp : Paired (EvAt K H) xs v) : KeyAt K H b (viewK v) := by
  refine ⟨⟨_, rfl⟩, ?_, ?_⟩
  · have := depths_ev v
    unfold viewK
    rw [NestedKey.depth]
    omega
  · unfold viewK
    rw [NestedKey.data]
    exact Dp.tup h (evs_dp.mpr hp)
theorem EvAt.mono {H H' : Hp} {x : V} {e : Evt} (h : EvAt K H x e) (x' : Ex H H') : EvAt K H' x e := by
  obtain ⟨a, h1, h2⟩ := h
  exact ⟨a, h1, ex_t x' h2⟩
end
theorem datas_nums : ∀ ns : List Nat, NestedKey.datas (ns.map fun n => .num (n : Nat)) = ns.map fun n => PyData.int (n : Nat)
  | [] => rfl
  | n :: ns => by rw [List.map_cons, NestedKey.datas, NestedKey.data, datas_nums ns]; rfl
def evD (e : Evt) : PyData := .tuple (.str e.1 :: e.2.map fun n => .int (n : Nat))
theorem ev_data (e : Evt) : (evK e).data = evD e := by
  unfold evK evD
  rw [NestedKey.data, NestedKey.datas, NestedKey.data, datas_nums]
def viewD (v : List Evt) : PyData := .tuple (v.map evD)
theorem datas_evs : ∀ v : List Evt, NestedKey.datas (v.map evK) = v.map evD
  | [] => rfl
  | e :: v => by rw [List.map_cons, NestedKey.datas, ev_data, datas_evs v]; rfl
theorem view_data (v : List Evt) : (viewK v).data = viewD v := by
  unfold viewK viewD
  rw [NestedKey.data, datas_evs]
theorem eqv_nums : ∀ ns ms : List Nat, PyData.eqvAll (ns.map fun n => .int (n : Nat)) (ms.map fun n => .int (n : Nat)) = decide (ns = ms)
  | [], [] => by simp [PyData.eqvAll]
  | [], _ :: _ => by simp [PyData.eqvAll]
  | _ :: _, [] => by simp [PyData.eqvAll]
  | n :: ns, m :: ms => by
    rw [List.map_cons, List.map_cons, PyData.eqvAll, eqv_nums ns ms, PyData.eqv]
    by_cases h : n = m
    · subst h; simp
    · have : ((n : Int) == (m : Int)) = false := by simpa using (fun z : (n : Int) = m => h (by omega))
      rw [this, Bool.false_and, decide_eq_false fun z => h (List.cons.inj z).1]
theorem eqv_ev (e f : Evt) : PyData.eqv (evD e) (evD f) = decide (e = f) := by
  obtain ⟨x, ns⟩ := e
  obtain ⟨y, ms⟩ := f
  unfold evD
  rw [PyData.eqv, PyData.eqvAll, PyData.eqv, eqv_nums]
  by_cases h : x = y
  · subst h; simp
  · have : (x == y) = false := by simpa using h
    rw [this, Bool.false_and, decide_eq_false fun z => h (Prod.ext_iff.mp z).1]
theorem eqv_evs : ∀ v u : List Evt, PyData.eqvAll (v.map evD) (u.map evD) = decide (v = u)
  | [], [] => by simp [PyData.eqvAll]
  | [], _ :: _ => by simp [PyData.eqvAll]
  | _ :: _, [] => by simp [PyData.eqvAll]
  | e :: v, f :: u => by
    rw [List.map_cons, List.map_cons, PyData.eqvAll, eqv_ev, eqv_evs v u]
    by_cases h : e = f
    · subst h; simp
    · rw [decide_eq_false h, Bool.false_and, decide_eq_false fun z => h (List.cons.inj z).1]
theorem eqv_view (v u : List Evt) : PyData.eqv (viewD v) (viewD u) = decide (v = u) := by
  unfold viewD
  rw [PyData.eqv, eqv_evs]
theorem viewK_inj {v u : List Evt} (h : viewK v = viewK u) : v = u := by
  have e := congrArg NestedKey.data h
  rw [view_data, view_data] at e
  have := eqv_evs v u
  rw [(PyData.tuple.inj e)] at this
  have r := eqv_evs u u
  rw [r, decide_eq_true rfl] at this
  exact of_decide_eq_true this.symm
end LL
namespace LL
open PySem PySem.Spec PyProof.Rows L2 He Evl ND
/-! ### games as plain data, and what they come to -/
inductive Exq
  | num (n : Nat)
  | var (x : Str)
  | op (s : Str) (l r : Exq)
inductive Stm
  | set (x : Str) (e : Exq)
  | draw (x : Str) (n : Nat)
  | move (c : Bool) (x : Str) (n k : Nat)
  | shw (c : Bool) (e : Exq)
  | pay (c : Bool) (e : Exq)
  | ite (e : Exq) (a b : List Stm)
def exD : Exq → PyData
  | .num n => .tuple [.str "number", .int (n : Nat)]
  | .var x => .tuple [.str "variable", .str x]
  | .op s l r => .tuple [.str s, exD l, exD r]
def seatS (c : Bool) : Str := if c then "comer" else "chooser"
mutual
def stD : Stm → PyData
  | .set x e => .tuple [.str "set", .str x, exD e]
  | .draw x n => .tuple [.str "draw", .str x, .int (n : Nat)]
  | .move c x n k => .tuple [.str (if c then "come" else "choose"), .str x, .int (n : Nat), .int (k : Nat)]
  | .shw c e => .tuple [.str "show", .str (seatS c), exD e]
  | .pay c e => .tuple [.str (if c then "take" else "pay"), exD e]
  | .ite e a b => .tuple [.str "if", exD e, .tuple (blD a), .tuple (blD b)]
def blD : List Stm → List PyData
  | [] => []
  | s :: r => stD s :: blD r
end
mutual
def szS : Stm → Nat
  | .ite _ a b => 1 + szB a + szB b
  | _ => 1
def szB : List Stm → Nat
  | [] => 0
  | s :: r => szS s + szB r
end
mutual
def nbS : Stm → Nat
  | .ite _ a b => nbB a + nbB b
  | .draw _ _ => 1
  | .move _ _ _ _ => 1
  | _ => 0
def nbB : List Stm → Nat
  | [] => 0
  | s :: r => nbS s + nbB r
end
theorem szB_app : ∀ a b : List Stm, szB (a ++ b) = szB a + szB b
  | [], b => by rw [List.nil_append, szB, Nat.zero_add]
  | s :: a, b => by rw [List.cons_append, szB, szB, szB_app a b, Nat.add_assoc]
theorem nbB_app : ∀ a b : List Stm, nbB (a ++ b) = nbB a + nbB b
  | [], b => by rw [List.nil_append, nbB, Nat.zero_add]
  | s :: a, b => by rw [List.cons_append, nbB, nbB, nbB_app a b, Nat.add_assoc]
theorem blD_app : ∀ a b : List Stm, blD (a ++ b) = blD a ++ blD b
  | [], b => by rw [List.nil_append, blD, List.nil_append]
  | s :: a, b => by rw [List.cons_append, blD, blD, blD_app a b, List.cons_append]
theorem blD_len : ∀ a : List Stm, (blD a).length = a.length
  | [] => rfl
  | s :: a => by rw [blD, List.length_cons, List.length_cons, blD_len a]
theorem blD_get : ∀ {a : List Stm} {i : Nat} {s : Stm}, a[i]? = some s → (blD a)[i]? = some (stD s)
  | s :: a, 0, t, h => by cases h; rfl
  | s :: a, i + 1, t, h => by rw [blD]; exact blD_get (a := a) h
theorem szB_pos (s : Stm) : 1 ≤ szS s := by
  cases s <;> simp [szS] <;> omega
theorem len_szB : ∀ a : List Stm, a.length ≤ szB a
  | [] => Nat.le_refl _
  | s :: a => by
    have := len_szB a
    have := szB_pos s
    rw [szB, List.length_cons]
    omega
/-! tables -/
abbrev Tbl := List (Str × Nat)
def tGet (t : Tbl) (x : Str) : Nat := (t.lookup x).getD 0
def tPut (t : Tbl) (x : Str) (n : Nat) : Tbl := t.map fun p => if p.1 = x then (p.1, n) else p
def opV (s : Str) (a b : Nat) : Nat :=
  if s = "+" then (a + b) % 65536 else if s = "-" then a - b else if s = "*" then a * b % 65536 else if s = "<" then (if a < b then 1 else 0) else if s = "=" then (if a = b then 1 else 0) else if b = 0 then 0 else if s = "/" then a / b else a % b
def exV (t : Tbl) : Exq → Nat
  | .num n => n
  | .var x => tGet t x
  | .op s l r => opV s (exV t l) (exV t r)
/-! trees -/
inductive Tr
  | fin (paid : Int)
  | lot (ps : List Tr)
  | mov (c : Bool) (v : List Evt) (ps : List Tr)
abbrev Vws := List Evt × List Evt
def vGet (c : Bool) (v : Vws) : List Evt := if c then v.2 else v.1
def vAdd (c : Bool) (e : Evt) (v : Vws) : Vws := if c then (v.1, v.2 ++ [e]) else (v.1 ++ [e], v.2)
/-- the parts of a node, one behind another; the count goes through -/
def partsF (F : Nat → Nat → Option (Tr × Nat)) : Nat → Nat → Nat → Option (List Tr × Nat)
  | 0, _, c => some ([], c)
  | n + 1, i, c => match F i c with
    | none => none
    | some (t, c1) => match partsF F n (i + 1) c1 with
      | none => none
      | some (ts, c2) => some (t :: ts, c2)
/-- behind a node's count: statement by statement -/
def goT (zs : Tbl) : Nat → Tbl → Vws → Int → List Stm → Nat → Option (Tr × Nat)
  | 0, _, _, _, _, _ => none
  | f + 1, t, v, pd, S, c => match S with
    | [] => some (.fin pd, c)
    | .set x e :: S => goT zs f (tPut t x (exV t e % tGet zs x)) v pd S c
    | .shw b e :: S => goT zs f t (vAdd b ("shown", [exV t e]) v) pd S c
    | .pay b e :: S => goT zs f t v (pd + if b then -(exV t e : Int) else (exV t e : Int)) S c
    | .ite e A B :: S => goT zs f t v pd ((if exV t e ≠ 0 then A else B) ++ S) c
    | .draw x n :: S => (partsF (fun i c => if c + 1 > 400 then none else goT zs f (tPut t x (i % tGet zs x)) v pd S (c + 1)) n 0 c).map fun p => (.lot p.1, p.2)
    | .move b x n k :: S => (partsF (fun i c => if c + 1 > 400 then none else goT zs f (tPut t x (i % tGet zs x)) (vAdd b ("did", [i]) (vAdd b ("asked", [k, n]) v)) pd S (c + 1)) n 0 c).map fun p => (.mov b (vGet b (vAdd b ("asked", [k, n]) v)) p.1, p.2)
def nodeT (zs : Tbl) (f : Nat) (t : Tbl) (v : Vws) (pd : Int) (S : List Stm) (c : Nat) : Option (Tr × Nat) := if c + 1 > 400 then none else goT zs f t v pd S (c + 1)
end LL
namespace LL
open PySem PySem.Spec PyProof.Rows L2 He Evl ND
/-! ### the leaves of the tree's builder -/
/-- an expression that may stand: numbers and values below 65536 -/
def wfE (xs : List Str) : Exq → Prop
  | .num n => n ≤ 65535
  | .var x => x ∈ xs
  | .op s l r => s ∈ (["+", "-", "*", "/", "mod", "<", "="] : List Str) ∧ wfE xs l ∧ wfE xs r
def dpE : Exq → Nat
  | .num _ => 1
  | .var _ => 1
  | .op _ l r => 1 + dpE l + dpE r - min (dpE l) (dpE r)
theorem dpE_op (s : Str) (l r : Exq) : dpE (.op s l r) = 1 + max (dpE l) (dpE r) := by
  show 1 + dpE l + dpE r - min (dpE l) (dpE r) = _
  omega
def TblOk (t : Tbl) : Prop := ∀ x n, t.lookup x = some n → n ≤ 65535
theorem tGet_le {t : Tbl} (h : TblOk t) (x : Str) : LL.tGet t x ≤ 65535 := by
  unfold LL.tGet
  cases hl : t.lookup x with
  | none => exact Nat.zero_le _
  | some n => exact h x n hl
theorem opV_le {s : Str} {a b : Nat} (ha : a ≤ 65535) (hb : b ≤ 65535) : opV s a b ≤ 65535 := by
  unfold opV
  have h1 := Nat.mod_lt (a + b) (show 0 < 65536 by decide)
  have h2 := Nat.mod_lt (a * b) (show 0 < 65536 by decide)
  split
  · omega
  split
  · omega
  split
  · omega
  split
  · split <;> omega
  split
  · split <;> omega
  split
  · omega
  split
  · exact Nat.le_trans (Nat.div_le_self _ _) ha
  · exact Nat.le_trans (Nat.mod_le _ _) ha
theorem exV_le {t : Tbl} {xs : List Str} (h : TblOk t) : ∀ {e : Exq}, wfE xs e → exV t e ≤ 65535
  | .num n, he => he
  | .var x, _ => tGet_le h x
  | .op s l r, ⟨_, h1, h2⟩ => opV_le (exV_le h h1) (exV_le h h2)
/-- the table as a dict -/
def tK (t : Tbl) : List (Key × V) := t.map fun p => (Sum.inr p.1, V.int (p.2 : Nat))
theorem tK_val : ∀ (t : Tbl) (x : Str), valV (tK t) (Sum.inr x) = (t.lookup x).map fun n => V.int (n : Nat)
  | [], x => rfl
  | p :: t, x => by
    show valV ((Sum.inr p.1, V.int (p.2 : Nat)) :: tK t) (Sum.inr x) = _
    rw [List.lookup_cons]
    by_cases h : p.1 = x
    · rw [valV_pos (p := ((Sum.inr p.1 : Key), V.int (p.2 : Nat))) (by rw [h])]
      subst h
      rw [beq_self_eq_true]
      rfl
    · rw [valV_neg (p := ((Sum.inr p.1 : Key), V.int (p.2 : Nat))) (fun z => h (Sum.inr.inj z)), tK_val t x, show (x == p.1) = false from beq_eq_false_iff_ne.mpr fun z => h z.symm]
theorem tK_get {t : Tbl} {x : Str} (h : x ∈ t.map (·.1)) : valV (tK t) (Sum.inr x) = some (V.int (LL.tGet t x : Nat)) := by
  rw [tK_val]
  unfold LL.tGet
  cases hl : t.lookup x with
  | some n => rfl
  | none =>
    exfalso
    obtain ⟨p, hp, rfl⟩ := List.mem_map.mp h
    have := List.lookup_eq_none_iff.mp hl p hp
    simp at this
theorem tPut_names (t : Tbl) (x : Str) (n : Nat) : (LL.tPut t x n).map (·.1) = t.map (·.1) := by
  unfold LL.tPut
  rw [List.map_map]
  refine List.map_congr_left fun p _ => ?_
  show (if p.1 = x then (p.1, n) else p).1 = p.1
  split <;> rfl
theorem tK_put {t : Tbl} {x : Str} (h : x ∈ t.map (·.1)) (n : Nat) : putK (tK t) (Sum.inr x) (V.int (n : Nat)) = tK (LL.tPut t x n) := by
  unfold putK
  rw [valV_any, tK_get h]
  rw [if_pos (show (some (V.int (LL.tGet t x : Nat))).isSome = true from rfl)]
  unfold tK LL.tPut
  rw [List.map_map, List.map_map]
  refine List.map_congr_left fun p _ => ?_
  show (if (Sum.inr p.1 : Key) = Sum.inr x then ((Sum.inr p.1 : Key), V.int (n : Nat)) else ((Sum.inr p.1 : Key), V.int (p.2 : Nat))) = (Sum.inr (if p.1 = x then (p.1, n) else p).1, V.int ((if p.1 = x then (p.1, n) else p).2 : Nat))
  by_cases e : p.1 = x
  · rw [if_pos e, if_pos (by rw [e])]
  · rw [if_neg e, if_neg (fun z => e (Sum.inr.inj z))]
theorem tPut_ok {t : Tbl} (h : TblOk t) {x : Str} {n : Nat} (hn : n ≤ 65535) : TblOk (LL.tPut t x n) := by
  intro y m
  unfold LL.tPut
  induction t with
  | nil => exact fun z => nomatch z
  | cons p t ih =>
    intro hl
    have ht : TblOk t → (List.lookup y (t.map fun p => if p.1 = x then (p.1, n) else p) = some m → m ≤ 65535) := ih
    have fst : (if p.1 = x then (p.1, n) else p).1 = p.1 := by split <;> rfl
    rw [List.map_cons, List.lookup_cons, fst] at hl
    by_cases e : y = p.1
    · rw [show (y == p.1) = true by simpa using e] at hl
      have hl : (if p.1 = x then (p.1, n) else p).2 = m := Option.some.inj hl
      split at hl
      · omega
      · exact h y m (by rw [List.lookup_cons, show (y == p.1) = true by simpa using e]; exact congrArg some hl)
    · have e' : (y == p.1) = false := by simpa using e
      rw [e'] at hl
      refine (?_ : List.lookup y (t.map fun p => if p.1 = x then (p.1, n) else p) = some m → m ≤ 65535) hl
      intro hz
      -- the values of the rest
      have gen : ∀ t : Tbl, List.lookup y (t.map fun p => if p.1 = x then (p.1, n) else p) = some m → m = n ∨ List.lookup y t = some m := by
        intro t
        induction t with
        | nil => exact fun z => nomatch z
        | cons q t ih2 =>
          intro z
          have fq : (if q.1 = x then (q.1, n) else q).1 = q.1 := by split <;> rfl
          rw [List.map_cons, List.lookup_cons, fq] at z
          rw [List.lookup_cons]
          by_cases c : y = q.1
          · rw [show (y == q.1) = true by simpa using c] at z ⊢
            have z : (if q.1 = x then (q.1, n) else q).2 = m := Option.some.inj z
            split at z
            · exact .inl z.symm
            · exact .inr (congrArg some z)
          · rw [show (y == q.1) = false by simpa using c] at z ⊢
            exact ih2 z
      rcases gen t hz with rfl | hz
      · exact hn
      · exact h y m (by rw [List.lookup_cons, e']; exact hz)
section
variable {w : World} {K : PySem.W.Frag} {mg : Str → Option Value} {base : Heap}
abbrev P : Program := PR
theorem dpa_s {H : Hp} {vs : List V} {x : Str} {ds : List PyData} (h : DpAll K H vs (.str x :: ds)) : ∃ r, vs = .str x :: r ∧ DpAll K H r ds := by
  cases h with
  | cons h1 h2 => cases h1; exact ⟨_, rfl, h2⟩
theorem dpa_i {H : Hp} {vs : List V} {x : Int} {ds : List PyData} (h : DpAll K H vs (.int x :: ds)) : ∃ r, vs = .int x :: r ∧ DpAll K H r ds := by
  cases h with
  | cons h1 h2 => cases h1; exact ⟨_, rfl, h2⟩
theorem dpa_c {H : Hp} {vs : List V} {d : PyData} {ds : List PyData} (h : DpAll K H vs (d :: ds)) : ∃ v r, vs = v :: r ∧ Dp K H v d ∧ DpAll K H r ds := by
  cases h with
  | cons h1 h2 => exact ⟨_, _, rfl, h1, h2⟩
theorem dpa_n {H : Hp} {vs : List V} (h : DpAll K H vs []) : vs = [] := by cases h; rfl
theorem sign_no {s : Str} (h : s ∈ (["+", "-", "*", "/", "mod", "<", "="] : List Str)) : s ≠ "number" ∧ s ≠ "variable" := by
  constructor <;> (rintro rfl; exact absurd h (by decide))
def spComb : Sp := fun us H Q _ => ∃ (s : Str) (a b : Nat), us = [.str s, .int (a : Nat), .int (b : Nat)] ∧ a ≤ 65535 ∧ b ≤ 65535 ∧ Q (.int (opV s a b : Nat)) H
theorem ifs {c : Bool} {A B : Prop} (h1 : c = true → A) (h2 : c = false → B) : if c = true then A else B := by
  cases c with
  | true => exact h1 rfl
  | false => exact h2 rfl
theorem fn_combine (T : Txt K mg) : Fn P w K mg base 1 (ga K "combine") (spComb) := by
  refine fn_def T.d_combine sc_combine (fun _ _ _ _ _ _ us hl => match us, hl with | [_, _, _], _ => rfl) (fun vs H Q E h => ?_) (fun cdv A outer s H vs Q E hr h => ?_)
  · obtain ⟨_, _, _, rfl, _⟩ := h
    rfl
  obtain ⟨sg, a, b, rfl, ha, hb, k⟩ := h
  have nd := sc_combine.nd
  refine ⟨_, pss_cons (ps_if (pt_cmpR op_eq (pv 0) (pe_str) (nomark _)) (pss_one (ps_ret (pe_op op_mod (pe_op op_add (pv 1) (pv 2)) (pe_gi T.i_MODULUS)))) (pss_nil))
      (pss_cons (ps_if (pt_cmpR op_eq (pv 0) (pe_str) (nomark _)) (pss_one (ps_ret (pe_callB (call_max2 rfl) (by rfl) T.f_max (by decide +kernel) (pa_cons (pe_int) (pa_cons (pe_op op_sub (pv 1) (pv 2)) pa_nil))))) (pss_nil))
      (pss_cons (ps_if (pt_cmpR op_eq (pv 0) (pe_str) (nomark _)) (pss_one (ps_ret (pe_op op_mod (pe_op op_mul (pv 1) (pv 2)) (pe_gi T.i_MODULUS)))) (pss_nil))
      (pss_cons (ps_if (pt_cmpR op_eq (pv 0) (pe_str) (nomark _)) (pss_one (ps_ret (pe_callTy call_int1 (by rfl) T.f_int (by decide +kernel) (pa_cons (pe_cmpR op_lt (pv 1) (pv 2) (nomark _)) pa_nil)))) (pss_nil))
      (pss_cons (ps_if (pt_cmpR op_eq (pv 0) (pe_str) (nomark _)) (pss_one (ps_ret (pe_callTy call_int1 (by rfl) T.f_int (by decide +kernel) (pa_cons (pe_cmpR op_eq (pv 1) (pv 2) (nomark _)) pa_nil)))) (pss_nil))
      (pss_cons (ps_if (pt_cmpR op_eq (pv 2) (pe_int) (nomark _)) (pss_one (ps_ret (pe_int))) (pss_nil))
      (pss_one (ps_ret (pe_ifExp (pt_cmpR op_eq (pv 0) (pe_str) (nomark _)) (pe_op op_fdiv (pv 1) (pv 2)) (pe_op op_mod (pv 1) (pv 2)))))))))), ?_⟩
  have go : ∀ n : Int, n = (opV sg a b : Nat) → Q (.int n) H := fun n hn => by rw [hn]; exact k
  have tt : ∀ {t : Str}, decide (V.str sg = V.str t) = true → sg = t := fun h => V.str.inj (of_decide_eq_true h)
  have ff : ∀ {t : Str}, decide (V.str sg = V.str t) = false → ¬ sg = t := fun h z => of_decide_eq_false h (by rw [z])
  refine ⟨_, rfl, rfl, _, rfl, ifs (fun c => ?_) fun c1 => ?_⟩
  · refine ⟨_, rfl, _, rfl, _, _, rfl, rfl, _, _, rfl, rfl, (show (0 : Int) < 65536 by decide), go _ ?_⟩
    unfold opV
    rw [if_pos (tt c)]
    omega
  refine ⟨_, rfl, rfl, _, rfl, ifs (fun c => ?_) fun c2 => ?_⟩
  · refine ⟨_, rfl, _, rfl, _, _, rfl, rfl, _, _, rfl, go _ ?_⟩
    unfold opV
    rw [if_neg (ff c1), if_pos (tt c)]
    split <;> omega
  refine ⟨_, rfl, rfl, _, rfl, ifs (fun c => ?_) fun c3 => ?_⟩
  · refine ⟨_, rfl, _, rfl, _, _, rfl, rfl, .inl ⟨by omega, by omega⟩, _, _, rfl, rfl, (show (0 : Int) < 65536 by decide), go _ ?_⟩
    unfold opV
    rw [if_neg (ff c1), if_neg (ff c2), if_pos (tt c)]
    omega
  refine ⟨_, rfl, rfl, _, rfl, ifs (fun c => ?_) fun c4 => ?_⟩
  · refine ⟨_, rfl, _, rfl, _, _, rfl, rfl, .inr ⟨_, rfl, go _ ?_⟩⟩
    unfold opV
    rw [if_neg (ff c1), if_neg (ff c2), if_neg (ff c3), if_pos (tt c)]
    by_cases z : a < b
    · rw [if_pos z, if_pos (by simpa using z)]; rfl
    · rw [if_neg z, if_neg (by simpa using z)]; rfl
  refine ⟨_, rfl, rfl, _, rfl, ifs (fun c => ?_) fun c5 => ?_⟩
  · refine ⟨_, rfl, _, rfl, rfl, .inr ⟨_, rfl, go _ ?_⟩⟩
    unfold opV
    rw [if_neg (ff c1), if_neg (ff c2), if_neg (ff c3), if_neg (ff c4), if_pos (tt c)]
    by_cases z : a = b
    · rw [if_pos z, if_pos (by rw [z]; exact decide_eq_true rfl)]; rfl
    · rw [if_neg z, if_neg (fun y => z (by have := V.int.inj (of_decide_eq_true y); omega))]; rfl
  refine ⟨_, rfl, rfl, _, rfl, ifs (fun c => ?_) fun c6 => ?_⟩
  · refine go _ ?_
    have : b = 0 := by have := V.int.inj (of_decide_eq_true c); omega
    unfold opV
    rw [if_neg (ff c1), if_neg (ff c2), if_neg (ff c3), if_neg (ff c4), if_neg (ff c5), if_pos this]; rfl
  have hb0 : ¬ b = 0 := fun z => of_decide_eq_false c6 (by rw [z]; rfl)
  refine ⟨_, rfl, rfl, _, rfl, ifs (fun c => ?_) fun c7 => ?_⟩
  · refine ⟨_, rfl, _, rfl, _, _, rfl, rfl, ⟨by omega, by omega⟩, go _ ?_⟩
    unfold opV
    rw [if_neg (ff c1), if_neg (ff c2), if_neg (ff c3), if_neg (ff c4), if_neg (ff c5), if_neg hb0, if_pos (tt c)]
    rfl
  · refine ⟨_, rfl, _, rfl, _, _, rfl, rfl, by omega, go _ ?_⟩
    unfold opV
    rw [if_neg (ff c1), if_neg (ff c2), if_neg (ff c3), if_neg (ff c4), if_neg (ff c5), if_neg hb0, if_neg (ff c7)]
    rfl
/-- the value of an expression -/
def spVal (K : PySem.W.Frag) (d : Nat) : Sp := fun us H Q _ => ∃ (v : V) (a : Addr) (e : Exq) (t : Tbl) (xs : List Str), us = [v, .ref a] ∧ Dp K H v (exD e) ∧ H a = some (.dK (tK t)) ∧ t.map (·.1) = xs ∧ TblOk t ∧ wfE xs e ∧ dpE e ≤ d ∧ Q (.int (exV t e : Nat)) H
theorem fn_val1 (T : Txt K mg) (n : Nat) (IH : Fn P w K mg base (n + 1) (ga K "value_of") (spVal K n)) : Fn P w K mg base (n + 2) (ga K "value_of") (spVal K (n + 1)) := by
  refine fn_def T.d_value_of sc_value_of (fun _ _ _ _ _ _ us hl => match us, hl with | [_, _], _ => rfl) (fun vs H Q E h => ?_) (fun cdv A outer s H vs Q E hr h => ?_)
  · obtain ⟨_, _, _, _, _, rfl, _⟩ := h
    rfl
  obtain ⟨v, a, e, t, xs, rfl, hd, ha, hx, hT, hw, hn, k⟩ := h
  have nd := sc_value_of.nd
  have hr1 : Room 1 _ := hr.mono (by omega)
  refine ⟨_, pss_cons (ps_if (pt_cmpR op_eq (pe_ix ix_tup (pv 0) (pe_int) (fun _ _ => rfl)) (pe_str) (nomark _)) (pss_one (ps_ret (pe_ix ix_tup (pv 0) (pe_int) (fun _ _ => rfl)))) (pss_nil))
      (pss_cons (ps_if (pt_cmpR op_eq (pe_ix ix_tup (pv 0) (pe_int) (fun _ _ => rfl)) (pe_str) (nomark _)) (pss_one (ps_ret (pe_dget (hu_of hr) (pv 1) (pe_ix ix_tup (pv 0) (pe_int) (fun _ _ => rfl)) (fun _ _ => rfl)))) (pss_nil))
      (pss_one (ps_ret (pe_fn T.d_combine (fn_combine T) hr1 T.g_combine pc (pa_cons (pe_ix ix_tup (pv 0) (pe_int) (fun _ _ => rfl)) (pa_cons (pe_fn T.d_value_of IH hr T.g_value_of pc (pa_cons (pe_ix ix_tup (pv 0) (pe_int) (fun _ _ => rfl)) (pa_cons (pv 1) pa_nil))) (pa_cons (pe_fn T.d_value_of IH hr T.g_value_of pc (pa_cons (pe_ix ix_tup (pv 0) (pe_int) (fun _ _ => rfl)) (pa_cons (pv 1) pa_nil))) pa_nil))))))), ?_⟩
  cases e with
  | num i =>
    obtain ⟨b, vs, rfl, sx, dx⟩ := dp_tupK hd
    obtain ⟨_, rfl, dx1⟩ := dpa_s dx
    obtain ⟨_, rfl, dx2⟩ := dpa_i dx1
    cases dpa_n dx2
    refine ⟨_, rfl, b, _, _, _, rfl, rfl, sx, rfl, rfl, _, rfl, ifs (fun _ => ?_) fun c => absurd rfl (of_decide_eq_false c)⟩
    exact ⟨_, rfl, b, _, _, _, rfl, rfl, sx, rfl, k⟩
  | var x =>
    obtain ⟨b, vs, rfl, sx, dx⟩ := dp_tupK hd
    obtain ⟨_, rfl, dx1⟩ := dpa_s dx
    obtain ⟨_, rfl, dx2⟩ := dpa_s dx1
    cases dpa_n dx2
    refine ⟨_, rfl, b, _, _, _, rfl, rfl, sx, rfl, rfl, _, rfl, ifs (fun c => absurd (of_decide_eq_true c) (fun z => absurd (V.str.inj z) (by decide))) fun _ => ?_⟩
    refine ⟨_, rfl, b, _, _, _, rfl, rfl, sx, rfl, rfl, _, rfl, ifs (fun _ => ?_) fun c => absurd rfl (of_decide_eq_false c)⟩
    refine ⟨_, rfl, _, rfl, b, _, _, _, rfl, rfl, sx, rfl, a, _, rfl, ?_, k⟩
    have hg := DGet.k (k := .inr x) ha
    rw [tK_get (by rw [hx]; exact hw)] at hg
    exact hg
  | op s l r =>
    obtain ⟨b, vs, rfl, sx, dx⟩ := dp_tupK hd
    obtain ⟨_, rfl, dx1⟩ := dpa_s dx
    obtain ⟨vl, _, rfl, hl, dx2⟩ := dpa_c dx1
    obtain ⟨vr, _, rfl, hr', dx3⟩ := dpa_c dx2
    cases dpa_n dx3
    obtain ⟨hs, hwl, hwr⟩ := hw
    have hno := sign_no hs
    rw [dpE_op] at hn
    refine ⟨_, rfl, b, _, _, _, rfl, rfl, sx, rfl, rfl, _, rfl, ifs (fun c => absurd (V.str.inj (of_decide_eq_true c)) hno.1) fun _ => ?_⟩
    refine ⟨_, rfl, b, _, _, _, rfl, rfl, sx, rfl, rfl, _, rfl, ifs (fun c => absurd (V.str.inj (of_decide_eq_true c)) hno.2) fun _ => ?_⟩
    refine ⟨_, rfl, b, _, _, _, rfl, rfl, sx, rfl, _, rfl, b, _, _, _, rfl, rfl, sx, rfl, _, rfl, vl, a, l, t, xs, rfl, hl, ha, hx, hT, hwl, by omega, ?_⟩
    refine ⟨_, rfl, b, _, _, _, rfl, rfl, sx, rfl, _, rfl, vr, a, r, t, xs, rfl, hr', ha, hx, hT, hwr, by omega, ?_⟩
    exact ⟨s, _, _, rfl, exV_le hT hwl, exV_le hT hwr, k⟩
theorem fn_val (T : Txt K mg) : ∀ n, Fn P w K mg base (n + 1) (ga K "value_of") (spVal K n)
  | 0 => fun _ _ _ _ _ _ _ _ _ _ _ ⟨_, _, e, _, _, _, _, _, _, _, _, h, _⟩ => by
      exfalso
      cases e with
      | num _ => exact absurd h (by show ¬ 1 ≤ 0; omega)
      | var _ => exact absurd h (by show ¬ 1 ≤ 0; omega)
      | op _ _ _ => rw [dpE_op] at h; omega
  | n + 1 => fn_val1 T n (fn_val T n)
theorem fn_value_of (T : Txt K mg) : Fn P w K mg base 8 (ga K "value_of") (spVal K 7) := fn_val T 7
end
end LL
namespace LL
open PySem PySem.Spec PyProof.Rows L2 He Evl
/-! ### readings beside the pool: the base B grows, the pool at p changes, nothing else; n is the pool's budget -/
def PoolN (n : Int) (p : Addr) (B H : Hp) : Prop := ∃ P : Pl, H p = some (.lst P.l) ∧ B P.at_ = some (.lst (P.cells.map V.int)) ∧ P.cells.length ≤ 63 ∧ P.bud = n
section
variable {n : Int} {p : Addr} {B H : Hp}
theorem PoolN.at (h : PoolN n p B H) : ∃ o, H p = some o := let ⟨_, z, _⟩ := h; ⟨_, z⟩
theorem PoolN.pool (h : PoolN n p B H) : Pool p B H := let ⟨P, h1, h2, h3, _⟩ := h; ⟨P, h1, h2, h3⟩
theorem PoolN.of {B2 H2 : Hp} (h : PoolN n p B H) (e : Ex B B2) (hp : H2 p = H p) : PoolN n p B2 H2 := let ⟨P, h1, h2, h3, h4⟩ := h; ⟨P, hp.trans h1, e _ _ h2, h3, h4⟩
theorem PoolN.ne {q : Addr} (h : PoolN n p B H) (m : H q = none) : q ≠ p := h.pool.ne m
theorem PoolN.n1 {q : Addr} {o : HO} (h : PoolN n p B H) (m : H q = none) : PoolN n p B (upd H q o) := h.of (Ex.refl B) (upd_ne (h.ne m).symm)
theorem PoolN.n2 {q : Addr} {o : HO} (h : PoolN n p B H) (e : Ex B H) (m : H q = none) : PoolN n p (upd B q o) (upd H q o) := h.of (Ex.new (ex_none e m)) (upd_ne (h.ne m).symm)
theorem PoolN.p1 {q : Addr} {o : HO} (h : PoolN n p B H) (m : q ≠ p) : PoolN n p B (upd H q o) := h.of (Ex.refl B) (upd_ne m.symm)
/-- a draw: the base and the budget stay, some number comes -/
theorem draw_n {m : Int} {Q : VK} {E : XK} (e : Ex B H) (hb : B p = none) (hP : PoolN n p B H) (h0 : 0 < m) (h1 : m < 1073741824)
    (k : ∀ (r : Int) (H2 : Hp), 0 ≤ r → r < m → Stp [p] B H B H2 → PoolN n p B H2 → Q (.int r) H2) : spDraw [.ref p, .int m] H Q E := by
  obtain ⟨P, hl, hc, hz, hn⟩ := hP
  exact ⟨p, m, P, rfl, ⟨hl, e _ _ hc, hz⟩, h0, h1, fun r P' a b e1 e2 e3 => k r _ a b (Stp.put e hb (.head _)) ⟨P', upd_same, by rw [e1, e2]; exact hc, by rw [e2]; exact hz, by rw [e3]; exact hn⟩⟩
end
structure Wd (p : Addr) (u : Int) (B H : Hp) : Prop where
  e : Ex B H
  b : B p = none
  P : PoolN u p B H
theorem Wd.stp {p : Addr} {u : Int} {B H B2 H2 : Hp} (w : Wd p u B H) (a : Stp [p] B H B2 H2) (P : PoolN u p B2 H2) : Wd p u B2 H2 := ⟨a.in_, a.off w.b w.P.at.choose_spec, P⟩
theorem Wd.ex {p : Addr} {u : Int} {B H H2 : Hp} (w : Wd p u B H) (x : Ex H H2) : Stp [p] B H B H2 ∧ Wd p u B H2 := by
  obtain ⟨o, ho⟩ := w.P.at
  exact ⟨Stp.ofEx w.e x, ⟨w.e.trans x, w.b, w.P.of (Ex.refl B) ((x _ _ ho).trans ho.symm)⟩⟩
theorem Wd.new {p a : Addr} {u : Int} {o : HO} {B H : Hp} (w : Wd p u B H) (n : H a = none) : Stp [p] B H (upd B a o) (upd H a o) ∧ Wd p u (upd B a o) (upd H a o) := by
  have s := Stp.new (ms := [p]) (o := o) w.e n
  exact ⟨s, w.stp s (w.P.n2 w.e n)⟩
/-- a new cell that is no thing of the base -/
theorem Wd.cell {p a : Addr} {u : Int} {o : HO} {B H : Hp} (w : Wd p u B H) (n : H a = none) : Wd p u B (upd H a o) := ⟨Ex.mut w.e (ex_none w.e n), w.b, w.P.n1 n⟩
theorem Wd.put {p a : Addr} {u : Int} {o : HO} {B H : Hp} (w : Wd p u B H) (n : B a = none) (m : a ≠ p) : Wd p u B (upd H a o) := ⟨Ex.mut w.e n, w.b, w.P.p1 m⟩
/-- what was found new goes into the base -/
theorem Wd.adopt {p a : Addr} {u : Int} {o : HO} {B H H2 : Hp} (w : Wd p u B H) (x : Ex H H2) (n : H a = none) (h : H2 a = some o) : Stp [p] B H (upd B a o) H2 ∧ Wd p u (upd B a o) H2 := by
  obtain ⟨s, w2⟩ := w.ex x
  have nb : B a = none := ex_none w.e n
  obtain ⟨k1, k2⟩ := Stp.keep w2.e h nb
  have s3 : Stp [p] B H (upd B a o) H2 := ⟨k1, k2, fun b h1 h2 => by
    rw [upd_ne (fun z => by subst z; exact h2 n)]; exact h1, s.fr, s.al⟩
  exact ⟨s3, w.stp s3 (w2.P.of k1 rfl)⟩
theorem Wd.refl {p : Addr} {u : Int} {B H : Hp} (w : Wd p u B H) : Stp [p] B H B H := Stp.refl w.e
def GK {α : Type} (p : Addr) (k : Hp → (α → Hp → Prop) → Prop) (B : Hp) (R : α → Hp → Prop) : Prop :=
  ∀ (u : Int) B1 H1, Ex B B1 → Wd p u B1 H1 → ∀ Q : α → Hp → Prop, (∀ v B2 H2, Stp [p] B1 H1 B2 H2 → Wd p u B2 H2 → R v B2 → Q v H2) → k H1 Q
/-- an int from 0 on, below n -/
theorem base_pool {p : Addr} {H : Hp} {P : Pl} (h : PoolAt H p P) : ∃ B, Ex B H ∧ B p = none ∧ Pool p B H := by
  obtain ⟨h1, h2, h3⟩ := h
  have hne : P.at_ ≠ p := fun z => by
    rw [z, h1] at h2
    have := congrArg List.length (HO.lst.inj (Option.some.inj h2))
    have h4 := HO.lst.inj (Option.some.inj h2)
    cases hc : P.cells with
    | nil => rw [hc] at h4; cases h4
    | cons x r => rw [hc] at h4; cases h4
  refine ⟨fun b => if b = p then none else H b, fun b o hb => ?_, if_pos rfl, P, h1, ?_, h3⟩
  · by_cases z : b = p
    · simp [z] at hb
    · simpa [z] using hb
  · show (if P.at_ = p then none else H P.at_) = _
    rw [if_neg hne]
    exact h2
abbrev RI (n : Int) : V → Hp → Prop := fun v _ => ∃ r : Int, v = .int r ∧ 0 ≤ r ∧ r < n
section
variable {α β : Type} {p : Addr} {B B' H : Hp} {R R' : α → Hp → Prop} {k : Hp → (α → Hp → Prop) → Prop}
theorem GK.mono (e : Ex B B') (h : GK p k B R) : GK p k B' R := fun u B1 H1 x w Q q => h _ B1 H1 (e.trans x) w Q q
theorem GK.imp (h : GK p k B R) (f : ∀ v B1, Ex B B1 → R v B1 → R' v B1) : GK p k B R' := fun u B1 H1 x w Q q => h _ B1 H1 x w Q fun v B2 H2 s w2 r => q v B2 H2 s w2 (f v B2 (x.trans s.base) r)
theorem GK.go (h : GK p k B R) (w : Wd p u B H) {Q : α → Hp → Prop} (q : ∀ v B2 H2, Stp [p] B H B2 H2 → Wd p u B2 H2 → R v B2 → Q v H2) : k H Q := h _ B H (Ex.refl B) w Q q
theorem gk_pure {v : α} (h : ∀ B1, Ex B B1 → R v B1) : GK p (fun H Q => Q v H) B R := fun u B1 H1 x w Q q => q v B1 H1 w.refl w (h B1 x)
theorem gk_bind {k2 : α → Hp → (β → Hp → Prop) → Prop} {S : β → Hp → Prop} (h : GK p k B R) (g : ∀ v B1, Ex B B1 → R v B1 → GK p (k2 v) B1 S) : GK p (fun H Q => k H fun v H1 => k2 v H1 Q) B S := fun u B1 H1 x w Q q =>
  h _ B1 H1 x w _ fun v B2 H2 s w2 r => g v B2 (x.trans s.base) r _ B2 H2 (Ex.refl B2) w2 Q fun u B3 H3 s3 w3 z => q u B3 H3 (s.trans s3) w3 z
end
section
variable {p : Addr} {B : Hp} {σ : L2.St} {te ta tb : TE} {R R1 R2 : V → Hp → Prop} {v : V} {xs : List V} {i : Nat}
theorem gk_ev (h : Ev te σ B v) (r : ∀ B1, Ex B B1 → R v B1) : GK p (te σ) B R := fun u B1 H1 x w Q q => h H1 (x.trans w.e) Q fun H2 x2 => by
  obtain ⟨s, w2⟩ := w.ex x2
  exact q v B1 H2 s w2 (r B1 x)
theorem gk_val (h : Ev te σ B v) : GK p (te σ) B (fun w _ => w = v) := gk_ev h fun _ _ => rfl
theorem gk_var (h : σ[i]? = some (some v)) (r : ∀ B1, Ex B B1 → R v B1) : GK p (tVar i σ) B R := gk_ev (ev_var h) r
theorem gk_c (r : ∀ B1, Ex B B1 → R v B1) : GK p (tC v σ) B R := gk_ev ev_c r
/-- a new list, a new tuple that the reading leaves behind new things of its own -/
theorem gk_newL (r : ∀ B1 a, Ex B B1 → B1 a = some (.lst xs) → R (.ref a) B1) : GK p (fun H Q => ∀ l, H l = none → Q (.ref l) (upd H l (.lst xs))) B R := fun u B1 H1 x w Q q l nl => by
  obtain ⟨s, w2⟩ := w.new (o := .lst xs) nl
  exact q _ _ _ s w2 (r _ l (x.trans s.base) upd_same)
theorem gk_newT (r : ∀ B1 a, Ex B B1 → B1 a = some (.tup xs) → R (.ref a) B1) : GK p (fun H Q => ∀ l, H l = none → Q (.ref l) (upd H l (.tup xs))) B R := fun u B1 H1 x w Q q l nl => by
  obtain ⟨s, w2⟩ := w.new (o := .tup xs) nl
  exact q _ _ _ s w2 (r _ l (x.trans s.base) upd_same)
/-- what holds of the heap beside goes into the base: an object that was found new -/
theorem gk_evL (h : EvL te σ B xs) (r : ∀ B1 a, Ex B B1 → B1 a = some (.lst xs) → R (.ref a) B1) : GK p (te σ) B R := fun u B1 H1 x w Q q => h H1 (x.trans w.e) Q fun a H2 na x2 ha => by
  obtain ⟨s, w2⟩ := w.ex x2
  have nb : B1 a = none := ex_none w.e na
  obtain ⟨k1, k2⟩ := Stp.keep w2.e ha nb
  have s3 : Stp [p] B1 H1 (upd B1 a (.lst xs)) H2 := ⟨k1, k2, fun b h1 h2 => by
    rw [upd_ne (fun z => by subst z; exact h2 na)]; exact h1, s.fr, s.al⟩
  exact q _ _ H2 s3 (w.stp s3 (w2.P.of k1 rfl)) (r _ a (x.trans k1) upd_same)
theorem gk_evU (h : EvU te σ B xs) (r : ∀ B1 a, Ex B B1 → B1 a = some (.tup xs) → R (.ref a) B1) : GK p (te σ) B R := fun u B1 H1 x w Q q => h H1 (x.trans w.e) Q fun a H2 na x2 ha => by
  obtain ⟨s, w2⟩ := w.ex x2
  have nb : B1 a = none := ex_none w.e na
  obtain ⟨k1, k2⟩ := Stp.keep w2.e ha nb
  have s3 : Stp [p] B1 H1 (upd B1 a (.tup xs)) H2 := ⟨k1, k2, fun b h1 h2 => by
    rw [upd_ne (fun z => by subst z; exact h2 na)]; exact h1, s.fr, s.al⟩
  exact q _ _ H2 s3 (w.stp s3 (w2.P.of k1 rfl)) (r _ a (x.trans k1) upd_same)
theorem gk_op {r : L2.R2} (h1 : GK p (ta σ) B R1) (h2 : ∀ x B1, Ex B B1 → R1 x B1 → GK p (tb σ) B1 (fun y B2 => GK p (r x y) B2 R)) : GK p (tOp r ta tb σ) B R :=
  gk_bind (k2 := fun x H Q => tb σ H fun y H2 => r x y H2 Q) h1 fun x B1 e1 r1 => gk_bind (k2 := fun y => r x y) (h2 x B1 e1 r1) fun _ _ _ z => z
theorem gk_rv {r : L2.R2} {x y z : V} (h : RV r x y B z) (k : ∀ B1, Ex B B1 → R z B1) : GK p (r x y) B R := fun u B1 H1 e w Q q => h H1 (e.trans w.e) Q fun H2 x2 => by
  obtain ⟨s, w2⟩ := w.ex x2
  exact q z B1 H2 s w2 (k B1 e)
theorem gk_nil {R : List V → Hp → Prop} (h : ∀ B1, Ex B B1 → R [] B1) : GK p (tNil σ) B R := gk_pure h
theorem gk_cons {ta : TE} {tr : TA} {R : List V → Hp → Prop} (h1 : GK p (ta σ) B R1) (h2 : ∀ x B1, Ex B B1 → R1 x B1 → GK p (tr σ) B1 (fun vs B2 => R (x :: vs) B2)) : GK p (tCons ta tr σ) B R :=
  fun u B1 H1 e w Q q => h1 _ B1 H1 e w _ fun x B2 H2 s2 w2 r1 => h2 x B2 (e.trans s2.base) r1 _ B2 H2 (Ex.refl _) w2 _ fun vs B3 H3 s3 w3 r => q _ B3 H3 (s2.trans s3) w3 r
theorem gk_c1 {tr : TA} {R : List V → Hp → Prop} (h1 : Ev ta σ B v) (h2 : GK p (tr σ) B (fun vs B2 => R (v :: vs) B2)) : GK p (tCons ta tr σ) B R :=
  gk_cons (gk_val h1) fun x B1 e1 r1 => by subst r1; exact h2.mono e1
/-- a call of a def -/
theorem gk_fn {t : TA} {sp : Sp} {E : XK} {S : List V → Hp → Prop} (h : GK p (t σ) B S) (g : ∀ vs B1, Ex B B1 → S vs B1 → GK p (fun H Q => sp vs H Q E) B1 R) : GK p ((fun σ H Q => t σ H fun vs H1 => sp vs H1 Q E) σ) B R := gk_bind (k2 := fun vs H Q => sp vs H Q E) h g
theorem gk_cb {t : TA} {r : List V → Hp → VK → Prop} {S : List V → Hp → Prop} (h : GK p (t σ) B S) (g : ∀ vs B1, Ex B B1 → S vs B1 → GK p (r vs) B1 R) : GK p (tCB r t σ) B R := gk_bind (k2 := r) h g
theorem gk_tup {t : TA} {S : List V → Hp → Prop} (h : GK p (t σ) B S) (g : ∀ vs B1, Ex B B1 → S vs B1 → vs.length ≤ 100000 ∧ ∀ B2 a, Ex B1 B2 → B2 a = some (.tup vs) → R (.ref a) B2) : GK p (tTup t σ) B R :=
  gk_bind (β := V) (k2 := fun (xs : List V) H Q => xs.length ≤ sizeLine ∧ ∀ a, H a = none → Q (.ref a) (upd H a (.tup xs))) h fun vs B1 e1 r1 u B2 H2 e2 w2 Q q => ⟨Evl.sz_of (g vs B1 e1 r1).1, gk_newT (fun B3 a e3 ha => (g vs B1 e1 r1).2 B3 a (e2.trans e3) ha) _ B2 H2 (Ex.refl _) w2 Q q⟩
theorem gk_lst {t : TA} {S : List V → Hp → Prop} (h : GK p (t σ) B S) (g : ∀ vs B1, Ex B B1 → S vs B1 → vs.length ≤ 100000 ∧ ∀ B2 a, Ex B1 B2 → B2 a = some (.lst vs) → R (.ref a) B2) : GK p (tLst t σ) B R :=
  gk_bind (β := V) (k2 := fun (xs : List V) H Q => xs.length ≤ sizeLine ∧ ∀ a, H a = none → Q (.ref a) (upd H a (.lst xs))) h fun vs B1 e1 r1 u B2 H2 e2 w2 Q q => ⟨Evl.sz_of (g vs B1 e1 r1).1, gk_newL (fun B3 a e3 ha => (g vs B1 e1 r1).2 B3 a (e2.trans e3) ha) _ B2 H2 (Ex.refl _) w2 Q q⟩
/-- a draw -/
theorem gk_drawn {n : Int} {E : XK} (h0 : 0 < n) (h1 : n < 1073741824) : GK p (fun H Q => spDraw [.ref p, .int n] H Q E) B (RI n) := fun u B1 H1 e w Q q =>
  draw_n (m := n) w.e w.b w.P h0 h1 fun r H2 c0 c1 s P => q (.int r) B1 H2 s (w.stp s P) ⟨r, rfl, c0, c1⟩
theorem gk_draw {tn : TE} {n : Int} {E : XK} (hs : σ[i]? = some (some (.ref p))) (hn : Ev tn σ B (.int n)) (h0 : 0 < n) (h1 : n < 1073741824) : GK p ((fun σ H Q => tCons (tVar i) (tCons tn tNil) σ H fun vs H1 => spDraw vs H1 Q E) σ) B (RI n) :=
  gk_fn (S := fun vs _ => vs = [.ref p, .int n]) (gk_c1 (ev_var hs) (gk_c1 hn (gk_nil fun _ _ => rfl))) fun vs B1 e1 r1 => by subst r1; exact gk_drawn h0 h1
/-- a draw below a number that is itself found on the way -/
theorem gk_draw' {tn : TE} {P : Int → Prop} {E : XK} (hs : σ[i]? = some (some (.ref p))) (hn : GK p (tn σ) B (fun v _ => ∃ n, v = .int n ∧ P n)) (h01 : ∀ n, P n → 0 < n ∧ n < 1073741824) : GK p ((fun σ H Q => tCons (tVar i) (tCons tn tNil) σ H fun vs H1 => spDraw vs H1 Q E) σ) B (fun v _ => ∃ r n : Int, v = .int r ∧ P n ∧ 0 ≤ r ∧ r < n) :=
  gk_fn (S := fun vs _ => ∃ n, vs = [.ref p, .int n] ∧ P n) (gk_c1 (ev_var hs) (gk_cons hn fun x B1 e1 ⟨n, ex, hp⟩ => gk_nil fun _ _ => ⟨n, by rw [ex], hp⟩)) fun vs B1 e1 ⟨n, ev, hp⟩ => by
    subst ev
    exact (gk_drawn (h01 n hp).1 (h01 n hp).2).imp fun v B2 _ ⟨r, h1, h2, h3⟩ => ⟨r, n, h1, hp, h2, h3⟩
/-! tests -/
theorem gk_test {R : Bool → Hp → Prop} (h : GK p (te σ) B (fun v B1 => ∃ b, v = .bl b ∧ R b B1)) : GK p (tTest te σ) B R := fun u B1 H1 e w Q q => h _ B1 H1 e w _ fun v B2 H2 s w2 ⟨b, hv, r⟩ => ⟨b, hv, q b B2 H2 s w2 r⟩
theorem gk_tv {tt : TT} {b : Bool} {R : Bool → Hp → Prop} (h : EvT tt σ B b) (r : ∀ B1, Ex B B1 → R b B1) : GK p (tt σ) B R := fun u B1 H1 x w Q q => h H1 (x.trans w.e) Q fun H2 x2 => by
  obtain ⟨s, w2⟩ := w.ex x2
  exact q b B1 H2 s w2 (r B1 x)
/-! statements -/
variable {D : Ends} {tu tw tz : TS} {H : Hp}
theorem gs_asg (w : Wd p u B H) (h : GK p (te σ) B R) (k : ∀ v B2 H2, Stp [p] B H B2 H2 → Wd p u B2 H2 → R v B2 → D.nx (σ.set i (some v)) H2) : tAsg te (gName i) D σ H := h.go w k
theorem gq_asg (w : Wd p u B H) (h : GK p (te σ) B R) (k : ∀ v B2 H2, Stp [p] B H B2 H2 → Wd p u B2 H2 → R v B2 → tz D (σ.set i (some v)) H2) : tSeq (tAsg te (gName i)) tz D σ H := h.go w k
theorem gs_ret (w : Wd p u B H) (h : GK p (te σ) B R) (k : ∀ v B2 H2, Stp [p] B H B2 H2 → Wd p u B2 H2 → R v B2 → D.rt v H2) : tRet te D σ H := h.go w k
theorem gs_if {tt : TT} {R : Bool → Hp → Prop} (w : Wd p u B H) (h : GK p (tt σ) B R) (h1 : ∀ B2 H2, Stp [p] B H B2 H2 → Wd p u B2 H2 → R true B2 → tu D σ H2) (h2 : ∀ B2 H2, Stp [p] B H B2 H2 → Wd p u B2 H2 → R false B2 → tw D σ H2) : tIfS tt tu tw D σ H :=
  h.go w fun b B2 H2 s w2 r => by
    cases b with
    | true => exact h1 B2 H2 s w2 r
    | false => exact h2 B2 H2 s w2 r
theorem gq_if {tt : TT} {R : Bool → Hp → Prop} (w : Wd p u B H) (h : GK p (tt σ) B R) (h1 : ∀ B2 H2, Stp [p] B H B2 H2 → Wd p u B2 H2 → R true B2 → tu { D with nx := tz D } σ H2) (h2 : ∀ B2 H2, Stp [p] B H B2 H2 → Wd p u B2 H2 → R false B2 → tw { D with nx := tz D } σ H2) : tSeq (tIfS tt tu tw) tz D σ H := gs_if (D := { D with nx := tz D }) w h h1 h2
/-- an if without else -/
theorem gs_when {tt : TT} {R : Bool → Hp → Prop} (w : Wd p u B H) (h : GK p (tt σ) B R) (h1 : ∀ B2 H2, Stp [p] B H B2 H2 → Wd p u B2 H2 → R true B2 → tu D σ H2) (h2 : ∀ B2 H2, Stp [p] B H B2 H2 → Wd p u B2 H2 → R false B2 → D.nx σ H2) : tIfS tt tu tNext D σ H := gs_if w h h1 h2
theorem gq_when {tt : TT} {R : Bool → Hp → Prop} (w : Wd p u B H) (h : GK p (tt σ) B R) (h1 : ∀ B2 H2, Stp [p] B H B2 H2 → Wd p u B2 H2 → R true B2 → tu { D with nx := tz D } σ H2) (h2 : ∀ B2 H2, Stp [p] B H B2 H2 → Wd p u B2 H2 → R false B2 → tz D σ H2) : tSeq (tIfS tt tu tNext) tz D σ H := gs_if (D := { D with nx := tz D }) w h h1 h2
/-- for x in range(n), n found on the way -/
theorem gs_forR {ta : TA} {Rn : Int → Prop} {j : Nat} (w : Wd p u B H) (h : GK p (ta σ) B (fun vs _ => ∃ n : Int, vs = [.int n] ∧ Rn n)) (hn : ∀ n, Rn n → 0 ≤ n ∧ n ≤ 100000) (Pv : Int → Nat → L2.St → Hp → Prop)
    (h0 : ∀ n B2 H2, Stp [p] B H B2 H2 → Wd p u B2 H2 → Rn n → Pv n 0 σ H2)
    (hs : ∀ (n : Int) (i : Nat) σ' H', Rn n → (i : Int) < n → Pv n i σ' H' → tu { D with nx := Pv n (i + 1), ct := Pv n (i + 1), bk := D.nx } (σ'.set j (some (.int (i : Int)))) H') (hd : ∀ n σ' H', Rn n → Pv n n.toNat σ' H' → D.nx σ' H') : tFor (iRng1 ta) (gName j) tu D σ H :=
  h.go w fun vs B2 H2 s w2 ⟨n, ev, rn⟩ => by
    have hb := hn n rn
    refine ⟨n, ev, by omega, by omega, for_range (lo := 0) (n := n.toNat) (Pv n) (h0 n B2 H2 s w2 rn) (fun i σ' H' hi q => ?_) (fun σ' H' q => hd n σ' H' rn q)⟩
    have e0 : (0 : Int) + (i : Int) = (i : Int) := Int.zero_add _
    show tu { D with nx := Pv n (i + 1), ct := Pv n (i + 1), bk := D.nx } (σ'.set j (some (.int ((0 : Int) + (i : Int))))) H'
    rw [e0]
    exact hs n i σ' H' rn (by omega) q
theorem gq_forR {ta : TA} {Rn : Int → Prop} {j : Nat} (w : Wd p u B H) (h : GK p (ta σ) B (fun vs _ => ∃ n : Int, vs = [.int n] ∧ Rn n)) (hn : ∀ n, Rn n → 0 ≤ n ∧ n ≤ 100000) (Pv : Int → Nat → L2.St → Hp → Prop)
    (h0 : ∀ n B2 H2, Stp [p] B H B2 H2 → Wd p u B2 H2 → Rn n → Pv n 0 σ H2)
    (hs : ∀ (n : Int) (i : Nat) σ' H', Rn n → (i : Int) < n → Pv n i σ' H' → tu { D with nx := Pv n (i + 1), ct := Pv n (i + 1), bk := tz D } (σ'.set j (some (.int (i : Int)))) H') (hd : ∀ n σ' H', Rn n → Pv n n.toNat σ' H' → tz D σ' H') : tSeq (tFor (iRng1 ta) (gName j) tu) tz D σ H :=
  gs_forR (D := { D with nx := tz D }) w h hn Pv h0 hs hd
/-- [e for x in range(n)], e reads beside the pool -/
theorem gk_lcR {ta : TA} {Rn : Int → Prop} {Re : Nat → V → Hp → Prop} {j : Nat} {ws : List Nat} (h : GK p (ta σ) B (fun vs _ => ∃ n : Int, vs = [.int n] ∧ Rn n)) (hn : ∀ n, Rn n → 0 ≤ n ∧ n ≤ 40000) (hw : ∀ x, wipe ((wipe σ ws).set j (some x)) ws = wipe σ ws)
    (hm : ∀ i v B1 B2, Ex B1 B2 → Re i v B1 → Re i v B2) (he : ∀ (n : Int) (i : Nat) B1, Rn n → (i : Int) < n → Ex B B1 → GK p (te ((wipe σ ws).set j (some (.int (i : Int))))) B1 (Re i))
    (r : ∀ n B1 a vs, Ex B B1 → Rn n → vs.length = n.toNat → B1 a = some (.lst vs) → (∀ i v, vs[i]? = some v → Re i v B1) → R (.ref a) B1) : GK p (tLc (iRng1 ta) (gName j) tYes te ws σ) B R := fun u B1 H1 e1 w1 Q q =>
  h _ B1 H1 e1 w1 _ fun vs B2 H2 s2 w2 ⟨n, ev, rn⟩ => by
    have hb := hn n rn
    have hbig : (100000 : Nat) ≤ sizeLine := by decide
    refine ⟨n, ev, by omega, by omega, fun L nL => ?_⟩
    have nLp : L ≠ p := w2.P.ne nL
    refine lc_range (lo := 0) (n := n.toNat) (fun i H' => ∃ B' vs, Stp [L, p] B2 (upd H2 L (.lst [])) B' H' ∧ Wd p u B' H' ∧ H' L = some (.lst vs) ∧ B' L = none ∧ vs.length = i ∧ ∀ j v, vs[j]? = some v → Re j v B') ⟨B2, [], Stp.refl (w2.cell nL).e, w2.cell nL, upd_same, ex_none w2.e nL, rfl, fun _ _ h => by cases h⟩ (fun i H' hi z => ?_) (fun H' z => ?_)
    · obtain ⟨B', vs, st, w', hL, hBL, hlen, hre⟩ := z
      have e0 : (0 : Int) + (i : Int) = (i : Int) := Int.zero_add _
      show wipe ((wipe σ ws).set j (some (.int ((0 : Int) + (i : Int))))) ws = wipe σ ws ∧ tYes ((wipe σ ws).set j (some (.int ((0 : Int) + (i : Int))))) H' fun b H3 => if b = true then te ((wipe σ ws).set j (some (.int ((0 : Int) + (i : Int))))) H3 fun y H4 => ∃ acc, H4 L = some (.lst acc) ∧ acc.length < sizeLine ∧ _ else _
      rw [e0]
      refine ⟨hw _, yes_if ?_⟩
      refine he n i B' rn (by omega) ((e1.trans s2.base).trans st.base) _ B' H' (Ex.refl _) w' _ fun v B3 H3 s3 w3 rv => ?_
      have hL3 := s3.fr L _ (by simpa using nLp) hL
      have hB3 := s3.off hBL hL
      have st3 : Stp [L, p] B2 (upd H2 L (.lst [])) B3 H3 := st.trans (s3.wk fun x hx => .tail _ hx)
      refine ⟨vs, hL3, by omega, B3, vs ++ [v], st3.trans (Stp.put w3.e hB3 (.head _)), w3.put hB3 nLp, upd_same, hB3, by rw [List.length_append, List.length_singleton, hlen], fun k u hk => ?_⟩
      by_cases c : k < vs.length
      · rw [List.getElem?_append_left c] at hk
        exact hm k u B' B3 s3.base (hre k u hk)
      · rw [List.getElem?_append_right (by omega)] at hk
        have : k - vs.length = 0 := by
          cases hz : k - vs.length with
          | zero => rfl
          | succ m => rw [hz] at hk; cases hk
        rw [this] at hk
        cases hk
        rw [show k = i by omega]
        exact rv
    · obtain ⟨B', vs, st, w', hL, hBL, hlen, hre⟩ := z
      have cl := Stp.close w2.e nL st hL
      have w3 : Wd p u (upd B' L (.lst vs)) H' := w2.stp cl (w'.P.of (Ex.new hBL) rfl)
      exact q _ _ H' (s2.trans cl) w3 (r n _ L vs (e1.trans (s2.base.trans cl.base)) rn hlen upd_same fun i v hv => hm i v _ _ (Ex.new hBL) (hre i v hv))
end
end LL
namespace LL
open PySem PySem.Spec PyProof.Rows L2 He Evl ND
/-! ### drawn expressions -/
def SGN : List Str := ["+", "-", "*", "/", "mod", "<", "="]
def IsX (ns : List Str) (n : Nat) (d : PyData) : Prop := ∃ e, d = exD e ∧ wfE ns e ∧ dpE e ≤ n
section
variable {w : World} {K : PySem.W.Frag} {mg : Str → Option Value} {base : Heap}
/-- a number below n, drawn -/
def spNum (n : Int) : Sp := fun vs H Q _ => ∃ (B : Hp) (p : Addr) (u : Int), vs = [.ref p] ∧ Ex B H ∧ B p = none ∧ PoolN u p B H ∧ ∀ (r : Int) (H2 : Hp), 0 ≤ r → r < n → Stp [p] B H B H2 → PoolN u p B H2 → Q (.int r) H2
theorem fn_l_number (T : Txt K mg) : Fn P w K mg base 2 (ga K "_law_number") (spNum 65536) := by
  refine fn_def T.d_l_number sc_l_number (fun _ _ _ _ _ _ us hl => match us, hl with | [_], _ => rfl) (fun vs H Q E h => ?_) (fun cdv A outer s H vs Q E hr h => ?_)
  · obtain ⟨B, p, u, rfl, _⟩ := h
    rfl
  · obtain ⟨B, p, u, rfl, e, hb, hP, k⟩ := h
    have nd := sc_l_number.nd
    refine ⟨_, pss_cons (ps_if (pt_cmpR op_eq (pe_fn T.d_l_draw (fn_l_draw T) (hr.mono (by decide)) T.g_l_draw pc (pa_cons (pv 0) (pa_cons (pe_int) pa_nil))) (pe_int) (nomark _)) (pss_one (ps_ret (pe_fn T.d_l_draw (fn_l_draw T) (hr.mono (by decide)) T.g_l_draw pc (pa_cons (pv 0) (pa_cons (pe_int) pa_nil))))) (pss_nil))
      (pss_one (ps_ret (pe_fn T.d_l_draw (fn_l_draw T) (hr.mono (by decide)) T.g_l_draw pc (pa_cons (pv 0) (pa_cons (pe_int) pa_nil))))), ?_⟩
    refine ⟨_, rfl, ?_⟩
    dsimp only [tCons, tNil, tC]
    refine draw_n e hb hP (by decide) (by decide) fun r H2 a0 a1 st hP2 => ?_
    refine ⟨rfl, _, rfl, ite2 (fun c => ?_) fun c => ?_⟩
    · refine ⟨_, rfl, ?_⟩
      dsimp only [tCons, tNil, tC]
      exact draw_n st.in_ hb hP2 (by decide) (by decide) fun r H3 b0 b1 st2 hP3 => k r H3 b0 b1 (st.trans st2) hP3
    · refine ⟨_, rfl, ?_⟩
      dsimp only [tCons, tNil, tC]
      exact draw_n st.in_ hb hP2 (by decide) (by decide) fun r H3 b0 b1 st2 hP3 => k r H3 b0 (by omega) (st.trans st2) hP3
def spValue (K : PySem.W.Frag) (n : Nat) : Sp := fun vs H Q _ => ∃ (B : Hp) (p : Addr) (x : V) (ns : List Str) (u : Int), vs = [.ref p, x, .int (n : Int)] ∧ Ex B H ∧ B p = none ∧ PoolN u p B H ∧ Dp K B x (.list (ns.map PyData.str)) ∧ ns.length ≤ 63 ∧
  ∀ (v : V) (B2 H2 : Hp) (d : PyData), Stp [p] B H B2 H2 → PoolN u p B2 H2 → Dp K B2 v d → IsX ns (n + 1) d → Q v H2
def spValueP (K : PySem.W.Frag) : Nat → Sp
  | 0 => fun _ _ _ _ => False
  | n + 1 => spValue K n
theorem dp_strs {H : Hp} : ∀ {ns : List Str} {vs : List V}, DpAll K H vs (ns.map PyData.str) → vs = ns.map V.str
  | [], _, h => by cases h; rfl
  | n :: ns, _, h => by
    cases h with
    | cons h1 h2 =>
      cases h1
      rw [dp_strs h2]
      rfl
theorem dpa_strs {H : Hp} : ∀ (ns : List Str), DpAll K H (ns.map V.str) (ns.map PyData.str)
  | [] => .nil
  | a :: r => .cons (.str a) (dpa_strs r)
theorem dp_list {H : Hp} {v : V} {ds : List PyData} (h : Dp K H v (.list ds)) : ∃ a vs, v = .ref a ∧ SqL K H a vs ∧ DpAll K H vs ds := by
  cases h with
  | lst h1 h2 => exact ⟨_, _, rfl, h1, h2⟩
theorem dp_tup {H : Hp} {v : V} {ds : List PyData} (h : Dp K H v (.tuple ds)) : ∃ a vs, v = .ref a ∧ SqT K H a vs ∧ DpAll K H vs ds := by
  cases h with
  | tup h1 h2 => exact ⟨_, _, rfl, h1, h2⟩
theorem at_get {α : Type} {xs : List α} {r : Int} (h0 : 0 ≤ r) (h1 : r < xs.length) : ∃ x, atI xs r = some x ∧ x ∈ xs ∧ xs[r.toNat]? = some x := by
  obtain ⟨j, rfl⟩ : ∃ j : Nat, r = j := ⟨r.toNat, by omega⟩
  have hj : j < xs.length := by omega
  exact ⟨xs[j], by unfold atI; rw [ixN_nat hj]; simp [hj], List.getElem_mem hj, by simp [hj]⟩
theorem fn_l_value (T : Txt K mg) : ∀ n, Fn P w K mg base (n + 3) (ga K "_law_value") (spValue K n) := by
  have go : ∀ n, Fn P w K mg base (n + 2) (ga K "_law_value") (spValueP K n) → Fn P w K mg base (n + 3) (ga K "_law_value") (spValue K n) := by
    intro n IH
    refine fn_def T.d_l_value sc_l_value (fun _ _ _ _ _ _ us hl => match us, hl with | [_, _, _], _ => rfl) (fun vs H Q E h => ?_) (fun cdv A outer s H vs Q E hr h => ?_)
    · obtain ⟨B, p, x, ns, u, rfl, _⟩ := h
      rfl
    · obtain ⟨B, p, x, ns, u, rfl, e, hb, hP, hx, hl, k⟩ := h
      have nd := sc_l_value.nd
      obtain ⟨a, vs, rfl, sx, dx⟩ := dp_list hx
      have ev := dp_strs dx
      subst ev
      have hr1 : Room 1 _ := hr.mono (by omega)
      have hr2 : Room 2 _ := hr.mono (by omega)
      refine ⟨_, pss_cons (ps_set (i := 3) nd rfl (by first | exact Or.inl rfl | exact Or.inr rfl) (pe_fn T.d_l_draw (fn_l_draw T) hr1 T.g_l_draw pc (pa_cons (pv 0) (pa_cons (pe_int) pa_nil))))
      (Evl.pss_cut (ps_if (PW.pt (pw_and (pt_cmpR op_lt (pv 3) (pe_int) (nomark _)) (pw_and1 (pt_cmpR op_gt (pv 2) (pe_int) (nomark _))))) (pss_cons (ps_set (i := 4) nd rfl (by first | exact Or.inl rfl | exact Or.inr rfl) (pe_ix ix_tup (pe_tup (pa_cons (pe_str) (pa_cons (pe_str) (pa_cons (pe_str) (pa_cons (pe_str) (pa_cons (pe_str) (pa_cons (pe_str) (pa_cons (pe_str) pa_nil)))))))) (pe_fn T.d_l_draw (fn_l_draw T) hr1 T.g_l_draw pc (pa_cons (pv 0) (pa_cons (pe_int) pa_nil))) (fun _ _ => rfl)))
      (pss_cons (ps_set (i := 5) nd rfl (by first | exact Or.inl rfl | exact Or.inr rfl) (pe_fn T.d_l_value IH hr T.g_l_value pc (pa_cons (pv 0) (pa_cons (pv 1) (pa_cons (pe_op op_sub (pv 2) (pe_int)) pa_nil)))))
      (pss_one (ps_ret (pe_tup (pa_cons (pv 4) (pa_cons (pv 5) (pa_cons (pe_fn T.d_l_value IH hr T.g_l_value pc (pa_cons (pv 0) (pa_cons (pv 1) (pa_cons (pe_op op_sub (pv 2) (pe_int)) pa_nil)))) pa_nil)))))))) (pss_nil))
      (Evl.pss_cut (ps_if (PW.pt (pw_and (pt_cmpR op_lt (pv 3) (pe_int) (nomark _)) (pw_and1 (pt_cmpR op_gt (pe_callB call_len_seq (by rfl) T.f_len PySem.boot_len (pa_cons (pv 1) pa_nil)) (pe_int) (nomark _))))) (pss_one (ps_ret (pe_tup (pa_cons (pe_str) (pa_cons (pe_ix ix_list (pv 1) (pe_fn T.d_l_draw (fn_l_draw T) hr1 T.g_l_draw pc (pa_cons (pv 0) (pa_cons (pe_callB call_len_seq (by rfl) T.f_len PySem.boot_len (pa_cons (pv 1) pa_nil)) pa_nil))) (fun _ _ => rfl)) pa_nil))))) (pss_nil))
      (pss_one (ps_ret (pe_tup (pa_cons (pe_str) (pa_cons (pe_ix ix_tup (pe_tup (pa_cons (pe_fn T.d_l_draw (fn_l_draw T) hr1 T.g_l_draw pc (pa_cons (pv 0) (pa_cons (pe_int) pa_nil))) (pa_cons (pe_fn T.d_l_draw (fn_l_draw T) hr1 T.g_l_draw pc (pa_cons (pv 0) (pa_cons (pe_int) pa_nil))) (pa_cons (pe_fn T.d_l_number (fn_l_number T) hr2 T.g_l_number pc (pa_cons (pv 0) pa_nil)) pa_nil)))) (pe_fn T.d_l_draw (fn_l_draw T) hr1 T.g_l_draw pc (pa_cons (pv 0) (pa_cons (pe_int) pa_nil))) (fun _ _ => rfl)) pa_nil))))))), ?_⟩
      have hx7 : (7 : Nat) ≤ sizeLine := by decide
      refine ⟨_, rfl, ?_⟩
      dsimp only [tCons, tNil, tC]
      refine draw_n e hb hP (by decide) (by decide) fun r1 H1 a0 a1 s1 hP1 => ?_
      refine ⟨fun σ H' => σ = [some (.ref p), some (.ref a), some (.int (n : Int)), some (.int r1), none, none] ∧ H1 = H', ?_, ?_⟩
      · refine ⟨_, rfl, _, _, rfl, rfl, _, rfl, ite2 (fun c1 => ?_) fun c1 => iteF ⟨rfl, rfl⟩⟩
        refine ⟨_, rfl, _, _, rfl, rfl, _, rfl, ite2 (fun c2 => ?_) fun c2 => ⟨rfl, rfl⟩⟩
        obtain ⟨m, rfl⟩ : ∃ m, n = m + 1 := ⟨n - 1, by have := of_decide_eq_true c2; omega⟩
        refine ⟨hx7, fun t nt => ?_⟩
        have s2 := s1.trans (Stp.cell (p := t) (o := .tup [.str "+", .str "-", .str "*", .str "/", .str "mod", .str "<", .str "="]) s1.in_ nt)
        have hP2 := PoolN.n1 (o := .tup [.str "+", .str "-", .str "*", .str "/", .str "mod", .str "<", .str "="]) hP1 nt
        refine ⟨_, rfl, ?_⟩
        dsimp only [tCons, tNil, tC]
        refine draw_n s2.in_ hb hP2 (by decide) (by decide) fun r2 H3 b0 b1 s3 hP3 => ?_
        have htp : t ≠ p := fun z => by subst z; obtain ⟨o, ho⟩ := hP1.at; rw [nt] at ho; cases ho
        obtain ⟨y, ey, my, _⟩ := at_get (xs := [V.str "+", V.str "-", V.str "*", V.str "/", V.str "mod", V.str "<", V.str "="]) b0 b1
        obtain ⟨sg, rfl, hsg⟩ : ∃ sg, y = V.str sg ∧ sg ∈ SGN := by
          simp only [List.mem_cons, List.not_mem_nil, or_false] at my
          rcases my with rfl | rfl | rfl | rfl | rfl | rfl | rfl <;> exact ⟨_, rfl, by simp [SGN]⟩
        refine ⟨t, _, _, _, rfl, rfl, st_of (s3.fr t _ (by simpa using htp) upd_same), ey, ?_⟩
        have s4 := s2.trans s3
        refine ⟨_, rfl, _, rfl, _, rfl, _, _, rfl, rfl, ?_⟩
        have en : ((m + 1 : Nat) : Int) - 1 = (m : Int) := by omega
        refine ⟨B, p, .ref a, ns, u, by show [V.ref p, V.ref a, V.int (((m + 1 : Nat) : Int) - 1)] = _; rw [en], s4.in_, hb, hP3, hx, hl, fun v1 B5 H5 d1 s5 hP5 dv1 ⟨x1, hx1, wx1, dx1⟩ => ?_⟩
        have s6 := s4.trans s5
        refine ⟨_, rfl, _, rfl, _, rfl, _, rfl, _, rfl, _, _, rfl, rfl, ?_⟩
        have hb5 := s5.off hb hP3.at.choose_spec
        refine ⟨B5, p, .ref a, ns, u, by show [V.ref p, V.ref a, V.int (((m + 1 : Nat) : Int) - 1)] = _; rw [en], s6.in_, hb5, hP5, dp_mono s6.base hx, hl, fun v2 B7 H7 d2 s7 hP7 dv2 ⟨x2, hx2, wx2, dx2⟩ => ?_⟩
        have s8 := s6.trans s7
        refine ⟨(by show 3 ≤ sizeLine; decide), fun u nu => ?_⟩
        have s9 := Stp.new (ms := [p]) (o := .tup [.str sg, v1, v2]) s8.in_ nu
        exact k _ _ _ _ (s8.trans s9) (PoolN.n2 hP7 s8.in_ nu) (.tup (st_of upd_same) (.cons (.str _) (.cons (dp_mono (s7.base.trans s9.base) dv1) (.cons (dp_mono s9.base dv2) .nil)))) ⟨.op sg x1 x2, by rw [exD, ← hx1, ← hx2], ⟨hsg, wx1, wx2⟩, by rw [dpE_op]; omega⟩
      rintro σ H' ⟨rfl, rfl⟩
      refine ⟨fun σ H' => σ = [some (.ref p), some (.ref a), some (.int (n : Int)), some (.int r1), none, none] ∧ H1 = H', ?_, ?_⟩
      · refine ⟨_, rfl, _, _, rfl, rfl, _, rfl, ite2 (fun c1 => ?_) fun c1 => iteF ⟨rfl, rfl⟩⟩
        have sx1 := ex_l s1.in_ sx
        refine ⟨_, rfl, a, _, rfl, .inl sx1, _, _, rfl, rfl, _, rfl, ite2 (fun c2 => ?_) fun c2 => ⟨rfl, rfl⟩⟩
        have hl0 : 0 < ns.length := by
          have := of_decide_eq_true c2
          rw [List.length_map] at this
          omega
        refine ⟨_, rfl, _, rfl, _, rfl, a, _, rfl, .inl sx1, ?_⟩
        dsimp only [tCons, tNil, tC]
        refine draw_n s1.in_ hb hP1 (by rw [List.length_map]; omega) (by rw [List.length_map]; omega) fun r2 H3 b0 b1 s3 hP3 => ?_
        obtain ⟨y, ey, my, _⟩ := at_get (xs := ns.map V.str) b0 b1
        obtain ⟨z, hz, rfl⟩ := List.mem_map.mp my
        have s4 := s1.trans s3
        refine ⟨a, _, _, _, rfl, rfl, ex_l s4.in_ sx, ey, (by show 2 ≤ sizeLine; decide), fun u nu => ?_⟩
        have s9 := Stp.new (ms := [p]) (o := .tup [.str "variable", .str z]) s4.in_ nu
        exact k _ _ _ _ (s4.trans s9) (PoolN.n2 hP3 s4.in_ nu) (.tup (st_of upd_same) (.cons (.str _) (.cons (.str _) .nil))) ⟨.var z, rfl, hz, (by show 1 ≤ n + 1; omega)⟩
      rintro σ H' ⟨rfl, rfl⟩
      refine ⟨_, rfl, ?_⟩
      dsimp only [tCons, tNil, tC]
      refine draw_n s1.in_ hb hP1 (by decide) (by decide) fun r2 H2 b0 b1 s2 hP2 => ?_
      have s12 := s1.trans s2
      refine ⟨_, rfl, ?_⟩
      dsimp only [tCons, tNil, tC]
      refine draw_n s12.in_ hb hP2 (by decide) (by decide) fun r3 H3 c0 c1 s3 hP3 => ?_
      have s13 := s12.trans s3
      refine ⟨_, rfl, B, p, u, rfl, s13.in_, hb, hP3, fun r4 H4 d0 d1 s4 hP4 => ?_⟩
      have s14 := s13.trans s4
      refine ⟨(by show 3 ≤ sizeLine; decide), fun t nt => ?_⟩
      have s15 := s14.trans (Stp.cell (p := t) (o := .tup [.int r2, .int r3, .int r4]) s14.in_ nt)
      have hP5 := PoolN.n1 (o := .tup [.int r2, .int r3, .int r4]) hP4 nt
      have htp : t ≠ p := fun z => by subst z; obtain ⟨o, ho⟩ := hP4.at; rw [nt] at ho; cases ho
      refine ⟨_, rfl, ?_⟩
      dsimp only [tCons, tNil, tC]
      refine draw_n s15.in_ hb hP5 (by decide) (by decide) fun r5 H5 f0 f1 s5 hP6 => ?_
      have s16 := s15.trans s5
      obtain ⟨y, ey, my⟩ := at3 (a := .int r2) (b := .int r3) (c := .int r4) f0 f1
      obtain ⟨i, rfl, i0, i1⟩ : ∃ i : Int, y = .int i ∧ 0 ≤ i ∧ i ≤ 65535 := by
        rcases my with rfl | rfl | rfl <;> exact ⟨_, rfl, by omega, by omega⟩
      refine ⟨t, _, _, _, rfl, rfl, st_of (s5.fr t _ (by simpa using htp) upd_same), ey, (by show 2 ≤ sizeLine; decide), fun u nu => ?_⟩
      have s9 := Stp.new (ms := [p]) (o := .tup [.str "number", .int i]) s16.in_ nu
      exact k _ _ _ _ (s16.trans s9) (PoolN.n2 hP6 s16.in_ nu) (.tup (st_of upd_same) (.cons (.str _) (.cons (.int _) .nil))) ⟨.num i.toNat, by rw [exD, Int.toNat_of_nonneg i0], (by show i.toNat ≤ 65535; omega), (by show 1 ≤ n + 1; omega)⟩
  intro n
  induction n with
  | zero => exact go 0 (fun _ _ _ _ _ _ _ _ _ _ _ h => h.elim)
  | succ n ih => exact go (n + 1) ih
end
end LL
namespace LL
open PySem PySem.Spec PyProof.Rows L2 He Evl ND
section
variable {w : World} {K : PySem.W.Frag} {mg : Str → Option Value} {base : Heap}
def spSpend : Sp := fun vs H Q _ => ∃ (B : Hp) (p : Addr) (u : Int), vs = [.ref p] ∧ Ex B H ∧ B p = none ∧ PoolN u p B H ∧ ∀ (H2 : Hp), Stp [p] B H B H2 → PoolN (u - 1) p B H2 → Q (.bl (decide (u - 1 ≥ 0))) H2
theorem fn_l_spend (T : Txt K mg) : Fn P w K mg base 1 (ga K "_law_spend") (spSpend) := by
  refine fn_def T.d_l_spend sc_l_spend (fun _ _ _ _ _ _ us hl => match us, hl with | [_], _ => rfl) (fun vs H Q E h => ?_) (fun cdv A outer s H vs Q E hr h => ?_)
  · obtain ⟨B, p, u, rfl, _⟩ := h
    rfl
  · obtain ⟨B, p, u, rfl, e, hb, ⟨⟨cells, at_, ix, big, st, run, bud⟩, hl, hc, hz, hu⟩, k⟩ := h
    have nd := sc_l_spend.nd
    have hl : H p = some (.lst [.ref at_, .int ix, .int big, .int st, .int run, .int bud]) := hl
    have hu : bud = u := hu
    subst hu
    refine ⟨_, pss_cons (ps_asg (pe_op op_sub (pe_ix ix_list (pv 0) (pe_int) (fun _ _ => rfl)) (pe_int)) (pg_sub (pv 0) (pe_int) set_list))
      (pss_one (ps_ret (pe_cmpR op_ge (pe_ix ix_list (pv 0) (pe_int) (fun _ _ => rfl)) (pe_int) (nomark _)))), ?_⟩
    refine ⟨_, rfl, p, _, _, _, rfl, rfl, SqL.of hl, rfl, _, _, rfl, rfl, _, rfl, p, _, _, _, rfl, rfl, hl, rfl, ?_⟩
    refine ⟨_, rfl, p, _, _, _, rfl, rfl, SqL.of upd_same, rfl, _, _, rfl, rfl, ?_⟩
    exact k _ (Stp.put e hb (.head _)) ⟨⟨cells, at_, ix, big, st, run, bud - 1⟩, upd_same, hc, hz, rfl⟩
def spValueA (K : PySem.W.Frag) : Sp := fun us H Q E => ∃ n : Nat, n ≤ 2 ∧ spValue K n us H Q E
theorem fn_l_valueA (T : Txt K mg) : Fn P w K mg base 5 (ga K "_law_value") (spValueA K) := by
  intro a1 a2 a3 a4 a5 a6 a7 a8 a9 a10 a11 ⟨n, hn, h⟩
  exact ((fn_l_value T n).mono (by omega)) a1 a2 a3 a4 a5 a6 a7 a8 a9 a10 a11 h
def spDeep (K : PySem.W.Frag) (n : Nat) : Sp := fun vs H Q _ => ∃ (B : Hp) (p : Addr) (x : V) (ns : List Str) (u : Int), vs = [.ref p, x, .int (n : Nat)] ∧ Ex B H ∧ B p = none ∧ PoolN u p B H ∧ Dp K B x (.list (ns.map PyData.str)) ∧ ns.length ≤ 63 ∧
  ∀ (v : V) (B2 H2 : Hp) (d : PyData), Stp [p] B H B2 H2 → PoolN u p B2 H2 → Dp K B2 v d → IsX ns (n + 2) d → Q v H2
def spDeepP (K : PySem.W.Frag) : Nat → Sp
  | 0 => fun _ _ _ _ => False
  | n + 1 => spDeep K n
theorem IsX.mono {ns : List Str} {m n : Nat} {d : PyData} (h : IsX ns m d) (l : m ≤ n) : IsX ns n d := by
  obtain ⟨e, h1, h2, h3⟩ := h
  exact ⟨e, h1, h2, by omega⟩
theorem fn_deep1 (T : Txt K mg) (n : Nat) (IH : Fn P w K mg base (6 + n) (ga K "_law_deep") (spDeepP K n)) : Fn P w K mg base (6 + n + 1) (ga K "_law_deep") (spDeep K n) := by
  refine fn_def T.d_l_deep sc_l_deep (fun _ _ _ _ _ _ us hl => match us, hl with | [_, _, _], _ => rfl) (fun vs H Q E h => ?_) (fun cdv A outer s H vs Q E hr h => ?_)
  · obtain ⟨B, p, x, ns, u, rfl, _⟩ := h
    rfl
  obtain ⟨B, p, x, ns, u, rfl, e, hb, hP, hx, hl, k⟩ := h
  have nd := sc_l_deep.nd
  have hr1 : Room 1 _ := hr.mono (by omega)
  have hr5 : Room 5 _ := hr.mono (by omega)
  have hbig : (100000 : Nat) ≤ sizeLine := by decide
  refine ⟨_, pss_cons (ps_set (i := 3) nd rfl (by first | exact Or.inl rfl | exact Or.inr rfl) (pe_fn T.d_l_value (fn_l_valueA T) hr5 T.g_l_value pc (pa_cons (pv 0) (pa_cons (pv 1) (pa_cons (pe_int) pa_nil)))))
      (pss_cons (ps_if (pt_cmpR op_eq (pv 2) (pe_int) (nomark _)) (pss_one (ps_ret (pv 3))) (pss_nil))
      (pss_cons (ps_set (i := 4) nd rfl (by first | exact Or.inl rfl | exact Or.inr rfl) (pe_ix ix_tup (pe_tup (pa_cons (pe_str) (pa_cons (pe_str) (pa_cons (pe_str) (pa_cons (pe_str) (pa_cons (pe_str) (pa_cons (pe_str) (pa_cons (pe_str) (pa_cons (pe_str) pa_nil))))))))) (pe_fn T.d_l_draw (fn_l_draw T) hr1 T.g_l_draw pc (pa_cons (pv 0) (pa_cons (pe_int) pa_nil))) (fun _ _ => rfl)))
      (pss_cons (ps_if (pt_cmpR op_eq (pe_fn T.d_l_draw (fn_l_draw T) hr1 T.g_l_draw pc (pa_cons (pv 0) (pa_cons (pe_int) pa_nil))) (pe_int) (nomark _)) (pss_one (ps_ret (pe_tup (pa_cons (pv 4) (pa_cons (pv 3) (pa_cons (pe_fn T.d_l_deep IH hr T.g_l_deep pc (pa_cons (pv 0) (pa_cons (pv 1) (pa_cons (pe_op op_sub (pv 2) (pe_int)) pa_nil)))) pa_nil)))))) (pss_nil))
      (pss_one (ps_ret (pe_tup (pa_cons (pv 4) (pa_cons (pe_fn T.d_l_deep IH hr T.g_l_deep pc (pa_cons (pv 0) (pa_cons (pv 1) (pa_cons (pe_op op_sub (pv 2) (pe_int)) pa_nil)))) (pa_cons (pv 3) pa_nil))))))))), ?_⟩
  refine ⟨_, rfl, _, rfl, 1, by omega, B, p, x, ns, u, rfl, e, hb, hP, hx, hl, fun v1 B1 H1 d1 s1 hP1 hd1 ⟨x1, hx1, wx1, dx1⟩ => ?_⟩
  have hb1 := s1.off hb hP.at.choose_spec
  refine ⟨_, rfl, rfl, _, rfl, ite2 (fun c => ?_) fun c => ?_⟩
  · have : n = 0 := by have := V.int.inj (of_decide_eq_true c); omega
    subst this
    exact ⟨_, rfl, k _ _ _ _ s1 hP1 hd1 ⟨x1, hx1, wx1, by omega⟩⟩
  obtain ⟨m, rfl⟩ : ∃ m, n = m + 1 := ⟨n - 1, by
    have : n ≠ 0 := fun z => c (by rw [z]; exact decide_eq_true rfl)
    omega⟩
  have en : ((m + 1 : Nat) : Int) - 1 = (m : Int) := by omega
  refine ⟨(show 8 ≤ sizeLine by omega), fun t nt => ?_⟩
  have s2 := s1.trans (Stp.cell (p := t) (o := .tup [.str "+", .str "-", .str "*", .str "/", .str "mod", .str "<", .str "=", .str "+"]) s1.in_ nt)
  have hP2 := PoolN.n1 (o := .tup [.str "+", .str "-", .str "*", .str "/", .str "mod", .str "<", .str "=", .str "+"]) hP1 nt
  have htp : t ≠ p := hP1.ne nt
  refine ⟨_, rfl, ?_⟩
  dsimp only [tCons, tNil, tC]
  refine draw_n s2.in_ hb1 hP2 (by decide) (by decide) fun r2 H3 b0 b1 s3 hP3 => ?_
  obtain ⟨y, ey, my, _⟩ := at_get (xs := [V.str "+", V.str "-", V.str "*", V.str "/", V.str "mod", V.str "<", V.str "=", V.str "+"]) b0 b1
  obtain ⟨sg, rfl, hsg⟩ : ∃ sg, y = V.str sg ∧ sg ∈ SGN := by
    simp only [List.mem_cons, List.not_mem_nil, or_false] at my
    rcases my with rfl | rfl | rfl | rfl | rfl | rfl | rfl | rfl <;> exact ⟨_, rfl, by simp [SGN]⟩
  refine ⟨t, _, _, _, rfl, rfl, st_of (s3.fr t _ (by simpa using htp) upd_same), ey, ?_⟩
  have s4 := s2.trans s3
  refine ⟨_, rfl, ?_⟩
  dsimp only [tCons, tNil, tC]
  refine draw_n s4.in_ hb1 hP3 (by decide) (by decide) fun r3 H4 c0 c1 s5 hP4 => ?_
  have s6 := s4.trans s5
  refine ⟨rfl, _, rfl, ite2 (fun _ => ?_) fun _ => ?_⟩
  · refine ⟨_, rfl, _, rfl, _, rfl, _, rfl, _, rfl, _, _, rfl, rfl, ?_⟩
    refine ⟨B1, p, x, ns, u, (by show [V.ref p, x, V.int (((m + 1 : Nat) : Int) - 1)] = _; rw [en]), s6.in_, hb1, hP4, dp_mono s1.base hx, hl, fun v2 B7 H7 d2 s7 hP7 dv2 ⟨x2, hx2, wx2, dx2⟩ => ?_⟩
    have s8 := s6.trans s7
    refine ⟨(show 3 ≤ sizeLine by omega), fun q nq => ?_⟩
    have s9 := Stp.new (ms := [p]) (o := .tup [.str sg, v1, v2]) s8.in_ nq
    exact k _ _ _ _ (s8.trans s9) (PoolN.n2 hP7 s8.in_ nq) (.tup (st_of upd_same) (.cons (.str _) (.cons (dp_mono (s7.base.trans s9.base) hd1) (.cons (dp_mono s9.base dv2) .nil)))) ⟨.op sg x1 x2, by rw [exD, ← hx1, ← hx2], ⟨hsg, wx1, wx2⟩, by rw [dpE_op]; omega⟩
  · refine ⟨_, rfl, _, rfl, _, rfl, _, rfl, _, _, rfl, rfl, ?_⟩
    refine ⟨B1, p, x, ns, u, (by show [V.ref p, x, V.int (((m + 1 : Nat) : Int) - 1)] = _; rw [en]), s6.in_, hb1, hP4, dp_mono s1.base hx, hl, fun v2 B7 H7 d2 s7 hP7 dv2 ⟨x2, hx2, wx2, dx2⟩ => ?_⟩
    have s8 := s6.trans s7
    refine ⟨_, rfl, (show 3 ≤ sizeLine by omega), fun q nq => ?_⟩
    have s9 := Stp.new (ms := [p]) (o := .tup [.str sg, v2, v1]) s8.in_ nq
    exact k _ _ _ _ (s8.trans s9) (PoolN.n2 hP7 s8.in_ nq) (.tup (st_of upd_same) (.cons (.str _) (.cons (dp_mono s9.base dv2) (.cons (dp_mono (s7.base.trans s9.base) hd1) .nil)))) ⟨.op sg x2 x1, by rw [exD, ← hx1, ← hx2], ⟨hsg, wx2, wx1⟩, by rw [dpE_op]; omega⟩
theorem fn_deepP (T : Txt K mg) : ∀ d, Fn P w K mg base (6 + d) (ga K "_law_deep") (spDeepP K d)
  | 0 => fun _ _ _ _ _ _ _ _ _ _ _ h => h.elim
  | d + 1 => fn_deep1 T d (fn_deepP T d)
theorem fn_l_deep (T : Txt K mg) : Fn P w K mg base 16 (ga K "_law_deep") (spDeep K 4) := (fn_deepP T 5).mono (by decide)
end
end LL
namespace LL
open PySem PySem.Spec PyProof.Rows L2 He Evl ND
/-! ### ways, pending statements -/
theorem walk_revT {K : PySem.W.Frag} {a : Addr} {xs : List V} : Walk (RT.ItvT K a xs.length) xs.length (fun H => SqT K H a xs) (fun i H x H' => H' = H ∧ xs[xs.length - 1 - i]? = some x) :=
  ⟨fun i _ hi q => ⟨hi, xs, xs[xs.length - 1 - i]'(by omega), q, by simp [show xs.length - 1 - i < xs.length by omega]⟩, fun _ _ => Nat.le_refl _, fun _ _ _ _ _ q y => ⟨y.1, y.2 xs q⟩⟩
/-- a new instance, its dict and its fields -/
theorem Stp.made {ms : List Addr} {B H : Hp} {x dx : Addr} {C : Addr} {fs : List (Str × V)} (e : Ex B H) (nx : H x = none) (nd : H dx = none) (ne : dx ≠ x) : Stp ms B H (upd (upd B dx (.own x)) x (.ins C dx fs)) (upd (upd H dx (.own x)) x (.ins C dx fs)) := by
  have s1 := Stp.new (ms := ms) (o := .own x) e nd
  exact s1.trans (Stp.new s1.in_ (by rw [upd_ne ne.symm]; exact nx))
section
variable {w : World} {K : PySem.W.Frag} {mg : Str → Option Value} {base : Heap}
def VwAt (K : PySem.W.Frag) (B : Hp) (c : Addr) (v : List Evt) : Prop := ∃ xs, SqT K B c xs ∧ Paired (EvAt K B) xs v
theorem VwAt.mono {B B2 : Hp} {c : Addr} {v : List Evt} (h : VwAt K B c v) (e : Ex B B2) : VwAt K B2 c v := by
  obtain ⟨xs, h1, h2⟩ := h
  exact ⟨xs, ex_t e h1, L2.Paired.mapP h2 fun _ _ z => z.mono e⟩
def vK (c1 c2 : Addr) : List (Key × V) := [(Sum.inr "chooser", V.ref c1), (Sum.inr "comer", V.ref c2)]
def wayFs (ta va : Addr) (pd : Int) : List (Str × V) := [("table", .ref ta), ("views", .ref va), ("paid", .int pd)]
def WayAt (K : PySem.W.Frag) (B : Hp) (v : V) (t : Tbl) (vw : Vws) (pd : Int) : Prop := ∃ (x dx ta va c1 c2 : Addr), v = .ref x ∧ B x = some (.ins (ga K "Way") dx (wayFs ta va pd)) ∧ B ta = some (.dK (tK t)) ∧ B va = some (.dK (vK c1 c2)) ∧ VwAt K B c1 vw.1 ∧ VwAt K B c2 vw.2
theorem WayAt.mono {B B2 : Hp} {v : V} {t : Tbl} {vw : Vws} {pd : Int} (h : WayAt K B v t vw pd) (e : Ex B B2) : WayAt K B2 v t vw pd := by
  obtain ⟨x, dx, ta, va, c1, c2, h1, h2, h3, h4, h5, h6⟩ := h
  exact ⟨x, dx, ta, va, c1, c2, h1, e _ _ h2, e _ _ h3, e _ _ h4, h5.mono e, h6.mono e⟩
def spWayI (K : PySem.W.Frag) : Sp := fun us H Q _ => ∃ (x dx ta va : Addr) (pd : Int), us = [.ref x, .ref ta, .ref va, .int pd] ∧ H x = some (.ins (ga K "Way") dx []) ∧ Q .non (upd H x (.ins (ga K "Way") dx (wayFs ta va pd)))
theorem fn_Way_init (T : Txt K mg) : Fn P w K mg base 1 (ma K (ga K "Way") "__init__") (spWayI K) := by
  refine fn_def T.d_Way_init sc_Way_init (fun _ _ _ _ _ _ us hl => match us, hl with | [_, _, _, _], _ => rfl) (fun vs H Q E h => ?_) (fun cdv A outer s H vs Q E hr h => ?_)
  · obtain ⟨_, _, _, _, _, rfl, _⟩ := h
    rfl
  obtain ⟨x, dx, ta, va, pd, rfl, hx, k⟩ := h
  have nd := sc_Way_init.nd
  refine ⟨_, pss_cons (ps_fld (pv 0) (pv 1) rfl)
      (pss_cons (ps_fld (pv 0) (pv 2) rfl)
      (pss_one (ps_fld (pv 0) (pv 3) rfl))), ?_⟩
  refine ⟨_, rfl, _, rfl, x, _, dx, _, rfl, hx, T.c_Way, T.a_Way_table, (show 0 < 1000 by decide), ?_⟩
  refine ⟨_, rfl, _, rfl, x, _, dx, _, rfl, upd_same, T.c_Way, T.a_Way_views, (show 1 < 1000 by decide), ?_⟩
  refine ⟨_, rfl, _, rfl, x, _, dx, _, rfl, upd_same, T.c_Way, T.a_Way_paid, (show 2 < 1000 by decide), ?_⟩
  rw [upd_twice, upd_twice]
  exact k
/-- Way(..) of things of the base -/
theorem mk_way {ms : List Addr} {B H : Hp} {ta va c1 c2 : Addr} {t : Tbl} {vw : Vws} {pd : Int} {Q : VK} {E : XK} (e : Ex B H) (h1 : B ta = some (.dK (tK t))) (h2 : B va = some (.dK (vK c1 c2))) (h3 : VwAt K B c1 vw.1) (h4 : VwAt K B c2 vw.2)
    (k : ∀ v B2 H2, Stp ms B H B2 H2 → WayAt K B2 v t vw pd → Q v H2) : ∀ x dx, H x = none → H dx = none → dx ≠ x → spWayI K [.ref x, .ref ta, .ref va, .int pd] (upd (upd H dx (.own x)) x (.ins (ga K "Way") dx [])) (fun v H2 => v = .non ∧ Q (.ref x) H2) E := fun x dx nx ndx ne => by
  refine ⟨x, dx, ta, va, pd, rfl, upd_same, rfl, ?_⟩
  rw [upd_twice]
  have s := Stp.made (ms := ms) (C := ga K "Way") (fs := wayFs ta va pd) e nx ndx ne
  exact k _ _ _ s ⟨x, dx, ta, va, c1, c2, rfl, upd_same, s.base _ _ h1, s.base _ _ h2, h3.mono s.base, h4.mono s.base⟩
theorem dput_tbl {H : Hp} {p : Addr} {t : Tbl} {x : Str} {n z : Nat} (hx : x ∈ t.map (·.1)) (hl : t.length ≤ 100) : DPut (upd H p (.dK (tK t))) p (.str x) (.int ((n : Int) % (z : Int))) (upd H p (.dK (tK (LL.tPut t x (n % z))))) := by
  have h := DPut.k (H := upd H p (.dK (tK t))) (a := p) (k := .inr x) (v := .int ((n : Int) % (z : Int))) upd_same (by
    have : (100000 : Nat) ≤ sizeLine := by decide
    show (List.map _ t).length < _
    rw [List.length_map]; omega)
  rw [upd_twice, show (((n : Nat) : Int) % ((z : Nat) : Int)) = ((n % z : Nat) : Int) by omega, tK_put hx] at h
  exact h
def spStored (K : PySem.W.Frag) : Sp := fun us H Q _ => ∃ (v : V) (x : Str) (n z : Nat) (B : Hp) (t : Tbl) (vw : Vws) (pd : Int), us = [v, .str x, .int (n : Nat), .int (z : Nat)] ∧ Ex B H ∧ WayAt K B v t vw pd ∧ x ∈ t.map (·.1) ∧ t.length ≤ 100 ∧ 0 < z ∧ ∀ v2 B2 H2, Stp [] B H B2 H2 → WayAt K B2 v2 (LL.tPut t x (n % z)) vw pd → Q v2 H2
theorem fn_Way_stored (T : Txt K mg) : Fn P w K mg base 3 (ma K (ga K "Way") "stored") (spStored K) := by
  refine fn_def T.d_Way_stored sc_Way_stored (fun _ _ _ _ _ _ us hl => match us, hl with | [_, _, _, _], _ => rfl) (fun vs H Q E h => ?_) (fun cdv A outer s H vs Q E hr h => ?_)
  · obtain ⟨_, _, _, _, _, _, _, _, rfl, _⟩ := h
    rfl
  obtain ⟨v, x, n, z, B, t, vw, pd, rfl, e, ⟨a, da, ta, va, c1, c2, rfl, ha, hta, hva, hc1, hc2⟩, hx, hl, hz, k⟩ := h
  have nd := sc_Way_stored.nd
  refine ⟨_, pss_cons (ps_set (i := 4) nd rfl (by first | exact Or.inl rfl | exact Or.inr rfl) (pe_callTy call_dictD (by rfl) T.f_dict (by decide +kernel) (pa_cons (pe_fld (pv 0) rfl) pa_nil)))
      (pss_cons (ps_dput (hu_of hr) (pv 4) (pv 1) (pe_op op_mod (pv 2) (pv 3)) rfl)
      (pss_one (ps_ret (StX.pe_makeR T.m_Way (fn_Way_init T) (hr.mono (by decide)) rfl T.g_Way pc (pa_cons (pv 4) (pa_cons (pe_fld (pv 0) rfl) (pa_cons (pe_fld (pv 0) rfl) pa_nil))))))), ?_⟩
  refine ⟨_, rfl, a, _, _, _, _, rfl, e _ _ ha, T.c_Way, T.a_Way_table, rfl, ta, _, rfl, .inl (e _ _ hta), fun p np => ?_⟩
  have s1 := Stp.cell (ms := []) (o := .dK (tK t)) e np
  refine ⟨_, rfl, _, rfl, _, _, rfl, rfl, by omega, _, rfl, _, rfl, p, _, rfl, dput_tbl hx hl, ?_⟩
  have s2 := Stp.new (ms := []) (o := .dK (tK (LL.tPut t x (n % z)))) e np
  have ha2 := s2.in_ _ _ (s2.base _ _ ha)
  refine ⟨_, rfl, _, rfl, a, _, _, _, _, rfl, ha2, T.c_Way, T.a_Way_views, rfl, _, rfl, a, _, _, _, _, rfl, ha2, T.c_Way, T.a_Way_paid, rfl, ?_⟩
  exact mk_way s2.in_ upd_same (s2.base _ _ hva) (hc1.mono s2.base) (hc2.mono s2.base) fun v2 B2 H2 s3 h => k v2 B2 H2 (s2.trans s3) h
theorem seat_val (c : Bool) (c1 c2 : Addr) : valV (vK c1 c2) (Sum.inr (seatS c)) = some (.ref (if c then c2 else c1)) := by
  cases c <;> rfl
theorem cat_view {ms : List Addr} {B H : Hp} {a q : Addr} {v : List Evt} {ev : V} {ed : Evt} {Q : VK} (e : Ex B H) (h : VwAt K B a v) (hq : B q = some (.tup [ev])) (he : EvAt K B ev ed) (hl : v.length ≤ 1000)
    (k : ∀ r B2 H2, Stp ms B H B2 H2 → VwAt K B2 r (v ++ [ed]) → Q (.ref r) H2) : rCatA K (.ref a) (.ref q) H Q := by
  obtain ⟨xs, hxs, hp⟩ := h
  have hxl : xs.length ≤ 1000 := by rw [Paired.length hp]; exact hl
  refine ⟨a, q, xs, [ev], rfl, rfl, ex_t e hxs, st_of (e _ _ hq), ?_, fun hx => ?_, fun _ h => absurd h (List.cons_ne_nil _ _), fun hx _ r nr => ?_⟩
  · have : (100000 : Nat) ≤ sizeLine := by decide
    show xs.length + 1 ≤ _
    omega
  · subst hx
    cases hp
    exact k q B H (Stp.refl e) ⟨[ev], st_of hq, .cons he .nil⟩
  · have s := Stp.new (ms := ms) (o := .tup (xs ++ [ev])) e nr
    exact k r _ _ s ⟨xs ++ [ev], st_of upd_same, Paired.snoc (L2.Paired.mapP hp fun _ _ z => z.mono s.base) (he.mono s.base)⟩
def spSeen (K : PySem.W.Frag) : Sp := fun us H Q _ => ∃ (v ev : V) (c : Bool) (ed : Evt) (B : Hp) (t : Tbl) (vw : Vws) (pd : Int), us = [v, .str (seatS c), ev] ∧ Ex B H ∧ WayAt K B v t vw pd ∧ EvAt K B ev ed ∧ (vGet c vw).length ≤ 1000 ∧ ∀ v2 B2 H2, Stp [] B H B2 H2 → WayAt K B2 v2 t (vAdd c ed vw) pd → Q v2 H2
theorem fn_Way_seen (T : Txt K mg) : Fn P w K mg base 3 (ma K (ga K "Way") "seen") (spSeen K) := by
  refine fn_def T.d_Way_seen sc_Way_seen (fun _ _ _ _ _ _ us hl => match us, hl with | [_, _, _], _ => rfl) (fun vs H Q E h => ?_) (fun cdv A outer s H vs Q E hr h => ?_)
  · obtain ⟨_, _, _, _, _, _, _, _, rfl, _⟩ := h
    rfl
  obtain ⟨v, ev, c, ed, B, t, vw, pd, rfl, e, ⟨a, da, ta, va, c1, c2, rfl, ha, hta, hva, hc1, hc2⟩, hev, hl, k⟩ := h
  have nd := sc_Way_seen.nd
  refine ⟨_, pss_cons (ps_set (i := 3) nd rfl (by first | exact Or.inl rfl | exact Or.inr rfl) (pe_callTy call_dictD (by rfl) T.f_dict (by decide +kernel) (pa_cons (pe_fld (pv 0) rfl) pa_nil)))
      (pss_cons (ps_dput (hu_of hr) (pv 3) (pv 1) (pe_op op_catA (pe_dget (hu_of hr) (pv 3) (pv 1) (fun _ _ => rfl)) (pe_tup (pa_cons (pv 2) pa_nil))) rfl)
      (pss_one (ps_ret (StX.pe_makeR T.m_Way (fn_Way_init T) (hr.mono (by decide)) rfl T.g_Way pc (pa_cons (pe_fld (pv 0) rfl) (pa_cons (pv 3) (pa_cons (pe_fld (pv 0) rfl) pa_nil))))))), ?_⟩
  refine ⟨_, rfl, a, _, _, _, _, rfl, e _ _ ha, T.c_Way, T.a_Way_views, rfl, va, _, rfl, .inl (e _ _ hva), fun p np => ?_⟩
  have s1 := Stp.cell (ms := []) (o := .dK (vK c1 c2)) e np
  refine ⟨_, rfl, _, rfl, p, .ref (if c then c2 else c1), rfl, ?_, ?_⟩
  · have hg := DGet.k (k := .inr (seatS c)) (kvs := vK c1 c2) (H := upd H p (.dK (vK c1 c2))) (a := p) upd_same
    rw [seat_val] at hg
    exact hg
  have hcc : VwAt K B (if c then c2 else c1) (vGet c vw) := by
    cases c
    · exact hc1
    · exact hc2
  refine ⟨_, rfl, (show 1 ≤ sizeLine by decide), fun q nq => ?_⟩
  have s2 := Stp.new (ms := [p]) (o := .tup [ev]) s1.in_ nq
  refine cat_view (ms := []) s2.in_ (VwAt.mono hcc s2.base) upd_same (hev.mono s2.base) hl fun r B3 H3 s3 hv => ?_
  have st := s2.trans (s3.wk fun _ h => nomatch h)
  have hB3 : B3 p = none := st.off (ex_none e np) upd_same
  have hp3 : H3 p = some (.dK (vK c1 c2)) := s3.fr p _ (fun h => nomatch h) (by rw [upd_ne (fun z => by subst z; rw [upd_same] at nq; cases nq)]; exact upd_same)
  refine ⟨_, rfl, _, rfl, p, _, rfl, DPut.k (k := .inr (seatS c)) hp3 (show 2 < sizeLine by decide), ?_⟩
  have st2 := st.trans (Stp.put (o := .dK (putK (vK c1 c2) (Sum.inr (seatS c)) (.ref r))) st.in_ hB3 (.head _))
  have cl := Stp.close e np st2 upd_same
  have ha2 := cl.in_ _ _ (cl.base _ _ ha)
  refine ⟨_, rfl, a, _, _, _, _, rfl, ha2, T.c_Way, T.a_Way_table, rfl, _, rfl, _, rfl, a, _, _, _, _, rfl, ha2, T.c_Way, T.a_Way_paid, rfl, ?_⟩
  have hv' : VwAt K (upd B3 p (.dK (putK (vK c1 c2) (Sum.inr (seatS c)) (.ref r)))) r (vGet c vw ++ [ed]) := hv.mono (Ex.new hB3)
  cases c with
  | false => exact mk_way (vw := (vw.1 ++ [ed], vw.2)) cl.in_ (cl.base _ _ hta) upd_same hv' (hc2.mono cl.base) fun v2 B2 H2 s5 h => k v2 B2 H2 (cl.trans s5) h
  | true => exact mk_way (vw := (vw.1, vw.2 ++ [ed])) cl.in_ (cl.base _ _ hta) upd_same (hc1.mono cl.base) hv' fun v2 B2 H2 s5 h => k v2 B2 H2 (cl.trans s5) h
/-! pending statements -/
def PendAt (K : PySem.W.Frag) (B : Hp) : V → List Stm → Prop
  | v, [] => v = .non
  | v, s :: S => ∃ a x v2, v = .ref a ∧ SqT K B a [x, v2] ∧ Dp K B x (stD s) ∧ PendAt K B v2 S
theorem PendAt.mono {B B2 : Hp} (e : Ex B B2) : ∀ {S : List Stm} {v : V}, PendAt K B v S → PendAt K B2 v S
  | [], _, h => h
  | s :: S, _, ⟨a, x, v2, h1, h2, h3, h4⟩ => ⟨a, x, v2, h1, ex_t e h2, dp_mono e h3, PendAt.mono e h4⟩
theorem dpa_len {H : Hp} : ∀ {vs : List V} {ds : List PyData}, DpAll K H vs ds → vs.length = ds.length
  | [], [], _ => rfl
  | _ :: _, _ :: _, h => by
    cases h with
    | cons _ h2 => rw [List.length_cons, List.length_cons, dpa_len h2]
  | [], _ :: _, h => by cases h
  | _ :: _, [], h => by cases h
theorem dpa_get {H : Hp} : ∀ {vs : List V} {ds : List PyData} {i : Nat} {v : V} {d : PyData}, DpAll K H vs ds → vs[i]? = some v → ds[i]? = some d → Dp K H v d
  | _ :: _, _ :: _, 0, _, _, h, h1, h2 => by
    cases h with
    | cons h3 _ =>
      cases h1
      cases h2
      exact h3
  | _ :: _, _ :: _, i + 1, _, _, h, h1, h2 => by
    cases h with
    | cons _ h4 => exact dpa_get h4 h1 h2
def spChain (K : PySem.W.Frag) : Sp := fun us H Q _ => ∃ (b q0 : V) (B : Hp) (bl S : List Stm), us = [b, q0] ∧ Ex B H ∧ Dp K B b (.tuple (blD bl)) ∧ PendAt K B q0 S ∧ ∀ v B2 H2, Stp [] B H B2 H2 → PendAt K B2 v (bl ++ S) → Q v H2
theorem fn_chained (T : Txt K mg) : Fn P w K mg base 1 (ga K "chained") (spChain K) := by
  refine fn_def T.d_chained sc_chained (fun _ _ _ _ _ _ us hl => match us, hl with | [_, _], _ => rfl) (fun vs H Q E h => ?_) (fun cdv A outer s H vs Q E hr h => ?_)
  · obtain ⟨_, _, _, _, _, rfl, _⟩ := h
    rfl
  obtain ⟨b, q0, B, bl, S, rfl, e, hb, hp, k⟩ := h
  have nd := sc_chained.nd
  refine ⟨_, pss_cons (ps_for (passes_of rfl) rfl (RT.pi_revA (by rfl) T.f_reversed (pv 0)) (pg_name (i := 2) nd rfl (by first | exact Or.inl rfl | exact Or.inr rfl)) (pss_one (ps_set (i := 1) nd rfl (by first | exact Or.inl rfl | exact Or.inr rfl) (pe_tup (pa_cons (pv 2) (pa_cons (pv 1) pa_nil))))))
      (pss_one (ps_ret (pv 1))), ?_⟩
  obtain ⟨a, vs, rfl, sx, dx⟩ := dp_tupK hb
  have hlen : vs.length = bl.length := by rw [← blD_len bl]; exact dpa_len dx
  refine ⟨_, rfl, a, vs, rfl, .inr ⟨ex_t e sx, for_it (walk_revT (xs := vs)) (fun i σ H' => ∃ (v : V) (u2 : Option V) (B' : Hp), Stp [] B H B' H' ∧ PendAt K B' v (bl.drop (bl.length - i) ++ S) ∧ σ = [some (.ref a), some v, u2]) ?_ ?_ ?_ ?_⟩⟩
  · exact ⟨q0, none, B, Stp.refl e, by rw [Nat.sub_zero, List.drop_length]; exact hp, rfl⟩
  · rintro i σ H' _ ⟨_, _, _, s, _⟩
    exact ex_t s.in_ (ex_t s.base sx)
  · rintro i x σ H' H'' hi ⟨v, u2, B', s, hv, rfl⟩ ⟨rfl, hx⟩
    refine ⟨_, rfl, _, rfl, (show 2 ≤ sizeLine by decide), fun q nq => ?_⟩
    have s2 := s.trans (Stp.new (o := .tup [x, v]) s.in_ nq)
    refine ⟨.ref q, some x, _, s2, ?_, rfl⟩
    have hj : vs.length - 1 - i < bl.length := by omega
    have e1 : bl.drop (bl.length - (i + 1)) = bl[vs.length - 1 - i] :: bl.drop (bl.length - i) := by
      rw [show bl.length - (i + 1) = vs.length - 1 - i by omega, List.drop_eq_getElem_cons hj, show vs.length - 1 - i + 1 = bl.length - i by omega]
    rw [e1]
    have hd : Dp K B x (stD bl[vs.length - 1 - i]) := dpa_get dx hx (blD_get (List.getElem?_eq_getElem hj))
    exact ⟨q, x, v, rfl, st_of upd_same, dp_mono s2.base hd, hv.mono (Ex.new (ex_none s.in_ nq))⟩
  · rintro σ H' ⟨v, u2, B', s, hv, rfl⟩
    rw [hlen, Nat.sub_self, List.drop_zero] at hv
    exact ⟨_, rfl, k v B' H' s hv⟩
end
end LL
/-! a list comprehension whose element may raise -/
namespace LCX
open PySem PySem.Spec PyProof.Rows L2
theorem note_frame {e : Value} {env env' : Env} (h : env.frame = env'.frame) : noteFrame e env = noteFrame e env' := by
  unfold noteFrame PySem.frameOf
  rw [h]
def compPostX (M : Model) (A : Around) (E : Value → Shared → Prop) (Q : Value → Shared → Prop) (acc : Value) (cenv : Env) (r : Result) (s' : Shared) : Prop :=
  match r with
  | .ok _ => ∃ m, s'.heap.Ns cenv.locals m ∧ ∀ h', Heap.SameBut cenv.locals s'.heap h' → Q acc { s' with heap := h' }
  | .error x => ∃ m, s'.heap.Ns cenv.locals m ∧ ∀ h', Heap.SameBut cenv.locals s'.heap h' → wpAny M A (passOn "comprehension.variables-let-go" x cenv : Sem Value) (fun _ _ => False) E { s' with heap := h' }
section
variable {M : Model} {A : Around} {E : Value → Shared → Prop} {env : Env} {s : Shared}
theorem wpAny_comprehension_freeX {e : Expr} {scope : Scope} {pos : Pos} {newAcc first : Sem Value} {g : Comprehension} {gs : List Comprehension} {cl : List (Str × Addr)}
    {Q : Value → Shared → Prop}
    (hcl : clausesOf e = g :: gs) (hs : ∀ x, foldedSetIterable g.iter env x = pure x) (hclos : closureFor scope env = pure cl)
    (hkind : scope.kind = .function) (hnames : ∀ x ∈ scope.names, x.2 = .local → scope.names.lookup x.1 = some .local)
    (h : wpAny M A first (fun x s₁ => wpAny M A (pyIter x) (fun it s₂ => wpAny M A newAcc (fun acc s₃ =>
      wpAny M A (newFunctionEnv scope env.globals cl [] env.qual none .none (some env)) (fun cenv s₄ =>
        codeAny M A (.compStart e 0 it acc { cenv with scope := relabel scope env }) (compPostX M A E Q acc { cenv with scope := relabel scope env }) s₄) E s₃) E s₂) E s₁) E s) :
    wpAny M A (comprehension e scope env pos newAcc false first none) Q E s := by
  unfold comprehension
  rw [hclos, hcl]
  refine wpAny_bind (wpAny_mono h (fun x s₁ h₁ => wpAny_bind (wpAny_standAt (wpAny_bind (wpAny_of_eq (hs x) (wpAny_bind (wpAny_holding (wpAny_mono h₁ (fun it s₂ h₂ =>
    wpAny_standIf (wpAny_bind (wpAny_mono h₂ (fun acc s₃ h₃ => wpAny_bind (wpAny_pure (wpAny_bind (wpAny_mono h₃ (fun cenv s₄ h₄ => ?_) fun _ _ h' => h')))) fun _ _ h' => h')))
      fun _ _ h' => h'))))))) fun _ _ h' => h')
  dsimp only
  have hv : ∀ x ∈ (scope.names.filter fun x => (x.2 == .local || x.2 == .cell) && x.1 != (".0" : Str)).reverse, x.2 = .local →
      Env.kindOf { cenv with scope := relabel scope env } x.1 = some .local := fun x hx hl => lookup_relabel_local (hnames x (List.mem_filter.mp (List.mem_reverse.mp hx)).1 hl)
  refine wpAny_holding (wpAny_bind (wpAny_attempt (wpAny_holding (wpAny_run (codeAny_mono h₄ fun r s' hr => ?_)))))
  cases r with
  | ok f =>
    obtain ⟨m, hn, hr⟩ := hr
    exact wpAny_bind (wpAny_holding (wpAny_comp_letGo (cenv := { cenv with scope := relabel scope env }) hkind _ s' m hv hn fun h' m' _ hs' => wpAny_pure (hr h' hs')))
  | error x =>
    obtain ⟨m, hn, hr⟩ := hr
    exact wpAny_bind (wpAny_holding (wpAny_comp_letGo (cenv := { cenv with scope := relabel scope env }) hkind _ s' m hv hn fun h' m' _ hs' => wpAny_mono (hr h' hs') (fun _ _ f => f.elim) fun _ _ y => y))
end
section
variable {X : Cx} {pins : List (Addr × Obj)} {σ : L2.St} {H H' : Hp} {s s' : Shared} {B : Heap} {Wc : XK}
/-- XE.of_call with the ground told -/
theorem of_call2 (I : Inv X pins σ H s) {a : Addr} {cls : Value} {d : Option Addr} (st : B.StaysIn s'.heap) (hok : HOk X.prog X.w H' B) (ub : UB (frs X.stack) H H' s.heap B s'.heap) (os : s'.os = s.os) (ag : AllBare s'.gens) :
    ∃ sI : Shared, Inv X pins σ H' sI ∧ (∀ b o, sI.heap.get? b = some o → b ∉ frs X.stack → B.get? b = some o) ∧ sI.heap.UpToSlots s'.heap ∧ s'.os = sI.os := by
  obtain ⟨G, g1, g2⟩ := restrict s'.heap fun b => (B.get? b).isSome || decide (b ∈ frs X.stack)
  have gB : ∀ b o, B.get? b = some o → G.get? b = some o := fun b o e => by
    rw [g1 b (by simp [e])]
    exact st b o e
  have gF : ∀ b, b ∈ frs X.stack → G.get? b = s'.heap.get? b := fun b hb => g1 b (by simp [hb])
  have og : ∀ b o, G.get? b = some o → s'.heap.get? b = some o ∧ ((B.get? b).isSome = true ∨ b ∈ frs X.stack) := fun b o e => by
    cases q : ((B.get? b).isSome || decide (b ∈ frs X.stack)) with
    | false => rw [g2 b q] at e; cases e
    | true =>
      rw [g1 b q] at e
      exact ⟨e, by simpa [Bool.or_eq_true] using q⟩
  refine ⟨{ s with heap := G, gens := s'.gens, drawn := s'.drawn, toks := s'.toks }, ?_, fun b o e hb => ?_, Heap.UpToSlots.of_keeps fun b o e => (og b o e).1, os⟩
  · refine I.call (ch := []) ⟨fun b o e n hb _ => gB b o (ub.keep b o e n hb), fun b o e n hb _ => ?_, fun b o e n _ => ub.free b o e n, fun b o e _ => ?_, ub.tups, ub.frzs, ub.tbls⟩ (hok.kept gB) ag (fun _ z => nomatch z)
    · obtain ⟨sl, q⟩ := ub.slot b o e hb
      exact ⟨sl, by rw [gF b hb]; exact q⟩
    · by_cases hb : b ∈ frs X.stack
      · obtain ⟨sl, q⟩ := ub.slot b o e hb
        exact ⟨_, by rw [gF b hb]; exact q⟩
      · obtain ⟨o', q⟩ := ub.there b o e hb
        exact ⟨o', gB b o' q⟩
  · obtain ⟨e', h⟩ := og b o e
    rcases h with h | h
    · obtain ⟨o', q⟩ := Option.isSome_iff_exists.mp h
      have z := st b o' q
      rw [e'] at z; cases z
      exact q
    · exact absurd h hb
theorem funFrames_keep {B h h' : Heap} : ∀ {l : List Env}, h.FunFrames B l → (∀ L ∈ frs l, h'.get? L = h.get? L) → h'.FunFrames B l
  | [], _, _ => trivial
  | env :: l, hh, hn => by
    obtain ⟨hk, ⟨L, o, hf, hB, ho, hd⟩, hr⟩ := hh
    exact ⟨hk, ⟨L, o, hf, hB, (hn L (List.mem_filterMap.mpr ⟨env, List.mem_cons_self, hf⟩)).trans ho, hd⟩, funFrames_keep hr fun b hb => by
      obtain ⟨e, he, q⟩ := List.mem_filterMap.mp hb
      exact hn b (List.mem_filterMap.mpr ⟨e, List.mem_cons_of_mem _ he, q⟩)⟩
/-- a call's exception leaves the comprehension's block and is in the def's air -/
theorem comp_out {C : Addr} {ce : Env} {acc : Value} {Qf : Value → Shared → Prop} (hst : X.stack = X.env :: X.outer) (hf : X.env.frame = some X.env.locals) (hce : ce.frame = X.env.frame) (hcl : ce.locals = C)
    (tk : Takes X fun cls d _ H => Wc cls d H) (I : Inv X pins σ H s) (hC : ∃ m, s.heap.Ns C m) (nC : H C = none) (fC : FpOk X pins H C) (nF : C ∉ frs X.stack) {u : Value} (c : L2.CX X.prog X.w X.stack H s Wc u s') :
    wpAny (model X.prog X.w) X.A (noteFrame u ce) (fun _ s'' => compPostX (model X.prog X.w) X.A X.xe Qf acc ce (.error u) s'') (fun e s'' => compPostX (model X.prog X.w) X.A X.xe Qf acc ce (.error e) s'') s' := by
  obtain ⟨a, B, H', cls, d, rfl, fl, hok, ub, na, os, ag, hE⟩ := c
  have st : B.StaysIn s'.heap := fl.1
  obtain ⟨sI, I2, nb, up, os2⟩ := of_call2 (a := a) (cls := cls) (d := d) I st hok ub os ag
  obtain ⟨m, oC, es, ep, hoC, hrest⟩ := hC
  have hBC : B.get? C = some oC := ub.keep C oC hoC nC nF
  have hfr : X.A.frames = some (X.env :: X.outer) := by rw [I.ok.frames, hst]
  rw [note_frame hce]
  rw [hst] at fl
  refine HandSPX.looks_onZ Zc.steady hfr hf fl fun h1 hh up1 => ?_
  obtain ⟨k1, k2, k3, oe, vs, T, oT, ts, he, hz, hd, hv, hnT, hTe, hT, hdT, h3⟩ := hh
  subst hcl
  refine ⟨m, ⟨oC, es, ep, k1 _ _ hBC, hrest⟩, fun h2 sb => ?_⟩
  have neA : a ≠ ce.locals := fun z => by rw [z, hBC] at k2; cases k2
  have neT : T ≠ ce.locals := fun z => by rw [z, hBC] at hnT; cases hnT
  obtain ⟨B2, b1, b2⟩ := restrict B fun b => decide (b ≠ ce.locals)
  have b2C : ∀ b o, B2.get? b = some o → b ≠ ce.locals ∧ B.get? b = some o := fun b o e => by
    by_cases z : b = ce.locals
    · rw [b2 b (by simp [z])] at e; cases e
    · rw [b1 b (by simp [z])] at e; exact ⟨z, e⟩
  have b2N : ∀ b, B.get? b = none → B2.get? b = none := fun b e => by
    cases q : B2.get? b with
    | none => rfl
    | some o => rw [(b2C b o q).2] at e; cases e
  have st2 : B2.StaysIn h2 := fun b o e => by
    obtain ⟨z, e⟩ := b2C b o e
    exact (sb.2 b z).trans (k1 b o e)
  have ff2 : h2.FunFrames B2 (X.env :: X.outer) := by
    refine funFrames_none (funFrames_keep k3 fun b hb => sb.2 b fun z => nF (by rw [hst, ← z]; exact hb)) fun b hb => b2N b ?_
    obtain ⟨hB, _⟩ := k3.mem hb
    exact hB
  have tr2 : HandSPX.TracedZ h2 B2 a (Zc cls d) (rawInt X.env.locals) := ⟨oe, vs, T, oT, ts, (sb.2 a neA).trans he, hz, hd, hv, b2N T hnT, hTe, (sb.2 T neT).trans hT, hdT, h3⟩
  unfold _root_.PySem.passOn
  refine wpAny_bind (wpAny_field ((sb.2 a neA).trans he) hd hv ?_)
  rw [if_neg (show ¬ ((Value.ref T == Value.none) = true) from by simp)]
  refine wpAny_bind ?_
  rw [show ce.frame = some X.env.locals from hce.trans hf]
  refine HandSPX.setFlight_anyZ (base := B2) (l := X.env :: X.outer) st2 ff2 tr2 fun h4 g1 g2 g3 up3 => ?_
  refine wpAny_throw (tk _ _ ⟨a, B2, { sI with heap := PySem.W.hideAll sI.heap [ce.locals] }, pins, σ, H', cls, d, rfl, ?_, fun b o e hb => ?_, fun b o e hnf => ?_, .inr (.inr ⟨g1, b2N a k2, by rw [hst]; exact g2, g3⟩), na, os2, ag, hE⟩)
  · obtain ⟨f0, f1, f2, f3, f4, f5⟩ := fC
    exact I2.turned (t' := sI.toks) (fun b o hb e => PySem.W.hideAll_get _ e (by simpa using hb)) (ub.free _ _ hoC nC) f1 f3 f4 f5
  · have e1 := PySem.W.of_hideAll _ e
    have hne : b ≠ ce.locals := fun z => by
      rw [z] at e
      rw [PySem.W.hideAll_none _ (by simp)] at e
      cases e
    rw [b1 b (by simp [hne])]
    exact nb b o e1 hb
  · have e1 := PySem.W.of_hideAll _ e
    have hne : b ≠ ce.locals := fun z => by
      rw [z] at e
      rw [PySem.W.hideAll_none _ (by simp)] at e
      cases e
    obtain ⟨s1, q1⟩ := up b o e1 hnf
    obtain ⟨s2, q2⟩ := up1 b _ q1 hnf
    obtain ⟨s3, q3⟩ := up3 b _ ((sb.2 b hne).trans q2) hnf
    exact ⟨s3, q3⟩
end
section
variable {X : Cx} {pins : List (Addr × Obj)} {σ : L2.St} {H : Hp} {s : Shared} {xe : Value → Shared → Prop}
theorem ok_xe (ok : X.Ok) : ({ X with xe := xe } : Cx).Ok := ⟨ok.mod, ok.kind, ok.glob, ok.blt, ok.above, ok.inj, ok.has, ok.cab, ok.hd, ok.frames, ok.stk, ok.exf, ok.bs, ok.bsz, ok.noex, ok.exfs, ok.funs, ok.frf⟩
theorem ok_ex (ok : ({ X with xe := xe } : Cx).Ok) : X.Ok := ⟨ok.mod, ok.kind, ok.glob, ok.blt, ok.above, ok.inj, ok.has, ok.cab, ok.hd, ok.frames, ok.stk, ok.exf, ok.bs, ok.bsz, ok.noex, ok.exfs, ok.funs, ok.frf⟩
theorem inv_xe (I : Inv X pins σ H s) : Inv { X with xe := xe } pins σ H s := ⟨ok_xe I.ok, I.os, I.bare, I.base, I.loc, I.cell, I.free, I.freeC, I.pin, I.hok, I.len⟩
theorem inv_ex (I : Inv { X with xe := xe } pins σ H s) : Inv X pins σ H s := ⟨ok_ex I.ok, I.os, I.bare, I.base, I.loc, I.cell, I.free, I.freeC, I.pin, I.hok, I.len⟩
end
/-- a comprehension's block whose element may raise -/
abbrev blkX (X : Cx) (s : Shared) (H : Hp) (scope : Scope) (cenv : Env) (fp : List Addr) (xe : Value → Shared → Prop) : Cx := { X.blk s H scope cenv fp with xe := xe }
section
variable {X : Cx}
theorem lc_coreX {pins : List (Addr × Obj)} {s : Shared} {σ : L2.St} {H : Hp} {Q : VK} {elt tg iter : Expr} {ifs : List Expr} {scope : Scope} {own : List (Str × Nat)} {pos pos' : Pos} {wi : TI} {g : TG} {tt : TT} {te : TE} {Wc : XK} {Qf : Value → Shared → Prop}
    (hst : X.stack = X.env :: X.outer) (hf : X.env.frame = some X.env.locals) (tk : Takes X fun cls d _ H => Wc cls d H) (hc : X.calm = true) (hN : X.N.Nodup) (I : Inv X pins σ H s) (hi : PI X tg iter wi) (ok : BlkOk X.N X.env.scope scope own)
    (hg : ∀ (s : Shared) (H : Hp) (C : Addr) (cl : List (Str × Addr)) (fp : List Addr), PG (X.blk s H scope (compEnvC scope cl C X.env) fp) tg g) (ht : ∀ (s : Shared) (H : Hp) (C : Addr) (cl : List (Str × Addr)) (fp : List Addr), PTs (X.blk s H scope (compEnvC scope cl C X.env) fp) ifs tt)
    (he : ∀ (s : Shared) (H : Hp) (C : Addr) (cl : List (Str × Addr)) (fp : List Addr) (xe : Value → Shared → Prop), (∀ σ', PassesAt (L2.CX X.prog X.w) (blkX X s H scope (compEnvC scope cl C X.env) fp xe) σ' Wc) → PE (blkX X s H scope (compEnvC scope cl C X.env) fp xe) elt te) (hs : ∀ x, foldedSetIterable iter X.env x = pure x)
    (h : tLc wi g tt te (own.map (·.2)) σ H Q)
    (hRR : ∀ D C s' m H', Inv X pins σ H' s' → Q (.ref D) H' → s'.heap.Ns C m → FpOk X pins H' C → ∃ m, s'.heap.Ns C m ∧ ∀ h', Heap.SameBut C s'.heap h' → Qf (.ref D) { s' with heap := h' }) :
    wpAny (model X.prog X.w) X.A (comprehension (.ListComp elt [⟨tg, iter, ifs, 0⟩] scope pos) scope X.env pos' (newList []) false (eval iter X.env) none) Qf X.xe s := by
  have hfree : ∀ y ∈ scope.names, y.2 = .free → ∃ c, X.env.cells.lookup y.1 = some c := fun y hy e => by
    rcases ok.free y hy e with k | k
    · exact I.ok.has _ (.inl k)
    · exact I.ok.has _ (.inr k)
  refine wpAny_comprehension_freeX rfl hs (closure_ok hfree) ok.kind (fun y hy e => by rw [ok.uniq y hy, e])
    (thn (hi.run pins s σ H _ I h) fun xv s1 hx => thn hx fun itv s2 h2 => ?_)
  obtain ⟨it, fp, tn, J, H2, e, I2, T, st2, f2, q⟩ := h2
  subst e
  refine wpAny_newObj_type (newEnv_comp ?_) (by show 0 ≤ sizeLine; decide)
  generalize hD : s2.heap.objs.size = D
  have hDn : H2 D = none := I2.hok.fresh (Nat.le_of_eq hD)
  obtain ⟨W, ⟨m0, w0⟩, turn⟩ := q D hDn
  -- the new list
  generalize hs3 : ({ s2 with heap := s2.heap.push { cls := .type "list", data := .seq ([] : List Value).toArray } } : Shared) = s3
  have I3 : Inv X pins σ (upd H2 D (.lst [])) s3 := by
    rw [← hs3]
    refine I2.laid (t' := s2.toks) (fun b o e => Heap.get?_push_of_some _ e) (Nat.le_of_eq hD) ⟨Nat.zero_le _, [], 0, .nil, ?_⟩
    rw [← hD]
    exact Heap.get?_push_size _ rfl
  have h3 : s3.heap = s2.heap.push { cls := .type "list", data := .seq ([] : List Value).toArray } := by rw [← hs3]
  have sz : ∀ b ∈ fp, b < s2.heap.objs.size := fun b hb => by
    obtain ⟨o, e, _⟩ := T.obj _ _ st2 b hb
    exact Heap.lt_size e
  have f3 : ∀ b ∈ fp, FpOk X pins (upd H2 D (.lst [])) b ∧ b < s3.heap.objs.size := fun b hb => by
    have hlt := sz b hb
    refine ⟨⟨?_, (f2 b hb).2⟩, by rw [h3, Heap.size_push]; exact Nat.lt_succ_of_lt hlt⟩
    rw [upd_ne (by rw [← hD]; exact Nat.ne_of_lt hlt)]
    exact (f2 b hb).1
  have st3 : tn 0 s3.heap := T.keep _ _ _ st2 fun b _ o e => by rw [h3]; exact Heap.get?_push_of_some _ e
  have I4 := block_start I3 ok hN f3
  have pg := hg s3 (upd H2 D (.lst [])) s3.heap.objs.size (cellsFrom (s3.heap.objs.size + 1) scope.names (cloFrom X.env.cells scope.names [])) fp
  have pt := ht s3 (upd H2 D (.lst [])) s3.heap.objs.size (cellsFrom (s3.heap.objs.size + 1) scope.names (cloFrom X.env.cells scope.names [])) fp
  have pe := he s3 (upd H2 D (.lst [])) s3.heap.objs.size (cellsFrom (s3.heap.objs.size + 1) scope.names (cloFrom X.env.cells scope.names [])) fp
  show codeAny _ _ (.compStart (.ListComp elt [⟨tg, iter, ifs, 0⟩] scope pos) 0 (.ref it) (.ref D) (compEnvC scope (cellsFrom (s3.heap.objs.size + 1) scope.names (cloFrom X.env.cells scope.names [])) s3.heap.objs.size X.env)) (compPostX (model X.prog X.w) X.A X.xe Qf (.ref D) (compEnvC scope (cellsFrom (s3.heap.objs.size + 1) scope.names (cloFrom X.env.cells scope.names [])) s3.heap.objs.size X.env)) { s3 with heap := pushCells (s3.heap.push { cls := .type "dict", data := .dict #[] }) scope.names }
  have nfp : ∀ b ∈ fp, (upd H2 D (.lst [])) b = none := fun b hb => (f3 b hb).1.1
  generalize hce : compEnvC scope (cellsFrom (s3.heap.objs.size + 1) scope.names (cloFrom X.env.cells scope.names [])) s3.heap.objs.size X.env = ce at I4 pg pt pe ⊢
  have cL : ce.locals = s3.heap.objs.size := by subst hce; rfl
  have cF : ce.frame = X.env.frame := by subst hce; rfl
  generalize hH3 : upd H2 D (.lst []) = H3 at I3 I4 pg pt pe w0 nfp f3
  generalize hs4 : ({ s3 with heap := pushCells (s3.heap.push { cls := .type "dict", data := .dict #[] }) scope.names } : Shared) = s4 at I4 ⊢
  have st4 : tn 0 s4.heap := T.keep _ _ _ st3 fun b _ o e => by rw [← hs4]; exact pushCells_keeps _ _ _ _ (Heap.get?_push_of_some _ e)
  have stat : ∀ {σ' : L2.St} {H' : Hp} {s' : Shared}, Inv (X.blk s3 H3 scope ce fp) [] σ' H' s' → (∀ b ∈ fp, H' b = none) → ∀ b ∈ fp, FpOk (X.blk s3 H3 scope ce fp) [] H' b := fun {σ' H' s'} I' hn b hb =>
    ⟨hn b hb, (I'.ok.exf b hb).1, I'.ok.exfs b hb, .inl hb, fun x c e => (I'.ok.exf b hb).2 x c e, fun p hp => absurd (show p ∈ ([] : List (Addr × Obj)) ++ [] from hp) (by simp)⟩
  have pe' := pe (notedBy (model X.prog X.w) X.A ce fun e s' => compPostX (model X.prog X.w) X.A X.xe Qf (.ref D) ce (.error e) s') fun σ' pins' H' s' e s'' I' c => by
    have nC : H' s3.heap.objs.size = none := by
      have z : H' ce.locals = none := I'.free
      rw [cL] at z
      exact z
    have hC : ∃ m, s'.heap.Ns s3.heap.objs.size m := by
      obtain ⟨m, hn, _⟩ := I'.loc
      have hn : s'.heap.Ns ce.locals m := hn
      rw [cL] at hn
      exact ⟨m, hn⟩
    have I7 : Inv X pins σ H' s' := I3.call' (ch := fp) I'.os I'.base I'.hok I'.bare fun b hb => ⟨(f3 b hb).1.2.2.2.1, (f3 b hb).1.2.1, (f3 b hb).1.2.2.2.2.1, (f3 b hb).1.2.2.2.2.2⟩
    exact comp_out (ce := ce) hst hf cF cL tk I7 hC nC (I3.fpOk (Nat.le_refl _) nC) (fun hm => by
      rcases List.mem_cons.mp (I3.stkSub _ hm) with z | z
      · exact absurd (I3.lt) (by rw [← z]; exact Nat.lt_irrefl _)
      · exact I3.nofs (Nat.le_refl _) z) c
  have loop : codeAny (model X.prog X.w) X.A (.compLoop (.ListComp elt [⟨tg, iter, ifs, 0⟩] scope pos) 0 (.ref it) (.ref D) ce) (compPostX (model X.prog X.w) X.A X.xe Qf (.ref D) ce) s4 := by
    refine compLoop_any (fun n s' => ∃ i H', Inv (X.blk s3 H3 scope ce fp) [] (wipe σ (own.map (·.2))) H' s' ∧ tn i s'.heap ∧ (∀ b ∈ fp, H' b = none) ∧ W i n H') ?_ m0 ⟨0, H3, I4, st4, nfp, w0⟩
    rintro n s5 ⟨i, H5, I5, st5, n5, w5⟩
    rcases turn i n H5 w5 with ⟨stop, qq⟩ | ⟨go, Nx, hNx, step⟩
    · have td := T.done (X.blk s3 H3 scope ce fp) rfl rfl rfl hc i [] s5 _ H5 (fun _ _ => False) I5 (stat I5 n5) st5 stop
      refine thnF td fun r s6 ⟨hr, I6⟩ => ?_
      subst hr
      -- back in the def's context
      have I7 : Inv X pins σ H5 s6 := I3.call' (ch := fp) I6.os I6.base I6.hok I6.bare fun b hb => ⟨(f3 b hb).1.2.2.2.1, (f3 b hb).1.2.1, (f3 b hb).1.2.2.2.2.1, (f3 b hb).1.2.2.2.2.2⟩
      have nC : H5 s3.heap.objs.size = none := by
        have z : H5 ce.locals = none := I6.free
        rw [cL] at z
        exact z
      obtain ⟨m, hn, _⟩ := I6.loc
      have hn : s6.heap.Ns ce.locals m := hn
      rw [cL] at hn
      show ∃ m, s6.heap.Ns ce.locals m ∧ ∀ h', Heap.SameBut ce.locals s6.heap h' → _
      rw [cL]
      exact hRR D s3.heap.objs.size s6 m H5 I7 qq hn (I3.fpOk (Nat.le_refl _) nC)
    · have ti := T.item (X.blk s3 H3 scope ce fp) rfl rfl rfl hc i [] s5 _ H5 (fun _ _ => False) I5 (stat I5 n5) st5 go
      refine thnF ti fun r s6 ⟨u, hr, h6⟩ => ?_
      subst hr
      refine thnF h6 fun _ s7 ⟨x, H7, I7, r7, y7, st7, n7⟩ => ?_
      have I7' := I7.pinned (stat I7 n7) (T.obj _ _ st7)
      refine thnF (pg.run _ s7 _ H7 x u _ I7' r7 (step x H7 y7)) fun _ s8 ⟨σ8, H8, I8, hw8, q8⟩ => ?_
      refine thnF (pt.run _ s8 σ8 H8 _ I8 q8) fun b s9 ⟨H9, I9, q9⟩ => ?_
      -- the turn's end
      have fin : ∀ {s' : Shared} {H' : Hp}, Inv (X.blk s3 H3 scope ce fp) ([] ++ pinsAt fp s7.heap) σ8 H' s' → Nx H' → ∃ m, m < n ∧ ∃ i H', Inv (X.blk s3 H3 scope ce fp) [] (wipe σ (own.map (·.2))) H' s' ∧ tn i s'.heap ∧ (∀ b ∈ fp, H' b = none) ∧ W i m H' := fun {s' H'} I' nx => by
        obtain ⟨m', hm, w'⟩ := hNx H' nx
        have pin' : ∀ b ∈ fp, ∀ o, s7.heap.get? b = some o → s'.heap.get? b = some o ∧ H' b = none := fun b hb o e =>
          let z := I'.pin (b, o) (List.mem_append_right _ (List.mem_append_right _ (mem_pinsAt hb e)))
          ⟨z.1, z.2.1⟩
        have hl : (wipe σ (own.map (·.2))).length = σ8.length := by rw [← hw8, wipe_length]
        refine ⟨m', hm, i + 1, H', (I'.unpinned (pins := [])).weak hl (fun j v e => ?_), T.keep _ _ _ st7 fun b hb o e => (pin' b hb o e).1, fun b hb => ?_, w'⟩
        · rw [← hw8] at e
          exact (wipe_some e).1
        · obtain ⟨o, e, _⟩ := T.obj _ _ st7 b hb
          exact (pin' b hb o e).2
      cases b with
      | false =>
        simp only [Bool.false_eq_true, if_false] at q9 ⊢
        exact fin I9 q9
      | true =>
        simp only [if_true] at q9 ⊢
        refine wpAny_mono (pe'.run _ s9 σ8 H9 _ (inv_xe I9) q9) (fun z s10 hz => ?_) fun _ _ x => x
        obtain ⟨yv, H10, I10, r10, acc, hD10, hz10, nx⟩ := hz
        exact app_ok (X := X.blk s3 H3 scope ce fp) (inv_ex I10) hD10 hz10 r10 fun s11 I11 => fin I11 nx
  exact codeAny_compStart_list loop (T.self X.A 0 _ _ _ st4 loop)
/-- as a value -/
theorem pe_lcX {elt tg iter : Expr} {ifs : List Expr} {scope : Scope} {own : List (Str × Nat)} {pos : Pos} {wi : TI} {g : TG} {tt : TT} {te : TE} {Wc : XK} (hst : X.stack = X.env :: X.outer) (hf : X.env.frame = some X.env.locals) (tk : Takes X fun cls d _ H => Wc cls d H) (hc : X.calm = true) (hN : X.N.Nodup) (hi : PI X tg iter wi) (ok : BlkOk X.N X.env.scope scope own)
    (hg : ∀ (s : Shared) (H : Hp) (C : Addr) (cl : List (Str × Addr)) (fp : List Addr), PG (X.blk s H scope (compEnvC scope cl C X.env) fp) tg g) (ht : ∀ (s : Shared) (H : Hp) (C : Addr) (cl : List (Str × Addr)) (fp : List Addr), PTs (X.blk s H scope (compEnvC scope cl C X.env) fp) ifs tt)
    (he : ∀ (s : Shared) (H : Hp) (C : Addr) (cl : List (Str × Addr)) (fp : List Addr) (xe : Value → Shared → Prop), (∀ σ', PassesAt (L2.CX X.prog X.w) (blkX X s H scope (compEnvC scope cl C X.env) fp xe) σ' Wc) → L2.PE (blkX X s H scope (compEnvC scope cl C X.env) fp xe) elt te) (hs : ∀ x, foldedSetIterable iter X.env x = pure x := by intro _; rfl) :
    L2.PE X (.ListComp elt [⟨tg, iter, ifs, 0⟩] scope pos) (tLc wi g tt te (own.map (·.2))) := by
  refine ⟨fun pins s σ H Q I h => ?_⟩
  rw [eval_ListComp]
  refine lc_coreX hst hf tk hc hN I hi ok hg ht he hs h fun D C s' m H' I' q hn f => ⟨m, hn, fun h'' sb => ?_⟩
  obtain ⟨f0, f1, f2, f3, f4, f5⟩ := f
  exact ⟨.ref D, H', I'.turned (t' := s'.toks) (fun b o hb e => (sb.2 b hb).trans e) f0 f1 f3 f4 f5, rfl, q⟩
end
end LCX
namespace LL
open PySem PySem.Spec PyProof.Rows L2 He Evl ND
/-! ### trees in the heap, and the rows that may stand -/
theorem pcF {X : Cx} {P : Program} {w : World} : Passes (L2.CX P w) X (fun _ _ _ => False) := fun _ _ _ _ _ _ _ h => by
  obtain ⟨_, _, _, _, _, _, _, _, _, _, _, _, h⟩ := h
  exact h.elim
section
variable {X : Cx} {e : Expr} {p pos : Pos} {ta : TA}
theorem pmk_TooLarge (T : Txt X.K X.mg) (hr : Room 2 X.A) (ha : PA X [e] ta) (hP : X.prog = PR := by rfl) (hg : Gl X "TooLarge" := by rfl) (he : starEach [e] X.env = (false, eval e X.env) :: starEach [] X.env := by rfl) : PMk X (.Call (.Name "TooLarge" p) [e] [] pos) (tMkS (ga X.K "TooLarge") "what" ta) :=
  pmk_sup (by rw [hP]; exact T.s_TooLarge) T.f_super hr hg T.g_TooLarge ha (by decide) he
end
section
variable {w : World} {K : PySem.W.Frag} {mg : Str → Option Value} {base : Heap}
mutual
inductive TrAt (K : PySem.W.Frag) (B : Hp) : V → Tr → Prop
  | fin {x dx : Addr} {pd : Int} (h : B x = some (.ins (ga K "End") dx [("paid", .int pd)])) : TrAt K B (.ref x) (.fin pd)
  | lot {x dx a : Addr} {vs : List V} {ps : List Tr} (h : B x = some (.ins (ga K "Lot") dx [("parts", .ref a)])) (ha : SqT K B a vs) (hp : TrsAt K B vs ps) : TrAt K B (.ref x) (.lot ps)
  | mov {x dx a b : Addr} {c : Bool} {v : List Evt} {vs : List V} {ps : List Tr} (h : B x = some (.ins (ga K "Move") dx [("seat", .str (seatS c)), ("view", .ref b), ("parts", .ref a)])) (hb : VwAt K B b v) (ha : SqT K B a vs) (hp : TrsAt K B vs ps) : TrAt K B (.ref x) (.mov c v ps)
inductive TrsAt (K : PySem.W.Frag) (B : Hp) : List V → List Tr → Prop
  | nil : TrsAt K B [] []
  | cons {v : V} {t : Tr} {vs : List V} {ts : List Tr} (h : TrAt K B v t) (hr : TrsAt K B vs ts) : TrsAt K B (v :: vs) (t :: ts)
end
mutual
theorem TrAt.mono {B B2 : Hp} (e : Ex B B2) : ∀ {v : V} {t : Tr}, TrAt K B v t → TrAt K B2 v t
  | _, _, .fin h => .fin (e _ _ h)
  | _, _, .lot h ha hp => .lot (e _ _ h) (ex_t e ha) (TrsAt.mono e hp)
  | _, _, .mov h hb ha hp => .mov (e _ _ h) (hb.mono e) (ex_t e ha) (TrsAt.mono e hp)
theorem TrsAt.mono {B B2 : Hp} (e : Ex B B2) : ∀ {vs : List V} {ts : List Tr}, TrsAt K B vs ts → TrsAt K B2 vs ts
  | _, _, .nil => .nil
  | _, _, .cons h hr => .cons (TrAt.mono e h) (TrsAt.mono e hr)
end
theorem TrsAt.snoc {B : Hp} : ∀ {vs : List V} {ts : List Tr} {v : V} {t : Tr}, TrsAt K B vs ts → TrAt K B v t → TrsAt K B (vs ++ [v]) (ts ++ [t])
  | _, _, _, _, .nil, h => .cons h .nil
  | _, _, _, _, .cons h1 h2, h => .cons h1 (TrsAt.snoc h2 h)
theorem TrsAt.len {B : Hp} : ∀ {vs : List V} {ts : List Tr}, TrsAt K B vs ts → vs.length = ts.length
  | _, _, .nil => rfl
  | _, _, .cons _ h => by rw [List.length_cons, List.length_cons, TrsAt.len h]
mutual
def wfS (xs : List Str) : Stm → Prop
  | .set x e => x ∈ xs ∧ wfE xs e ∧ dpE e ≤ 7
  | .draw x n => x ∈ xs ∧ n ≤ 1000
  | .move _ x n _ => x ∈ xs ∧ n ≤ 1000
  | .shw _ e => wfE xs e ∧ dpE e ≤ 7
  | .pay _ e => wfE xs e ∧ dpE e ≤ 7
  | .ite e a b => (wfE xs e ∧ dpE e ≤ 7) ∧ wfB xs a ∧ wfB xs b
def wfB (xs : List Str) : List Stm → Prop
  | [] => True
  | s :: r => wfS xs s ∧ wfB xs r
end
theorem wfB_app {xs : List Str} : ∀ {a b : List Stm}, wfB xs a → wfB xs b → wfB xs (a ++ b)
  | [], b, _, h => h
  | s :: a, b, h, h2 => by
    rw [wfB] at h
    rw [List.cons_append, wfB]
    exact ⟨h.1, wfB_app h.2 h2⟩
structure GmOk (xs : List Str) (zs t : Tbl) (S : List Stm) (vw : Vws) : Prop where
  hz : zs.map (·.1) = xs
  ht : t.map (·.1) = xs
  ok : TblOk t
  z1 : ∀ x ∈ xs, 1 ≤ LL.tGet zs x ∧ LL.tGet zs x ≤ 65535
  wf : wfB xs S
  hv : vw.1.length + vw.2.length + 2 * szB S ≤ 900
  n : t.length ≤ 100
def spEndI (K : PySem.W.Frag) : Sp := fun us H Q _ => ∃ (x dx : Addr) (pd : Int), us = [.ref x, .int pd] ∧ H x = some (.ins (ga K "End") dx []) ∧ Q .non (upd H x (.ins (ga K "End") dx [("paid", .int pd)]))
theorem fn_End_init (T : Txt K mg) : Fn P w K mg base 1 (ma K (ga K "End") "__init__") (spEndI K) := by
  refine fn_def T.d_End_init sc_End_init (fun _ _ _ _ _ _ us hl => match us, hl with | [_, _], _ => rfl) (fun vs H Q E h => ?_) (fun cdv A outer s H vs Q E hr h => ?_)
  · obtain ⟨_, _, _, rfl, _⟩ := h
    rfl
  obtain ⟨x, dx, pd, rfl, hx, k⟩ := h
  have nd := sc_End_init.nd
  refine ⟨_, pss_one (ps_fld (pv 0) (pv 1) rfl), ?_⟩
  exact ⟨_, rfl, _, rfl, x, _, dx, _, rfl, hx, T.c_End, T.a_End_paid, (show 0 < 1000 by decide), k⟩
def spLotI (K : PySem.W.Frag) : Sp := fun us H Q _ => ∃ (x dx a : Addr), us = [.ref x, .ref a] ∧ H x = some (.ins (ga K "Lot") dx []) ∧ Q .non (upd H x (.ins (ga K "Lot") dx [("parts", .ref a)]))
theorem fn_Lot_init (T : Txt K mg) : Fn P w K mg base 1 (ma K (ga K "Lot") "__init__") (spLotI K) := by
  refine fn_def T.d_Lot_init sc_Lot_init (fun _ _ _ _ _ _ us hl => match us, hl with | [_, _], _ => rfl) (fun vs H Q E h => ?_) (fun cdv A outer s H vs Q E hr h => ?_)
  · obtain ⟨_, _, _, rfl, _⟩ := h
    rfl
  obtain ⟨x, dx, a, rfl, hx, k⟩ := h
  have nd := sc_Lot_init.nd
  refine ⟨_, pss_one (ps_fld (pv 0) (pv 1) rfl), ?_⟩
  exact ⟨_, rfl, _, rfl, x, _, dx, _, rfl, hx, T.c_Lot, T.a_Lot_parts, (show 0 < 1000 by decide), k⟩
def spMoveI (K : PySem.W.Frag) : Sp := fun us H Q _ => ∃ (x dx b a : Addr) (s : Str), us = [.ref x, .str s, .ref b, .ref a] ∧ H x = some (.ins (ga K "Move") dx []) ∧ Q .non (upd H x (.ins (ga K "Move") dx [("seat", .str s), ("view", .ref b), ("parts", .ref a)]))
theorem fn_Move_init (T : Txt K mg) : Fn P w K mg base 1 (ma K (ga K "Move") "__init__") (spMoveI K) := by
  refine fn_def T.d_Move_init sc_Move_init (fun _ _ _ _ _ _ us hl => match us, hl with | [_, _, _, _], _ => rfl) (fun vs H Q E h => ?_) (fun cdv A outer s H vs Q E hr h => ?_)
  · obtain ⟨_, _, _, _, _, rfl, _⟩ := h
    rfl
  obtain ⟨x, dx, b, a, sn, rfl, hx, k⟩ := h
  have nd := sc_Move_init.nd
  refine ⟨_, pss_cons (ps_fld (pv 0) (pv 1) rfl)
      (pss_cons (ps_fld (pv 0) (pv 2) rfl)
      (pss_one (ps_fld (pv 0) (pv 3) rfl))), ?_⟩
  refine ⟨_, rfl, _, rfl, x, _, dx, _, rfl, hx, T.c_Move, T.a_Move_seat, (show 0 < 1000 by decide), ?_⟩
  refine ⟨_, rfl, _, rfl, x, _, dx, _, rfl, upd_same, T.c_Move, T.a_Move_view, (show 1 < 1000 by decide), ?_⟩
  refine ⟨_, rfl, _, rfl, x, _, dx, _, rfl, upd_same, T.c_Move, T.a_Move_parts, (show 2 < 1000 by decide), ?_⟩
  rw [upd_twice, upd_twice]
  exact k
def BldAt (K : PySem.W.Frag) (H : Hp) (pb dx ts : Addr) (c : Nat) : Prop := H pb = some (.ins (ga K "Builder") dx [("sizes", .ref ts), ("count", .int (c : Nat))])
/-- what a node's making comes to: a tree and the count behind it, or TooLarge -/
def Made (K : PySem.W.Frag) (pb dx ts : Addr) (B H : Hp) (r : Option (Tr × Nat)) (Q : VK) (E : XK) : Prop :=
  (∀ tr c2 v B2 H2, r = some (tr, c2) → Stp [pb] B H B2 H2 → BldAt K H2 pb dx ts c2 → TrAt K B2 v tr → Q v H2) ∧
  (r = none → ∀ H2 d, Ex B H2 → H2 d = some (.xd [("what", .str "nodes")]) → E (.ref (ga K "TooLarge")) (some d) H2)
theorem Made.step {pb dx ts : Addr} {B H B1 H1 : Hp} {r : Option (Tr × Nat)} {Q : VK} {E : XK} (m : Made K pb dx ts B H r Q E) (s : Stp [pb] B H B1 H1) : Made K pb dx ts B1 H1 r Q E :=
  ⟨fun tr c2 v B2 H2 h1 h2 h3 h4 => m.1 tr c2 v B2 H2 h1 (s.trans h2) h3 h4, fun h1 H2 d e h2 => m.2 h1 H2 d (s.base.trans e) h2⟩
def spNode (K : PySem.W.Frag) (d : Nat) : Sp := fun us H Q E => ∃ (pb dx ts : Addr) (wv q : V) (B : Hp) (zs t : Tbl) (vw : Vws) (pd : Int) (S : List Stm) (c f : Nat) (xs : List Str),
  us = [.ref pb, wv, q] ∧ Ex B H ∧ B pb = none ∧ BldAt K H pb dx ts c ∧ B ts = some (.dK (tK zs)) ∧ WayAt K B wv t vw pd ∧ PendAt K B q S ∧ GmOk xs zs t S vw ∧ nbB S ≤ d ∧ szB S < f ∧ Made K pb dx ts B H (nodeT zs f t vw pd S c) Q E
/-- the parts that a draw or a move has -/
def brT (zs : Tbl) (f : Nat) (t : Tbl) (vw : Vws) (pd : Int) (S : List Stm) (c : Nat) : Stm → Option (Tr × Nat)
  | .draw x n => (partsF (fun i c => nodeT zs f (LL.tPut t x (i % LL.tGet zs x)) vw pd S c) n 0 c).map fun p => (.lot p.1, p.2)
  | .move b x n k => (partsF (fun i c => nodeT zs f (LL.tPut t x (i % LL.tGet zs x)) (vAdd b ("did", [i]) (vAdd b ("asked", [k, n]) vw)) pd S c) n 0 c).map fun p => (.mov b (vGet b (vAdd b ("asked", [k, n]) vw)) p.1, p.2)
  | _ => none
def isBr : Stm → Prop
  | .draw _ _ => True
  | .move _ _ _ _ => True
  | _ => False
def spBr (K : PySem.W.Frag) (d : Nat) : Sp := fun us H Q E => ∃ (pb dx ts : Addr) (wv rv q : V) (B : Hp) (zs t : Tbl) (vw : Vws) (pd : Int) (s : Stm) (S : List Stm) (c f : Nat) (xs : List Str),
  us = [.ref pb, wv, rv, q] ∧ Ex B H ∧ B pb = none ∧ BldAt K H pb dx ts c ∧ B ts = some (.dK (tK zs)) ∧ WayAt K B wv t vw pd ∧ Dp K B rv (stD s) ∧ PendAt K B q S ∧ GmOk xs zs t (s :: S) vw ∧ isBr s ∧ nbB S + 1 ≤ d ∧ szB S < f ∧ Made K pb dx ts B H (brT zs f t vw pd S c s) Q E
end
end LL
namespace LL
open PySem PySem.Spec PyProof.Rows L2 He Evl ND
/-! ### drawn statements -/
theorem PoolN.stp {ms : List Addr} {n : Int} {p : Addr} {B H B2 H2 : Hp} (h : PoolN n p B H) (a : Stp ms B H B2 H2) (m : p ∉ ms) : PoolN n p B2 H2 := by
  obtain ⟨o, ho⟩ := h.at
  exact h.of a.base ((a.fr _ _ m ho).trans ho.symm)
section
variable {w : World} {K : PySem.W.Frag} {mg : Str → Option Value} {base : Heap}
/-- one of a tuple, drawn -/
theorem pick_t {σ : L2.St} {H : Hp} {Q : VK} {E : XK} {tt : TA} {ti : TE} {p : Addr} {B : Hp} {u : Int} {xs : List V} {n : Int} (e : Ex B H) (hb : B p = none) (hP : PoolN u p B H) (ht : ∀ H (Q' : List V → Hp → Prop), Q' xs H → tt σ H Q') (hi : ∀ H Q', spDraw [.ref p, .int n] H Q' E → ti σ H Q')
    (hn : (xs.length : Int) = n) (h0 : 0 < n) (h1 : n ≤ 1000)
    (k : ∀ (y : V) (H2 : Hp), y ∈ xs → Stp [p] B H B H2 → PoolN u p B H2 → Q y H2) : tOp (rIxT K) (tTup tt) ti σ H Q := by
  have hz : xs.length ≤ sizeLine := by
    have h : (1000 : Nat) ≤ sizeLine := by decide
    omega
  refine ht _ _ ⟨hz, fun t nt => hi _ _ ?_⟩
  have s1 := Stp.cell (ms := [p]) (o := .tup xs) e nt
  have hP1 := PoolN.n1 (o := .tup xs) hP nt
  have htp : t ≠ p := hP.ne nt
  refine draw_n s1.in_ hb hP1 h0 (by omega) fun r H3 b0 b1 s3 hP3 => ?_
  obtain ⟨y, ey, my, _⟩ := at_get (xs := xs) b0 (by omega)
  exact ⟨t, _, _, _, rfl, rfl, st_of (s3.fr t _ (by simpa using htp) upd_same), ey, k y H3 my (s1.trans s3) hP3⟩
/-- one of the names, drawn -/
theorem name_t {σ : L2.St} {H : Hp} {Q : VK} {E : XK} {ta ti : TE} {p a : Addr} {B : Hp} {u : Int} {ns : List Str} (e : Ex B H) (hb : B p = none) (hP : PoolN u p B H) (ha : B a = some (.lst (ns.map V.str))) (h0 : 0 < ns.length) (hl : ns.length ≤ 63)
    (ht : ∀ Q' : VK, Q' (.ref a) H → ta σ H Q') (hi : ∀ Q', SqL K H a (ns.map V.str) → spDraw [.ref p, .int ((ns.map V.str).length : Int)] H Q' E → ti σ H Q')
    (k : ∀ (z : Str) (H2 : Hp), z ∈ ns → Stp [p] B H B H2 → PoolN u p B H2 → Q (.str z) H2) : tOp (rIxL K) ta ti σ H Q := by
  refine ht _ (hi _ (SqL.of (e _ _ ha)) ?_)
  refine draw_n e hb hP (by rw [List.length_map]; omega) (by rw [List.length_map]; omega) fun r H3 b0 b1 s3 hP3 => ?_
  obtain ⟨y, ey, my, _⟩ := at_get (xs := ns.map V.str) b0 b1
  obtain ⟨z, hz, rfl⟩ := List.mem_map.mp my
  exact ⟨a, _, _, _, rfl, rfl, SqL.of (s3.in_ _ _ ha), ey, k z H3 hz s3 hP3⟩

def scL (a : Addr) (ch co dr mo m : Int) : List (Key × V) := [(.inr "names", .ref a), (.inr "choose", .int ch), (.inr "come", .int co), (.inr "draw", .int dr), (.inr "most", .int mo), (.inr "next", .int m)]
def Scp (q a : Addr) (ns : List Str) (mo : Int) (B H : Hp) : Prop := ∃ (ch co dr : Int) (m : Nat), H q = some (.dK (scL a ch co dr mo (m : Nat))) ∧ B a = some (.lst (ns.map V.str)) ∧ B q = none ∧ 1 ≤ mo ∧ mo ≤ 8
theorem Scp.stp {q a : Addr} {ns : List Str} {mo : Int} {ms : List Addr} {B H B2 H2 : Hp} (h : Scp q a ns mo B H) (s : Stp ms B H B2 H2) (n : q ∉ ms) : Scp q a ns mo B2 H2 := by
  obtain ⟨ch, co, dr, m, h1, h2, h3, h4⟩ := h
  exact ⟨ch, co, dr, m, s.fr _ _ n h1, s.base _ _ h2, s.off h3 h1, h4⟩
theorem Scp.nep {p q a : Addr} {ns : List Str} {mo u : Int} {B H : Hp} (h : Scp q a ns mo B H) (hP : PoolN u p B H) : q ≠ p := fun z => by
  obtain ⟨_, _, _, _, h1, _⟩ := h
  obtain ⟨_, h2, _⟩ := hP
  rw [z, h2] at h1
  cases h1
theorem sc_word {a : Addr} {ch co dr mo m : Int} {s : Str} (hs : s = "choose" ∨ s = "come" ∨ s = "draw") : ∃ c : Int, valV (scL a ch co dr mo m) (.inr s) = some (.int c) ∧ ∃ ch' co' dr' : Int, putK (scL a ch co dr mo m) (.inr s) (.int (c - 1)) = scL a ch' co' dr' mo m := by
  rcases hs with rfl | rfl | rfl
  · exact ⟨ch, rfl, ch - 1, co, dr, rfl⟩
  · exact ⟨co, rfl, ch, co - 1, dr, rfl⟩
  · exact ⟨dr, rfl, ch, co, dr - 1, rfl⟩
/-- what a drawn row is, with the budget behind it -/
def IsS (ns : List Str) (u u2 : Int) (d : PyData) : Prop := ∃ st, d = stD st ∧ wfS ns st ∧ szS st + u2.toNat ≤ 1 + u.toNat
def IsBk (ns : List Str) (u u2 : Int) (ds : List PyData) : Prop := ∃ S, ds = blD S ∧ wfB ns S ∧ szB S + u2.toNat ≤ u.toNat
def spStmt (K : PySem.W.Frag) (r : Nat) : Sp := fun vs H Q _ => ∃ (B : Hp) (p q a : Addr) (ns : List Str) (mo u : Int), vs = [.ref p, .ref q, .int (r : Int)] ∧ Ex B H ∧ B p = none ∧ PoolN u p B H ∧ Scp q a ns mo B H ∧ ns.length ≤ 63 ∧
  ∀ (v : V) (B2 H2 : Hp) (d : PyData) (u2 : Int), Stp [p, q] B H B2 H2 → PoolN u2 p B2 H2 → Scp q a ns mo B2 H2 → Dp K B2 v d → IsS ns u u2 d → Q v H2
def spBlock (K : PySem.W.Frag) (r : Nat) : Sp := fun vs H Q _ => ∃ (B : Hp) (p q a : Addr) (ns : List Str) (mo u ml : Int), vs = [.ref p, .ref q, .int (r : Int), .int ml] ∧ Ex B H ∧ B p = none ∧ PoolN u p B H ∧ Scp q a ns mo B H ∧ ns.length ≤ 63 ∧ 0 ≤ ml ∧ ml ≤ 9 ∧
  ∀ (v : V) (B2 H2 : Hp) (ds : List PyData) (u2 : Int), Stp [p, q] B H B2 H2 → PoolN u2 p B2 H2 → Scp q a ns mo B2 H2 → Dp K B2 v (.tuple ds) → IsBk ns u u2 ds → Q v H2
def spBlockP (K : PySem.W.Frag) : Nat → Sp
  | 0 => fun _ _ _ _ => False
  | r + 1 => spBlock K r
theorem w1 {p q : Addr} : ∀ x ∈ [p], x ∈ [p, q] := by simp
theorem val_s {p a : Addr} {B H : Hp} {ns : List Str} {n : Nat} {u : Int} {Q : VK} {E : XK} (hi : n ≤ 2) (e : Ex B H) (hb : B p = none) (hP : PoolN u p B H) (ha : B a = some (.lst (ns.map V.str))) (hl : ns.length ≤ 63)
    (k : ∀ (v : V) (B2 H2 : Hp) (x : Exq), Stp [p] B H B2 H2 → PoolN u p B2 H2 → Dp K B2 v (exD x) → wfE ns x → dpE x ≤ 7 → Q v H2) : spValueA K [.ref p, .ref a, .int (n : Nat)] H Q E :=
  ⟨n, hi, B, p, .ref a, ns, u, rfl, e, hb, hP, .lst (SqL.of ha) (dpa_strs ns), hl, fun v B2 H2 d s1 hP2 hd ⟨x, h1, h2, h3⟩ => k v B2 H2 x s1 hP2 (by rw [← h1]; exact hd) h2 (by omega)⟩
theorem deep_s {p a : Addr} {B H : Hp} {ns : List Str} {u : Int} {Q : VK} {E : XK} (e : Ex B H) (hb : B p = none) (hP : PoolN u p B H) (ha : B a = some (.lst (ns.map V.str))) (hl : ns.length ≤ 63)
    (k : ∀ (v : V) (B2 H2 : Hp) (x : Exq), Stp [p] B H B2 H2 → PoolN u p B2 H2 → Dp K B2 v (exD x) → wfE ns x → dpE x ≤ 7 → Q v H2) : spDeep K 4 [.ref p, .ref a, .int 4] H Q E :=
  ⟨B, p, .ref a, ns, u, rfl, e, hb, hP, .lst (SqL.of ha) (dpa_strs ns), hl, fun v B2 H2 d s1 hP2 hd ⟨x, h1, h2, h3⟩ => k v B2 H2 x s1 hP2 (by rw [← h1]; exact hd) h2 (by omega)⟩
theorem fn_stmt (T : Txt K mg) (r : Nat) (IH : Fn P w K mg base (18 + 2 * r) (ga K "_law_block") (spBlockP K r)) : Fn P w K mg base (18 + 2 * r + 1) (ga K "_law_statement") (spStmt K r) := by
  refine fn_def T.d_l_statement sc_l_statement (fun _ _ _ _ _ _ us hl => match us, hl with | [_, _, _], _ => rfl) (fun vs H Q E h => ?_) (fun cdv A outer s H vs Q E hr h => ?_)
  · obtain ⟨B, p, q, a, ns, b, m, rfl, _⟩ := h
    rfl
  obtain ⟨B, p, q, a, ns, mo, u, rfl, e, hb, hP, hS, hl, k⟩ := h
  have nd := sc_l_statement.nd
  have hr1 : Room 1 _ := hr.mono (by omega)
  have hr5 : Room 5 _ := hr.mono (by omega)
  have hr16 : Room 16 _ := hr.mono (by omega)
  have hbig : (100000 : Nat) ≤ sizeLine := by decide
  refine ⟨_, pss_cons (ps_set (i := 3) nd rfl (by first | exact Or.inl rfl | exact Or.inr rfl) (pe_fn T.d_l_draw (fn_l_draw T) hr1 T.g_l_draw pc (pa_cons (pv 0) (pa_cons (pe_int) pa_nil))))
      (pss_cons (ps_set (i := 4) nd rfl (by first | exact Or.inl rfl | exact Or.inr rfl) (pe_dget (hu_of hr) (pv 1) (pe_str) (fun _ _ => rfl)))
      (Evl.pss_cut (ps_if (PW.pt (pw_and (pt_cmpR op_lt (pv 3) (pe_int) (nomark _)) (pw_and1 (pt_cmpR op_gt (pe_callB call_len_seq (by rfl) T.f_len PySem.boot_len (pa_cons (pv 4) pa_nil)) (pe_int) (nomark _))))) (pss_cons (ps_set (i := 5) nd rfl (by first | exact Or.inl rfl | exact Or.inr rfl) (pe_ix ix_tup (pe_tup (pa_cons (pe_str) (pa_cons (pe_str) (pa_cons (pe_str) (pa_cons (pe_str) (pa_cons (pe_str) (pa_cons (pe_str) pa_nil))))))) (pv 3) (fun _ _ => rfl)))
      (pss_one (ps_if (pt_cmpR op_gt (pe_dget (hu_of hr) (pv 1) (pv 5) (fun _ _ => rfl)) (pe_int) (nomark _)) (pss_cons (ps_dput (hu_of hr) (pv 1) (pv 5) (pe_op op_sub (pe_dget (hu_of hr) (pv 1) (pv 5) (fun _ _ => rfl)) (pe_int)) rfl)
      (pss_cons (ps_set (i := 6) nd rfl (by first | exact Or.inl rfl | exact Or.inr rfl) (pe_tup (pa_cons (pv 5) (pa_cons (pe_ix ix_list (pv 4) (pe_fn T.d_l_draw (fn_l_draw T) hr1 T.g_l_draw pc (pa_cons (pv 0) (pa_cons (pe_callB call_len_seq (by rfl) T.f_len PySem.boot_len (pa_cons (pv 4) pa_nil)) pa_nil))) (fun _ _ => rfl)) (pa_cons (pe_op op_add (pe_int) (pe_fn T.d_l_draw (fn_l_draw T) hr1 T.g_l_draw pc (pa_cons (pv 0) (pa_cons (pe_dget (hu_of hr) (pv 1) (pe_str) (fun _ _ => rfl)) pa_nil)))) pa_nil)))))
      (pss_cons (ps_if (pt_cmpR op_eq (pv 5) (pe_str) (nomark _)) (pss_one (ps_ret (pv 6))) (pss_nil))
      (pss_cons (ps_dput (hu_of hr) (pv 1) (pe_str) (pe_op op_add (pe_dget (hu_of hr) (pv 1) (pe_str) (fun _ _ => rfl)) (pe_int)) rfl)
      (pss_one (ps_ret (pe_op op_catT (pv 6) (pe_tup (pa_cons (pe_op op_sub (pe_dget (hu_of hr) (pv 1) (pe_str) (fun _ _ => rfl)) (pe_int)) pa_nil))))))))) (pss_nil)))) (pss_nil))
      (Evl.pss_cut (ps_if (PW.pt (pw_and (pt_cmpR op_lt (pv 3) (pe_int) (nomark _)) (pw_and1 (pt_cmpR op_gt (pv 2) (pe_int) (nomark _))))) (pss_cons (ps_set (i := 7) nd rfl (by first | exact Or.inl rfl | exact Or.inr rfl) (pe_fn T.d_l_value (fn_l_valueA T) hr5 T.g_l_value pc (pa_cons (pv 0) (pa_cons (pv 4) (pa_cons (pe_int) pa_nil)))))
      (pss_cons (ps_set (i := 8) nd rfl (by first | exact Or.inl rfl | exact Or.inr rfl) (pe_fn T.d_l_block IH hr T.g_l_block pc (pa_cons (pv 0) (pa_cons (pv 1) (pa_cons (pe_op op_sub (pv 2) (pe_int)) (pa_cons (pe_int) pa_nil))))))
      (pss_one (ps_ret (pe_tup (pa_cons (pe_str) (pa_cons (pv 7) (pa_cons (pv 8) (pa_cons (pe_fn T.d_l_block IH hr T.g_l_block pc (pa_cons (pv 0) (pa_cons (pv 1) (pa_cons (pe_op op_sub (pv 2) (pe_int)) (pa_cons (pe_int) pa_nil))))) pa_nil))))))))) (pss_nil))
      (Evl.pss_cut (ps_if (PW.pt (pw_and (pt_cmpR op_eq (pv 3) (pe_int) (nomark _)) (pw_and1 (pt_cmpR op_gt (pe_callB call_len_seq (by rfl) T.f_len PySem.boot_len (pa_cons (pv 4) pa_nil)) (pe_int) (nomark _))))) (pss_one (ps_ret (pe_tup (pa_cons (pe_str) (pa_cons (pe_ix ix_list (pv 4) (pe_fn T.d_l_draw (fn_l_draw T) hr1 T.g_l_draw pc (pa_cons (pv 0) (pa_cons (pe_callB call_len_seq (by rfl) T.f_len PySem.boot_len (pa_cons (pv 4) pa_nil)) pa_nil))) (fun _ _ => rfl)) (pa_cons (pe_fn T.d_l_value (fn_l_valueA T) hr5 T.g_l_value pc (pa_cons (pv 0) (pa_cons (pv 4) (pa_cons (pe_int) pa_nil)))) pa_nil)))))) (pss_nil))
      (pss_cons (ps_if (pt_cmpR op_lt (pv 3) (pe_int) (nomark _)) (pss_one (ps_ret (pe_tup (pa_cons (pe_str) (pa_cons (pe_ix ix_tup (pe_tup (pa_cons (pe_str) (pa_cons (pe_str) pa_nil))) (pe_fn T.d_l_draw (fn_l_draw T) hr1 T.g_l_draw pc (pa_cons (pv 0) (pa_cons (pe_int) pa_nil))) (fun _ _ => rfl)) (pa_cons (pe_fn T.d_l_value (fn_l_valueA T) hr5 T.g_l_value pc (pa_cons (pv 0) (pa_cons (pv 4) (pa_cons (pe_int) pa_nil)))) pa_nil)))))) (pss_nil))
      (pss_cons (ps_if (pt_cmpR op_eq (pe_fn T.d_l_draw (fn_l_draw T) hr1 T.g_l_draw pc (pa_cons (pv 0) (pa_cons (pe_int) pa_nil))) (pe_int) (nomark _)) (pss_one (ps_ret (pe_tup (pa_cons (pe_ix ix_tup (pe_tup (pa_cons (pe_str) (pa_cons (pe_str) pa_nil))) (pe_fn T.d_l_draw (fn_l_draw T) hr1 T.g_l_draw pc (pa_cons (pv 0) (pa_cons (pe_int) pa_nil))) (fun _ _ => rfl)) (pa_cons (pe_fn T.d_l_deep (fn_l_deep T) hr16 T.g_l_deep pc (pa_cons (pv 0) (pa_cons (pv 4) (pa_cons (pe_int) pa_nil)))) pa_nil))))) (pss_nil))
      (pss_one (ps_ret (pe_tup (pa_cons (pe_ix ix_tup (pe_tup (pa_cons (pe_str) (pa_cons (pe_str) (pa_cons (pe_str) pa_nil)))) (pe_fn T.d_l_draw (fn_l_draw T) hr1 T.g_l_draw pc (pa_cons (pv 0) (pa_cons (pe_int) pa_nil))) (fun _ _ => rfl)) (pa_cons (pe_fn T.d_l_value (fn_l_valueA T) hr5 T.g_l_value pc (pa_cons (pv 0) (pa_cons (pv 4) (pa_cons (pe_int) pa_nil)))) pa_nil))))))))))), ?_⟩
  have hqp : q ≠ p := hS.nep hP
  have hqn : q ∉ [p] := by simpa using hqp
  refine ⟨_, rfl, ?_⟩
  dsimp only [tCons, tNil, tC]
  refine draw_n e hb hP (by decide) (by decide) fun kd H1 a0 a1 s1 hP1 => ?_
  have hS1 := hS.stp s1 hqn
  have s1 := s1.wk (w1 (q := q))
  clear hP hS
  obtain ⟨ch, co, dr, m, hq1, ha, _, hmo⟩ := id hS1
  refine ⟨_, rfl, q, _, rfl, DGet.k (k := .inr "names") hq1, ?_⟩
  have leaf : ∀ {st : Stm} {v : V} {B2 H2 : Hp}, Stp [p, q] B H B2 H2 → PoolN u p B2 H2 → Scp q a ns mo B2 H2 → Dp K B2 v (stD st) → wfS ns st → szS st = 1 → Q v H2 := fun s2 h2 h3 h4 h5 h6 => k _ _ _ _ u s2 h2 h3 h4 ⟨_, rfl, h5, by omega⟩
  refine ⟨fun σ H' => ∃ v5 : Option V, Stp [p, q] B H B H' ∧ PoolN u p B H' ∧ Scp q a ns mo B H' ∧ σ = [some (.ref p), some (.ref q), some (.int (r : Int)), some (.int kd), some (.ref a), v5, none, none, none], ?_, ?_⟩
  · have en : ∃ v5 : Option V, Stp [p, q] B H B H1 ∧ PoolN u p B H1 ∧ Scp q a ns mo B H1 ∧ [some (V.ref p), some (.ref q), some (.int (r : Int)), some (.int kd), some (.ref a), none, none, none, none] = [some (.ref p), some (.ref q), some (.int (r : Int)), some (.int kd), some (.ref a), v5, none, none, none] := ⟨none, s1, hP1, hS1, rfl⟩
    have sx := SqL.of (K := K) (s1.in_ _ _ ha)
    refine ⟨_, rfl, _, _, rfl, rfl, _, rfl, ite2 (fun c1 => ?_) fun c1 => iteF en⟩
    refine ⟨_, rfl, a, _, rfl, .inl sx, _, _, rfl, rfl, _, rfl, ite2 (fun c2 => ?_) fun c2 => en⟩
    have hl0 : 0 < ns.length := by
      have := of_decide_eq_true c2
      rw [List.length_map] at this
      omega
    have hk6 : kd < 6 := of_decide_eq_true c1
    obtain ⟨y, ey, my, _⟩ := at_get (xs := [V.str "choose", V.str "come", V.str "draw", V.str "choose", V.str "come", V.str "choose"]) a0 (by show kd < 6; exact hk6)
    obtain ⟨wd, rfl, hw⟩ : ∃ wd : Str, y = V.str wd ∧ (wd = "choose" ∨ wd = "come" ∨ wd = "draw") := by
      simp only [List.mem_cons, List.not_mem_nil, or_false] at my
      rcases my with rfl | rfl | rfl | rfl | rfl | rfl
      · exact ⟨_, rfl, .inl rfl⟩
      · exact ⟨_, rfl, .inr (.inl rfl)⟩
      · exact ⟨_, rfl, .inr (.inr rfl)⟩
      · exact ⟨_, rfl, .inl rfl⟩
      · exact ⟨_, rfl, .inr (.inl rfl)⟩
      · exact ⟨_, rfl, .inl rfl⟩
    refine ⟨(by show 6 ≤ sizeLine; decide), fun t nt => ⟨_, rfl, t, _, _, _, rfl, rfl, SqT.of upd_same, ey, ?_⟩⟩
    have t1 := Stp.cell (ms := []) (o := .tup [V.str "choose", V.str "come", V.str "draw", V.str "choose", V.str "come", V.str "choose"]) s1.in_ nt
    have hP2 := hP1.stp t1 (by simp)
    have hS2 := hS1.stp t1 (by simp)
    have s2 := s1.trans t1.nil
    clear en hP1 hS1
    obtain ⟨ch, co, dr, m, hq2, ha, hqb, _⟩ := id hS2
    obtain ⟨c, hc, ch2, co2, dr2, hput⟩ := sc_word (a := a) (ch := ch) (co := co) (dr := dr) (mo := mo) (m := (m : Nat)) hw
    have hg := DGet.k (k := .inr wd) hq2
    rw [hc] at hg
    refine ⟨_, rfl, _, rfl, q, _, rfl, hg, _, _, rfl, rfl, _, rfl, ite2 (fun c3 => ?_) fun c3 => ⟨_, s2, hP2, hS2, rfl⟩⟩
    refine ⟨_, rfl, _, rfl, q, _, rfl, hg, _, _, rfl, rfl, _, rfl, _, rfl, q, _, rfl, DPut.k (k := .inr wd) hq2 (by show 6 < sizeLine; decide), ?_⟩
    rw [hput]
    have t2 := Stp.put (ms := [q]) (o := .dK (scL a ch2 co2 dr2 mo (m : Nat))) s2.in_ hqb (.head _)
    have s3 := s2.trans (t2.wk (ns := [p, q]) (by simp))
    have hP3 := hP2.stp t2 (by simpa using hqp.symm)
    have hS3 : Scp q a ns mo B (upd (upd H1 t (.tup [V.str "choose", V.str "come", V.str "draw", V.str "choose", V.str "come", V.str "choose"])) q (.dK (scL a ch2 co2 dr2 mo (m : Nat)))) := ⟨ch2, co2, dr2, m, upd_same, ha, hqb, hmo⟩
    refine ⟨_, rfl, ?_⟩
    dsimp only [tCons, tNil, tC]
    refine name_t s3.in_ hb hP3 ha hl0 hl (fun _ h => ⟨_, rfl, h⟩) (fun _ hx h => ⟨_, rfl, _, rfl, a, _, rfl, .inl hx, h⟩) fun z H4 hz t4 hP4 => ?_
    have hS4 := hS3.stp t4 hqn
    have s4 := s3.trans (t4.wk w1)
    obtain ⟨ch4, co4, dr4, m4, hq4, _⟩ := id hS4
    refine ⟨_, rfl, _, rfl, q, _, rfl, DGet.k (k := .inr "most") hq4, ?_⟩
    refine draw_n (m := mo) s4.in_ hb hP4 (by omega) (by omega) fun n H5 b0 b1 t5 hP5 => ?_
    have hS5 := hS4.stp t5 hqn
    have s5 := s4.trans (t5.wk w1)
    obtain ⟨n, rfl⟩ : ∃ k : Nat, n = k := ⟨n.toNat, by omega⟩
    refine ⟨_, _, rfl, rfl, (by show 3 ≤ sizeLine; decide), fun x1 nx1 => ?_⟩
    have e1n : (1 : Int) + (n : Nat) = ((1 + n : Nat) : Int) := by omega
    have t6 := Stp.new (ms := []) (o := .tup [V.str wd, V.str z, V.int ((1 : Int) + (n : Nat))]) s5.in_ nx1
    have hP6 := hP5.stp t6 (by simp)
    have hS6 := hS5.stp t6 (by simp)
    have s6 := s5.trans t6.nil
    refine ⟨_, rfl, rfl, _, rfl, ite2 (fun c4 => ?_) fun c4 => ?_⟩
    · have ew : wd = "draw" := V.str.inj (of_decide_eq_true c4)
      subst ew
      refine ⟨_, rfl, leaf (st := .draw z (1 + n)) s6 hP6 hS6 (.tup (SqT.of upd_same) (.cons (.str _) (.cons (.str _) (.cons (by rw [e1n]; exact .int _) .nil)))) (by rw [wfS]; exact ⟨hz, by omega⟩) rfl⟩
    · obtain ⟨cb, hcb⟩ : ∃ cb : Bool, wd = (if cb then "come" else "choose" : Str) := by
        rcases hw with rfl | rfl | rfl
        · exact ⟨false, rfl⟩
        · exact ⟨true, rfl⟩
        · exact absurd rfl c4
      obtain ⟨ch6, co6, dr6, m6, hq6, ha6, hqb6, _⟩ := id hS6
      refine ⟨_, rfl, q, _, rfl, DGet.k (k := .inr "next") hq6, _, _, rfl, rfl, _, rfl, q, _, rfl, DPut.k (k := .inr "next") hq6 (by show 6 < sizeLine; decide), ?_⟩
      have t7 := Stp.put (ms := [q]) (o := .dK (scL a ch6 co6 dr6 mo ((m6 : Int) + 1))) s6.in_ hqb6 (.head _)
      have s7 := s6.trans (t7.wk (ns := [p, q]) (by simp))
      have hP7 := hP6.stp t7 (by simpa using hqp.symm)
      have hS7 : Scp q a ns mo (upd B x1 (.tup [V.str wd, V.str z, V.int ((1 : Int) + (n : Nat))])) (upd (upd H5 x1 (.tup [V.str wd, V.str z, V.int ((1 : Int) + (n : Nat))])) q (.dK (scL a ch6 co6 dr6 mo ((m6 : Int) + 1)))) := ⟨ch6, co6, dr6, m6 + 1, by rw [show ((m6 + 1 : Nat) : Int) = (m6 : Int) + 1 by omega]; exact upd_same, ha6, hqb6, hmo⟩
      have hq7 : (upd (upd H5 x1 (.tup [V.str wd, V.str z, V.int ((1 : Int) + (n : Nat))])) q (.dK (scL a ch6 co6 dr6 mo ((m6 : Int) + 1)))) q = _ := upd_same
      refine ⟨_, rfl, _, rfl, q, _, rfl, DGet.k (k := .inr "next") hq7, _, _, rfl, rfl, (by show 1 ≤ sizeLine; decide), fun x nx => ?_⟩
      have t8 := Stp.cell (ms := []) (o := .tup [V.int ((m6 : Int) + 1 - 1)]) s7.in_ nx
      have hP8 := hP7.stp t8 (by simp)
      have hS8 := hS7.stp t8 (by simp)
      have s8 := s7.trans t8.nil
      refine ⟨x1, x, [V.str wd, V.str z, V.int ((1 : Int) + (n : Nat))], [V.int ((m6 : Int) + 1 - 1)], rfl, rfl, SqT.of (s8.in_ _ _ upd_same), SqT.of upd_same, by simp, (by show 4 ≤ sizeLine; decide), (fun z => nomatch z), fun _ y ny => ?_⟩
      have t9 := Stp.new (ms := []) (o := .tup ([V.str wd, V.str z, V.int ((1 : Int) + (n : Nat))] ++ [V.int ((m6 : Int) + 1 - 1)])) s8.in_ ny
      refine leaf (st := .move cb z (1 + n) m6) (s8.trans t9.nil) (hP8.stp t9 (by simp)) (hS8.stp t9 (by simp)) (.tup (SqT.of upd_same) (.cons (by rw [hcb]; exact .str _) (.cons (.str _) (.cons (by rw [e1n]; exact .int _) (.cons (by rw [show (m6 : Int) + 1 - 1 = ((m6 : Nat) : Int) by omega]; exact .int _) .nil))))) (by rw [wfS]; exact ⟨hz, by omega⟩) rfl
  rintro σ H2 ⟨v5, s2, hP2, hS2, rfl⟩
  refine ⟨fun σ H' => H2 = H' ∧ σ = [some (.ref p), some (.ref q), some (.int (r : Int)), some (.int kd), some (.ref a), v5, none, none, none], ?_, ?_⟩
  · refine ⟨_, rfl, _, _, rfl, rfl, _, rfl, ite2 (fun c1 => ?_) fun c1 => iteF ⟨rfl, rfl⟩⟩
    refine ⟨_, rfl, _, _, rfl, rfl, _, rfl, ite2 (fun c2 => ?_) fun c2 => ⟨rfl, rfl⟩⟩
    obtain ⟨r', rfl⟩ : ∃ r', r = r' + 1 := ⟨r - 1, by have := of_decide_eq_true c2; omega⟩
    have er : ((r' + 1 : Nat) : Int) - 1 = (r' : Int) := by omega
    refine ⟨_, rfl, _, rfl, ?_⟩
    refine val_s (n := 1) (by omega) s2.in_ hb hP2 ha hl fun v4 B4 H4 x4 t4 hP4 hd4 hw4 hx4 => ?_
    have hS4 := hS2.stp t4 hqn
    have s4 := s2.trans (t4.wk w1)
    have hb4 := t4.off hb hP2.at.choose_spec
    refine ⟨_, rfl, _, rfl, _, rfl, _, _, rfl, rfl, ?_⟩
    refine ⟨B4, p, q, a, ns, mo, u, 3, by show [V.ref p, V.ref q, V.int (((r' + 1 : Nat) : Int) - 1), V.int 3] = _; rw [er], s4.in_, hb4, hP4, hS4, hl, by decide, by decide, fun v6 B6 H6 ds6 u6 t6 hP6 hS6 hd6 ⟨S6, e6, wf6, sz6⟩ => ?_⟩
    have s6 := s4.trans t6
    have hb6 := t6.off hb4 hP4.at.choose_spec
    refine ⟨_, rfl, _, rfl, _, rfl, _, rfl, _, rfl, _, _, rfl, rfl, ?_⟩
    refine ⟨B6, p, q, a, ns, mo, u6, 2, by show [V.ref p, V.ref q, V.int (((r' + 1 : Nat) : Int) - 1), V.int 2] = _; rw [er], s6.in_, hb6, hP6, hS6, hl, by decide, by decide, fun v7 B7 H7 ds7 u7 t7 hP7 hS7 hd7 ⟨S7, e7, wf7, sz7⟩ => ?_⟩
    have s7 := s6.trans t7
    refine ⟨(by show 4 ≤ sizeLine; decide), fun q9 nq9 => ?_⟩
    have t9 := Stp.new (ms := []) (o := .tup [V.str "if", v4, v6, v7]) s7.in_ nq9
    subst e6 e7
    refine k _ _ _ _ u7 (s7.trans t9.nil) (hP7.stp t9 (by simp)) (hS7.stp t9 (by simp)) (.tup (SqT.of upd_same) (.cons (.str _) (.cons (dp_mono (t6.base.trans (t7.base.trans t9.base)) hd4) (.cons (dp_mono (t7.base.trans t9.base) hd6) (.cons (dp_mono t9.base hd7) .nil))))) ⟨.ite x4 S6 S7, rfl, ?_, ?_⟩
    · rw [wfS]; exact ⟨⟨hw4, hx4⟩, wf6, wf7⟩
    · rw [szS]; omega
  rintro σ H' ⟨rfl, rfl⟩
  refine ⟨fun σ H' => H2 = H' ∧ σ = [some (.ref p), some (.ref q), some (.int (r : Int)), some (.int kd), some (.ref a), v5, none, none, none], ?_, ?_⟩
  · refine ⟨_, rfl, rfl, _, rfl, ite2 (fun c1 => ?_) fun c1 => iteF ⟨rfl, rfl⟩⟩
    have sx := SqL.of (K := K) (s2.in_ _ _ ha)
    refine ⟨_, rfl, a, _, rfl, .inl sx, _, _, rfl, rfl, _, rfl, ite2 (fun c2 => ?_) fun c2 => ⟨rfl, rfl⟩⟩
    have hl0 : 0 < ns.length := by
      have := of_decide_eq_true c2
      rw [List.length_map] at this
      omega
    dsimp only [tRet, tTup, tCons, tNil, tC]
    refine name_t s2.in_ hb hP2 ha hl0 hl (fun _ h => ⟨_, rfl, h⟩) (fun _ hx h => ⟨_, rfl, _, rfl, a, _, rfl, .inl hx, h⟩) fun z H3 hz t3 hP3 => ?_
    have hS3 := hS2.stp t3 hqn
    have s3 := s2.trans (t3.wk w1)
    refine ⟨_, rfl, _, rfl, ?_⟩
    refine val_s (n := 2) (by omega) s3.in_ hb hP3 ha hl fun v5 B5 H5 x5 t5 hP5 hd5 hw5 hx5 => ?_
    have hS5 := hS3.stp t5 hqn
    have s5 := s3.trans (t5.wk w1)
    refine ⟨(by show 3 ≤ sizeLine; decide), fun q9 nq9 => ?_⟩
    have t9 := Stp.new (ms := []) (o := .tup [V.str "set", V.str z, v5]) s5.in_ nq9
    exact k _ _ _ _ u (s5.trans t9.nil) (hP5.stp t9 (by simp)) (hS5.stp t9 (by simp)) (.tup (SqT.of upd_same) (.cons (.str _) (.cons (.str _) (.cons (dp_mono t9.base hd5) .nil)))) ⟨.set z x5, rfl, by rw [wfS]; exact ⟨hz, hw5, hx5⟩, (by show 1 + u.toNat ≤ _; omega)⟩
  rintro σ H' ⟨rfl, rfl⟩
  refine ⟨_, rfl, _, _, rfl, rfl, _, rfl, ite2 (fun c1 => ?_) fun c1 => ?_⟩
  · dsimp only [tRet, tTup, tCons, tNil, tC]
    refine pick_t (tt := tCons (tC (.str "chooser")) (tCons (tC (.str "comer")) tNil)) (xs := [.str "chooser", .str "comer"]) s2.in_ hb hP2 (fun _ _ h => h) (fun _ _ h => ⟨_, rfl, h⟩) rfl (by decide) (by decide) fun y H3 my t3 hP3 => ?_
    obtain ⟨cb, rfl⟩ : ∃ cb : Bool, y = .str (seatS cb) := by
      simp only [List.mem_cons, List.not_mem_nil, or_false] at my
      rcases my with rfl | rfl
      · exact ⟨false, rfl⟩
      · exact ⟨true, rfl⟩
    have hS3 := hS2.stp t3 hqn
    have s3 := s2.trans (t3.wk w1)
    refine ⟨_, rfl, _, rfl, ?_⟩
    refine val_s (n := 1) (by omega) s3.in_ hb hP3 ha hl fun v5 B5 H5 x5 t5 hP5 hd5 hw5 hx5 => ?_
    have hS5 := hS3.stp t5 hqn
    have s5 := s3.trans (t5.wk w1)
    refine ⟨(by show 3 ≤ sizeLine; decide), fun q9 nq9 => ?_⟩
    have t9 := Stp.new (ms := []) (o := .tup [V.str "show", V.str (seatS cb), v5]) s5.in_ nq9
    exact k _ _ _ _ u (s5.trans t9.nil) (hP5.stp t9 (by simp)) (hS5.stp t9 (by simp)) (.tup (SqT.of upd_same) (.cons (.str _) (.cons (.str _) (.cons (dp_mono t9.base hd5) .nil)))) ⟨.shw cb x5, rfl, by rw [wfS]; exact ⟨hw5, hx5⟩, (by show 1 + u.toNat ≤ _; omega)⟩
  have fin : ∀ (cb : Bool) (v5 : V) (B5 H5 : Hp) (x5 : Exq), Stp [p, q] B H B5 H5 → PoolN u p B5 H5 → Scp q a ns mo B5 H5 → Dp K B5 v5 (exD x5) → wfE ns x5 → dpE x5 ≤ 7 → ∀ q9, H5 q9 = none → Q (.ref q9) (upd H5 q9 (.tup [V.str (if cb then "take" else "pay" : Str), v5])) := fun cb v5 B5 H5 x5 s5 hP5 hS5 hd5 hw5 hx5 q9 nq9 => by
    have t9 := Stp.new (ms := []) (o := .tup [V.str (if cb then "take" else "pay" : Str), v5]) s5.in_ nq9
    exact k _ _ _ _ u (s5.trans t9.nil) (hP5.stp t9 (by simp)) (hS5.stp t9 (by simp)) (.tup (SqT.of upd_same) (.cons (.str _) (.cons (dp_mono t9.base hd5) .nil))) ⟨.pay cb x5, rfl, by rw [wfS]; exact ⟨hw5, hx5⟩, (by show 1 + u.toNat ≤ _; omega)⟩
  refine ⟨_, rfl, ?_⟩
  dsimp only [tCons, tNil, tC]
  refine draw_n s2.in_ hb hP2 (by decide) (by decide) fun r3 H3 c0 c1 t3 hP3 => ?_
  have hS3 := hS2.stp t3 hqn
  have s3 := s2.trans (t3.wk w1)
  refine ⟨rfl, _, rfl, ite2 (fun _ => ?_) fun _ => ?_⟩
  · dsimp only [tRet, tTup, tCons, tNil, tC]
    refine pick_t (tt := tCons (tC (.str "pay")) (tCons (tC (.str "take")) tNil)) (xs := [.str "pay", .str "take"]) s3.in_ hb hP3 (fun _ _ h => h) (fun _ _ h => ⟨_, rfl, h⟩) rfl (by decide) (by decide) fun y H4 my t4 hP4 => ?_
    obtain ⟨cb, rfl⟩ : ∃ cb : Bool, y = .str (if cb then "take" else "pay" : Str) := by
      simp only [List.mem_cons, List.not_mem_nil, or_false] at my
      rcases my with rfl | rfl
      · exact ⟨false, rfl⟩
      · exact ⟨true, rfl⟩
    have hS4 := hS3.stp t4 hqn
    have s4 := s3.trans (t4.wk w1)
    refine ⟨_, rfl, _, rfl, ?_⟩
    refine deep_s s4.in_ hb hP4 ha hl fun v5 B5 H5 x5 t5 hP5 hd5 hw5 hx5 => ?_
    exact ⟨(by show 2 ≤ sizeLine; decide), fun q9 nq9 => fin cb v5 B5 H5 x5 (s4.trans (t5.wk w1)) hP5 (hS4.stp t5 hqn) hd5 hw5 hx5 q9 nq9⟩
  · dsimp only [tNext, tRet, tTup, tCons, tNil, tC]
    refine pick_t (tt := tCons (tC (.str "pay")) (tCons (tC (.str "pay")) (tCons (tC (.str "take")) tNil))) (xs := [.str "pay", .str "pay", .str "take"]) s3.in_ hb hP3 (fun _ _ h => h) (fun _ _ h => ⟨_, rfl, h⟩) rfl (by decide) (by decide) fun y H4 my t4 hP4 => ?_
    obtain ⟨cb, rfl⟩ : ∃ cb : Bool, y = .str (if cb then "take" else "pay" : Str) := by
      simp only [List.mem_cons, List.not_mem_nil, or_false] at my
      rcases my with rfl | rfl | rfl
      · exact ⟨false, rfl⟩
      · exact ⟨false, rfl⟩
      · exact ⟨true, rfl⟩
    have hS4 := hS3.stp t4 hqn
    have s4 := s3.trans (t4.wk w1)
    refine ⟨_, rfl, _, rfl, ?_⟩
    refine val_s (n := 2) (by omega) s4.in_ hb hP4 ha hl fun v5 B5 H5 x5 t5 hP5 hd5 hw5 hx5 => ?_
    exact ⟨(by show 2 ≤ sizeLine; decide), fun q9 nq9 => fin cb v5 B5 H5 x5 (s4.trans (t5.wk w1)) hP5 (hS4.stp t5 hqn) hd5 hw5 hx5 q9 nq9⟩
end
end LL
namespace LL
open PySem PySem.Spec PyProof.Rows L2 He Evl ND
section
variable {w : World} {K : PySem.W.Frag} {mg : Str → Option Value} {base : Heap}
theorem dpa_snocS {H : Hp} : ∀ {vs : List V} {v : V} {ds : List PyData} {d : PyData}, DpAll K H vs ds → Dp K H v d → DpAll K H (vs ++ [v]) (ds ++ [d])
  | _, _, _, _, .nil, h => .cons h .nil
  | _, _, _, _, .cons h1 h2, h => .cons h1 (dpa_snocS h2 h)
theorem blD_snoc (S : List Stm) (s : Stm) : blD (S ++ [s]) = blD S ++ [stD s] := by rw [blD_app, blD, blD]
theorem fn_block1 (T : Txt K mg) (r : Nat) (IH : Fn P w K mg base (18 + 2 * r + 1) (ga K "_law_statement") (spStmt K r)) : Fn P w K mg base (18 + 2 * r + 1 + 1) (ga K "_law_block") (spBlock K r) := by
  refine fn_def T.d_l_block sc_l_block (fun _ _ _ _ _ _ us hl => match us, hl with | [_, _, _, _], _ => rfl) (fun vs H Q E h => ?_) (fun cdv A outer s H vs Q E hr h => ?_)
  · obtain ⟨B, p, q, a, ns, b, m, mo, rfl, _⟩ := h
    rfl
  obtain ⟨B, p, q, a, ns, mo, u, ml, rfl, e, hb, hP, hS, hl, m0, m9, k⟩ := h
  have nd := sc_l_block.nd
  have hr1 : Room 1 _ := hr.mono (by omega)
  refine ⟨_, pss_cons (ps_set (i := 4) nd rfl (by first | exact Or.inl rfl | exact Or.inr rfl) (pe_lst pa_nil))
      (pss_cons (ps_for (passes_of rfl) rfl (pi_range1 rfl T.f_range (pa_cons (pe_fn T.d_l_draw (fn_l_draw T) hr1 T.g_l_draw pc (pa_cons (pv 0) (pa_cons (pe_op op_add (pv 3) (pe_int)) pa_nil))) pa_nil)) (pg_name (i := 5) nd rfl (by first | exact Or.inl rfl | exact Or.inr rfl)) (pss_one (ps_if (pt_val (pe_fn T.d_l_spend (fn_l_spend T) hr1 T.g_l_spend pc (pa_cons (pv 0) pa_nil))) (pss_one (ps_expr (pe_bm PySem.F.plainAttrs_list PySem.F.slot_list_append PySem.F.type_list_append mt_append (pv 4) (pa_cons (pe_fn T.d_l_statement IH hr T.g_l_statement pc (pa_cons (pv 0) (pa_cons (pv 1) (pa_cons (pv 2) pa_nil)))) pa_nil)))) (pss_nil))))
      (pss_one (ps_ret (pe_callTy call_tuple_of (by rfl) T.f_tuple (by decide +kernel) (pa_cons (pv 4) pa_nil))))), ?_⟩
  have hqp : q ≠ p := hS.nep hP
  have hqn : q ∉ [p] := by simpa using hqp
  refine ⟨(by show 0 ≤ sizeLine; decide), fun c nc => ?_⟩
  have e0 : Ex B (upd H c (.lst [])) := Ex.mut e (ex_none e nc)
  have hcp : c ≠ p := hP.ne nc
  have hP0 := hP.n1 (o := .lst []) nc
  have hS0 := hS.stp (Stp.cell (ms := []) (o := .lst []) e nc) (by simp)
  have hcq : c ≠ q := fun z => by
    obtain ⟨_, _, _, _, h1, _⟩ := hS
    rw [← z, nc] at h1
    cases h1
  have hcn : c ∉ [p, q] := by simp [hcp, hcq]
  refine ⟨_, rfl, _, rfl, _, _, rfl, rfl, ?_⟩
  dsimp only [tCons, tNil, tC]
  refine draw_n e0 hb hP0 (by omega) (by omega) fun n H1 a0 a1 s1 hP1 => ?_
  have hS1 := hS0.stp s1 hqn
  refine ⟨n, rfl, by omega, by omega, for_range (D := ⟨_, _, fun _ _ => False, fun _ _ => False⟩) (lo := 0) (n := n.toNat)
    (fun i σ H' => ∃ (B' : Hp) (vs : List V) (S : List Stm) (u' : Int) (v5 : Option V), Stp [c, p, q] B (upd H c (.lst [])) B' H' ∧ PoolN u' p B' H' ∧ Scp q a ns mo B' H' ∧ H' c = some (.lst vs) ∧ DpAll K B' vs (blD S) ∧ wfB ns S ∧ szB S + u'.toNat ≤ u.toNat ∧ S.length ≤ i ∧
      B' p = none ∧ σ = [some (.ref p), some (.ref q), some (.int (r : Int)), some (.int ml), some (.ref c), v5]) ?_ ?_ ?_⟩
  · exact ⟨B, [], [], u, none, s1.wk (by simp), hP1, hS1, s1.fr c _ (by simpa using hcp) upd_same, (by rw [blD]; exact .nil), (by rw [wfB]; trivial), (by rw [szB]; omega), Nat.le_refl _, hb, rfl⟩
  · rintro i σ H2 hi ⟨B2, vs, S, u2, v5, s2, hP2, hS2, hc2, hd2, wf2, sz2, hl2, hb2, rfl⟩
    refine ⟨_, rfl, B2, p, u2, rfl, s2.in_, hb2, hP2, fun H3 t3 hP3 => ?_⟩
    have hS3 := hS2.stp t3 hqn
    have s3 := s2.trans (t3.wk (ns := [c, p, q]) (by simp))
    have hc3 := t3.fr c _ (by simpa using hcp) hc2
    refine ⟨_, rfl, ite2 (fun c1 => ?_) fun c1 => ⟨B2, vs, S, u2 - 1, _, s3, hP3, hS3, hc3, hd2, wf2, by omega, by omega, hb2, rfl⟩⟩
    have hu0 : u2 - 1 ≥ 0 := of_decide_eq_true c1
    refine ⟨_, rfl, .inl ⟨rfl, _, SqL.of hc3⟩, _, rfl, _, rfl, _, rfl, B2, p, q, a, ns, mo, u2 - 1, rfl, s3.in_, hb2, hP3, hS3, hl, fun v B4 H4 d4 u4 t4 hP4 hS4 hd4 ⟨st, e4, wf4, sz4⟩ => ?_⟩
    have s4 := s3.trans (t4.wk (ns := [c, p, q]) (by simp))
    have hc4 := t4.fr c _ hcn hc3
    have hcb4 : B4 c = none := s4.off (ex_none e nc) upd_same
    have hvl := dp_all_len hd2
    rw [blD_len] at hvl
    subst e4
    refine ⟨c, _, _, rfl, rfl, hc4, small1000 (by omega), B4, vs ++ [v], S ++ [st], u4, _, s4.trans (Stp.put s4.in_ hcb4 (.head _)), hP4.p1 hcp, hS4.stp (Stp.put (ms := [c]) s4.in_ hcb4 (.head _)) (by simpa using hcq.symm), upd_same, ?_, ?_, ?_, by simp; omega, t4.off hb2 hP3.at.choose_spec, rfl⟩
    · rw [blD_snoc]
      exact dpa_snocS (dpa_mono t4.base hd2) hd4
    · exact wfB_app wf2 (by rw [wfB, wfB]; exact ⟨wf4, trivial⟩)
    · rw [szB_app, szB, szB]; omega
  · rintro σ H2 ⟨B2, vs, S, u2, v5, s2, hP2, hS2, hc2, hd2, wf2, sz2, hl2, hb2, rfl⟩
    refine ⟨_, rfl, c, _, rfl, .inl ⟨SqL.of hc2, fun l nl => ?_⟩⟩
    have s3 := Stp.with nc s2
    have t4 := Stp.new (ms := []) (o := .tup vs) s2.in_ nl
    exact k _ _ _ (blD S) u2 (s3.trans t4.nil) (hP2.stp t4 (by simp)) (hS2.stp t4 (by simp)) (.tup (SqT.of upd_same) (dpa_mono t4.base hd2)) ⟨S, rfl, wf2, sz2⟩
theorem fn_l_block (T : Txt K mg) : ∀ r, Fn P w K mg base (18 + 2 * r + 1 + 1) (ga K "_law_block") (spBlock K r) := by
  intro r
  induction r with
  | zero => exact fn_block1 T 0 (fn_stmt T 0 (fun _ _ _ _ _ _ _ _ _ _ _ h => h.elim))
  | succ r ih => exact fn_block1 T (r + 1) (fn_stmt T (r + 1) ih)
/-! ### names that are alike but at one place -/
def spAlike (K : PySem.W.Frag) : Sp := fun us H Q _ => ∃ (B : Hp) (p : Addr) (u : Int), us = [.ref p] ∧ Ex B H ∧ B p = none ∧ PoolN u p B H ∧ ∀ (a : Addr) (B2 H2 : Hp) (x y z : Str), Stp [p] B H B2 H2 → PoolN u p B2 H2 → B2 a = some (.tup [.str x, .str y, .str z]) → x ≠ y → x ≠ z → y ≠ z → Q (.ref a) H2
theorem fn_l_alike (T : Txt K mg) : Fn P w K mg base 3 (ga K "_law_alike") (spAlike K) := by
  refine fn_def T.d_l_alike sc_l_alike (fun _ _ _ _ _ _ us hl => match us, hl with | [_], _ => rfl) (fun vs H Q E h => ?_) (fun cdv A outer s H vs Q E hr h => ?_)
  · obtain ⟨_, _, _, rfl, _⟩ := h
    rfl
  obtain ⟨B, p, u, rfl, e, hb, hP, k⟩ := h
  have nd := sc_l_alike.nd
  have hbig : (100000 : Nat) ≤ sizeLine := by decide
  refine ⟨_, pss_cons (ps_set (i := 1) nd rfl (by first | exact Or.inl rfl | exact Or.inr rfl) (pe_str))
      (pss_cons (ps_for (passes_of rfl) rfl (pi_range1 rfl T.f_range (pa_cons (pe_op op_add (pe_int) (pe_fn T.d_l_draw (fn_l_draw T) (hr.mono (by decide)) T.g_l_draw pc (pa_cons (pv 0) (pa_cons (pe_int) pa_nil)))) pa_nil)) (pg_name (i := 2) nd rfl (by first | exact Or.inl rfl | exact Or.inr rfl)) (pss_one (ps_set (i := 1) nd rfl (by first | exact Or.inl rfl | exact Or.inr rfl) (pe_op op_add_str (pv 1) (pe_ix ix_str (pe_str) (pe_fn T.d_l_draw (fn_l_draw T) (hr.mono (by decide)) T.g_l_draw pc (pa_cons (pv 0) (pa_cons (pe_int) pa_nil))) (fun _ _ => rfl))))))
      (pss_cons (ps_set (i := 3) nd rfl (by first | exact Or.inl rfl | exact Or.inr rfl) (pe_op op_add (pe_int) (pe_fn T.d_l_draw (fn_l_draw T) (hr.mono (by decide)) T.g_l_draw pc (pa_cons (pv 0) (pa_cons (pe_op op_sub (pe_callB call_len_str (by rfl) T.f_len (by decide +kernel) (pa_cons (pv 1) pa_nil)) (pe_int)) pa_nil)))))
      (pss_one (ps_ret (pe_callTy call_tuple_of (by rfl) T.f_tuple (by decide +kernel) (pa_cons (pe_lc (own := [("_law_sign", 4)]) (g := gName 4) (tt := tYes) rfl nd (pi_str (pe_str)) (blkOk_by (N := n_l_alike) (sc := defScope s_l_alike) (by decide +kernel)) (fun _ _ _ _ _ => pg_name (i := 4) nd rfl (by first | exact Or.inl rfl | exact Or.inr rfl)) (fun _ _ _ _ _ => pts_nil) (fun _ _ _ _ _ => pe_op op_add_str (pe_op op_add_str (pe_slice sl_str (pv 1) po_none (po_some (pv 3))) (pv 4)) (pe_slice sl_str (pv 1) (po_some (pe_op op_add (pv 3) (pe_int))) po_none))) pa_nil)))))), ?_⟩
  refine ⟨_, rfl, ?_⟩
  dsimp only [tCons, tNil, tC]
  refine draw_n e hb hP (by decide) (by decide) fun r H1 a0 a1 s1 hP1 => ?_
  obtain ⟨n, rfl⟩ : ∃ n : Nat, r = n := ⟨r.toNat, by omega⟩
  refine ⟨_, _, rfl, rfl, _, rfl, by omega, by omega, for_range (D := ⟨_, _, fun _ _ => False, fun _ _ => False⟩) (lo := 0) (n := ((1 : Int) + (n : Nat)).toNat) (fun i σ H' => ∃ (b : Str) (u2 : Option V), Stp [p] B H B H' ∧ PoolN u p B H' ∧ b.length = 1 + i ∧ σ = [some (.ref p), some (.str b), u2, none, none]) ⟨"q", none, s1, hP1, rfl, rfl⟩ ?_ ?_⟩
  · rintro i σ H2 hi ⟨b, u2, s2, hP2, hbl, rfl⟩
    refine ⟨_, rfl, _, rfl, ?_⟩
    dsimp only [tCons, tNil, tC]
    refine draw_n s2.in_ hb hP2 (by decide) (by decide) fun r2 H3 b0 b1 s3 hP3 => ?_
    obtain ⟨y, ey, _, _⟩ := at_get (xs := (Str.ofString "abcdefghijklmnopqrstuvwxyz").cps.toList) b0 (by rw [show (Str.ofString "abcdefghijklmnopqrstuvwxyz").cps.toList.length = 26 by decide +kernel]; exact b1)
    refine ⟨_, _, y, rfl, rfl, (show (Str.ofString "abcdefghijklmnopqrstuvwxyz").length ≤ sizeLine by decide +kernel), ey, _, _, rfl, rfl, ?_, _, some (.int ((0 : Int) + (i : Nat))), s2.trans s3, hP3, ?_, rfl⟩
    · show b.length + 1 ≤ _
      omega
    · rw [Str.length_append, hbl]
      show 1 + i + 1 = _
      omega
  · rintro σ H2 ⟨b, u2, s2, hP2, hbl, rfl⟩
    have hbn : b.length = 2 + n := by omega
    refine ⟨_, rfl, _, rfl, b, rfl, (by omega), _, _, rfl, rfl, ?_⟩
    dsimp only [tCons, tNil, tC]
    refine draw_n s2.in_ hb hP2 (by omega) (by omega) fun r3 H3 c0 c1 s3 hP3 => ?_
    have s4 := s2.trans s3
    refine ⟨_, _, rfl, rfl, _, rfl, fun D nD => ?_⟩
    have hcut : ∀ lo hi, (cutS b lo hi).length ≤ 100 := fun lo hi => Nat.le_trans (cutS_length b lo hi) (by omega)
    have eD := Ex.mut (p := D) (o := .lst []) s4.in_ (ex_none s4.in_ nD)
    refine lc_it (walk_str (z := "abc")) (fun i H' => H' = upd H3 D (.lst ((([97, 98, 99] : List Nat).take i).map fun c => V.str (cutS b none (some (1 + r3)) ++ ⟨#[c]⟩ ++ cutS b (some (1 + r3 + 1)) none)))) rfl (fun _ _ _ _ => trivial) ?_ ?_
    · rintro i x H' H'' hi rfl ⟨rfl, c, hc, rfl⟩
      refine ⟨rfl, yes_if ?_⟩
      have hc2 : ([97, 98, 99] : List Nat)[i]? = some c := by
        rw [← hc]
        have hi : i < 3 := hi
        rcases i with _ | _ | _ | i
        · rfl
        · rfl
        · rfl
        · omega
      refine ⟨_, rfl, _, rfl, _, rfl, b, rfl, by omega, _, rfl, _, _, rfl, rfl, ?_, _, rfl, _, rfl, _, _, rfl, rfl, _, rfl, b, rfl, by omega, _, _, rfl, rfl, ?_, _, upd_same, ?_, ?_⟩
      · have := hcut none (some (1 + r3))
        show (cutS b none (some (1 + r3))).length + 1 ≤ _
        omega
      · have h1 := hcut none (some (1 + r3))
        have h2 := hcut (some (1 + r3 + 1)) none
        rw [Str.length_append]
        show (cutS b none (some (1 + r3))).length + 1 + (cutS b (some (1 + r3 + 1)) none).length ≤ _
        omega
      · rw [List.length_map, List.length_take]
        show min i 3 < _
        omega
      · rw [upd_twice, List.take_add_one, hc2, List.map_append]
        rfl
    · rintro H' rfl
      have s5 := s4.trans (Stp.cell (ms := [p]) (o := .lst ([V.str (cutS b none (some (1 + r3)) ++ ⟨#[97]⟩ ++ cutS b (some (1 + r3 + 1)) none), V.str (cutS b none (some (1 + r3)) ++ ⟨#[98]⟩ ++ cutS b (some (1 + r3 + 1)) none), V.str (cutS b none (some (1 + r3)) ++ ⟨#[99]⟩ ++ cutS b (some (1 + r3 + 1)) none)])) s4.in_ nD)
      refine ⟨D, _, rfl, .inl ⟨sq_of upd_same, fun l nl => ?_⟩⟩
      have ne : ∀ {c d : Nat}, c ≠ d → cutS b none (some (1 + r3)) ++ ⟨#[c]⟩ ++ cutS b (some (1 + r3 + 1)) none ≠ cutS b none (some (1 + r3)) ++ ⟨#[d]⟩ ++ cutS b (some (1 + r3 + 1)) none := fun {c d} h z => h (by
        have z2 := congrArg (fun x : Str => x.cps.toList) z
        have tl : ∀ x y : Str, (x ++ y).cps.toList = x.cps.toList ++ y.cps.toList := fun x y => TL.tl_append x y
        simp only [tl] at z2
        have z3 := List.append_cancel_right z2
        have z4 := List.append_cancel_left z3
        have z5 : [c] = [d] := z4
        exact List.cons.inj z5 |>.1)
      exact k l _ _ _ _ _ (s5.trans (Stp.new (ms := [p]) s5.in_ nl)) (PoolN.n2 (PoolN.n1 hP3 nD) s5.in_ nl) upd_same (ne (by decide)) (ne (by decide)) (ne (by decide))
end
end LL
namespace LL
open PySem PySem.Spec PyProof.Rows L2 He Evl ND
/-! ### a draw, a move: their parts -/
theorem partsF_step {F : Nat → Nat → Option (Tr × Nat)} {n i c : Nat} (h : i < n) : partsF F (n - i) i c = (match F i c with
    | none => none
    | some (t, c1) => (partsF F (n - (i + 1)) (i + 1) c1).map fun p => (t :: p.1, p.2)) := by
  rw [show n - i = (n - (i + 1)) + 1 by omega, partsF]
  cases F i c with
  | none => rfl
  | some p =>
    obtain ⟨t, c1⟩ := p
    show (match partsF F (n - (i + 1)) (i + 1) c1 with | none => none | some (ts, c2) => some (t :: ts, c2)) = (partsF F (n - (i + 1)) (i + 1) c1).map fun p => (t :: p.1, p.2)
    cases partsF F (n - (i + 1)) (i + 1) c1 with
    | none => rfl
    | some q => rfl
section
variable {w : World} {K : PySem.W.Frag} {mg : Str → Option Value} {base : Heap}
/-- the parts so far -/
structure PtsAt (K : PySem.W.Frag) (L pb dx ts : Addr) (F : Nat → Nat → Option (Tr × Nat)) (n c i : Nat) (B H B' H' : Hp) (vs : List V) : Prop where
  st : Stp [L, pb] B (upd H L (.lst [])) B' H'
  hL : H' L = some (.lst vs)
  bL : B' L = none
  len : vs.length = i
  ex : ∃ (tr : List Tr) (ci : Nat), BldAt K H' pb dx ts ci ∧ TrsAt K B' vs tr ∧ partsF F n 0 c = (partsF F (n - i) i ci).map fun p => (tr ++ p.1, p.2)
theorem PtsAt.zero {L pb dx ts : Addr} {F : Nat → Nat → Option (Tr × Nat)} {n c : Nat} {B H : Hp} (e : Ex B H) (nL : H L = none) (hb : BldAt K H pb dx ts c) : PtsAt K L pb dx ts F n c 0 B H B (upd H L (.lst [])) [] :=
  ⟨Stp.refl (Ex.mut e (ex_none e nL)), upd_same, ex_none e nL, rfl, [], c, (by
    have : pb ≠ L := fun z => by subst z; rw [hb] at nL; cases nL
    show upd H L (.lst []) pb = _
    rw [upd_ne this]; exact hb), .nil, by
    rw [Nat.sub_zero]
    cases partsF F n 0 c with
    | none => rfl
    | some p => rfl⟩
theorem PtsAt.none_ {F : Nat → Nat → Option (Tr × Nat)} {n c i ci : Nat} {tr : List Tr} (h : partsF F n 0 c = (partsF F (n - i) i ci).map fun p => (tr ++ p.1, p.2)) (hi : i < n) (hn : F i ci = none) : partsF F n 0 c = none := by
  rw [h, partsF_step hi, hn]
  rfl
/-- one part more -/
theorem PtsAt.more {L pb dx ts : Addr} {F : Nat → Nat → Option (Tr × Nat)} {n c i : Nat} {B H B' H' B2 H2 : Hp} {vs : List V} {tr : List Tr} {ci c2 : Nat} {t : Tr} {v : V} (h : PtsAt K L pb dx ts F n c i B H B' H' vs) (nLp : L ≠ pb)
    (htr : TrsAt K B' vs tr) (he : partsF F n 0 c = (partsF F (n - i) i ci).map fun p => (tr ++ p.1, p.2)) (hi : i < n) (hF : F i ci = some (t, c2)) (s : Stp [pb] B' H' B2 H2) (hb : BldAt K H2 pb dx ts c2) (hv : TrAt K B2 v t) :
    H2 L = some (.lst vs) ∧ PtsAt K L pb dx ts F n c (i + 1) B H B2 (upd H2 L (.lst (vs ++ [v]))) (vs ++ [v]) := by
  have hL2 : H2 L = some (.lst vs) := s.fr L _ (by simpa using nLp) h.hL
  have bL2 : B2 L = none := s.off h.bL h.hL
  refine ⟨hL2, (h.st.trans (s.wk fun x hx => .tail _ hx)).trans (Stp.put s.in_ bL2 (.head _)), upd_same, bL2, by rw [List.length_append, h.len]; rfl, tr ++ [t], c2, ?_, (htr.mono s.base).snoc hv, ?_⟩
  · show upd H2 L _ pb = _
    rw [upd_ne (Ne.symm nLp)]; exact hb
  · rw [he, partsF_step hi, hF]
    show ((partsF F (n - (i + 1)) (i + 1) c2).map fun p => (t :: p.1, p.2)).map _ = _
    rw [Option.map_map]
    congr 1
    funext p
    show (tr ++ t :: p.1, p.2) = (tr ++ [t] ++ p.1, p.2)
    rw [List.append_assoc]
    rfl
/-- all parts -/
theorem PtsAt.done {L pb dx ts : Addr} {F : Nat → Nat → Option (Tr × Nat)} {n c : Nat} {B H B' H' : Hp} {vs : List V} (h : PtsAt K L pb dx ts F n c n B H B' H' vs) (e : Ex B H) (nL : H L = none) :
    ∃ (tr : List Tr) (cn : Nat), partsF F n 0 c = some (tr, cn) ∧ Stp [pb] B H (upd B' L (.lst vs)) H' ∧ BldAt K H' pb dx ts cn ∧ TrsAt K (upd B' L (.lst vs)) vs tr := by
  obtain ⟨tr, cn, h1, h2, h3⟩ := h.ex
  refine ⟨tr, cn, ?_, Stp.close e nL h.st h.hL, h1, h2.mono (Ex.new h.bL)⟩
  rw [h3, Nat.sub_self]
  show some (tr ++ [], cn) = _
  rw [List.append_nil]
theorem gm_part {xs : List Str} {zs t : Tbl} {s : Stm} {S : List Stm} {vw vw2 : Vws} {x : Str} {m : Nat} (g : GmOk xs zs t (s :: S) vw) (hx : x ∈ xs) (hv : vw2.1.length + vw2.2.length + 2 * szB S ≤ 900) : GmOk xs zs (LL.tPut t x (m % LL.tGet zs x)) S vw2 := by
  have hwf := g.wf
  rw [wfB] at hwf
  refine ⟨g.hz, by rw [tPut_names]; exact g.ht, tPut_ok g.ok ?_, g.z1, hwf.2, hv, ?_⟩
  · have := g.z1 x hx
    have := Nat.mod_lt m (show 0 < LL.tGet zs x by omega)
    omega
  · have : (LL.tPut t x (m % LL.tGet zs x)).length = t.length := by unfold LL.tPut; rw [List.length_map]
    rw [this]; exact g.n
theorem vw_add {b : Bool} {e : Evt} {vw : Vws} : (vAdd b e vw).1.length + (vAdd b e vw).2.length = vw.1.length + vw.2.length + 1 := by
  cases b
  · show (vw.1 ++ [e]).length + vw.2.length = _
    rw [List.length_append]; simp; omega
  · show vw.1.length + (vw.2 ++ [e]).length = _
    rw [List.length_append]; simp; omega
theorem vGet_le {b : Bool} {vw : Vws} : (vGet b vw).length ≤ vw.1.length + vw.2.length := by
  cases b
  · exact Nat.le_add_right _ _
  · exact Nat.le_add_left _ _
variable (W : TabW w K)
include W
theorem names_at (b : Bool) : KDct K w (ga K "NAMES") (if b then "come" else "choose") (.str (seatS b)) := by
  obtain ⟨_, h⟩ := W.k_NAMES
  cases b with
  | false =>
    obtain ⟨es, n, u, h1, h2, h3, h4⟩ := h "choose"
    cases u with
    | none => exact h4.elim
    | some u => exact ⟨es, n, u, h1, h2, h3, h4⟩
  | true =>
    obtain ⟨es, n, u, h1, h2, h3, h4⟩ := h "come"
    cases u with
    | none => exact h4.elim
    | some u => exact ⟨es, n, u, h1, h2, h3, h4⟩
theorem fn_br1 (T : Txt K mg) (d : Nat) (IH : Fn P w K mg base (10 + 2 * d) (ma K (ga K "Builder") "node") (spNode K d)) : Fn P w K mg base (10 + 2 * d + 1) (ma K (ga K "Builder") "branch") (spBr K (d + 1)) := by
  refine fn_def T.d_Builder_branch sc_Builder_branch (fun _ _ _ _ _ _ us hl => match us, hl with | [_, _, _, _], _ => rfl) (fun vs H Q E h => ?_) (fun cdv A outer s H vs Q E hr h => ?_)
  · obtain ⟨_, _, _, _, _, _, _, _, _, _, _, _, _, _, _, _, rfl, _⟩ := h
    rfl
  obtain ⟨pb, dx, ts, wv, rv, q0, B, zs, t, vw, pd, st, S, c, f, xs, rfl, e, hb, hp, hts, hw, hrow, hpend, hg, hbr, hd, hf, k⟩ := h
  have nd := sc_Builder_branch.nd
  have hr1 : Room 1 _ := hr.mono (by omega)
  have hr2 : Room 2 _ := hr.mono (by omega)
  have hr3 : Room 3 _ := hr.mono (by omega)
  refine ⟨_, pss_cons (ps_set (i := 4) nd rfl (by first | exact Or.inl rfl | exact Or.inr rfl) (pe_dget (hu_of hr) (pe_fld (pv 0) rfl) (pe_ix ix_tup (pv 2) (pe_int) (fun _ _ => rfl)) (fun _ _ => rfl)))
      (pss_cons (ps_if (pt_cmpR op_eq (pe_ix ix_tup (pv 2) (pe_int) (fun _ _ => rfl)) (pe_str) (nomark _)) (pss_one (ps_ret (StX.pe_makeR T.m_Lot (fn_Lot_init T) hr2 rfl T.g_Lot pc (pa_cons (pe_callTy call_tuple_of (by rfl) T.f_tuple (by decide +kernel) (pa_cons (LCX.pe_lcX (own := [("part", 5)]) (g := gName 5) (tt := tYes) rfl rfl (takes_of rfl rfl rfl rfl) rfl nd (pi_range1 rfl T.f_range (pa_cons (pe_ix ix_tup (pv 2) (pe_int) (fun _ _ => rfl)) pa_nil)) (blkOk_by (N := n_Builder_branch) (sc := defScope s_Builder_branch) (by decide +kernel)) (fun _ _ _ _ _ => pg_name (i := 5) nd rfl (by first | exact Or.inl rfl | exact Or.inr rfl)) (fun _ _ _ _ _ => pts_nil) (fun _ _ _ _ _ xe po => pe_methRS (pv 0) T.c_Builder T.t_Builder_node IH hr (fun σ => po σ) (pa_cons (pe_methR (pv 1) T.c_Way T.t_Way_stored (fn_Way_stored T) hr3 pcF (pa_cons (pe_ix (ixk_tup K) (pv 2) (pe_int) (fun _ _ => rfl)) (pa_cons (pv 5) (pa_cons (pv 4) pa_nil)))) (pa_cons (pv 3) pa_nil)))) pa_nil)) pa_nil)))) (pss_nil))
      (pss_cons (ps_set (i := 6) nd rfl (by first | exact Or.inl rfl | exact Or.inr rfl) (pe_ixDX rfl (takes_of rfl rfl rfl rfl) (pe_gr T.g_NAMES) (pe_ix ix_tup (pv 2) (pe_int) (fun _ _ => rfl)) (fun _ _ => rfl)))
      (pss_cons (ps_set (i := 7) nd rfl (by first | exact Or.inl rfl | exact Or.inr rfl) (pe_methR (pv 1) T.c_Way T.t_Way_seen (fn_Way_seen T) hr3 pc (pa_cons (pv 6) (pa_cons (pe_tup (pa_cons (pe_str) (pa_cons (pe_ix ix_tup (pv 2) (pe_int) (fun _ _ => rfl)) (pa_cons (pe_ix ix_tup (pv 2) (pe_int) (fun _ _ => rfl)) pa_nil)))) pa_nil))))
      (pss_cons (ps_set (i := 8) nd rfl (by first | exact Or.inl rfl | exact Or.inr rfl) (pe_lst pa_nil))
      (pss_cons (ps_for (passes_of rfl) rfl (pi_range1 rfl T.f_range (pa_cons (pe_ix ix_tup (pv 2) (pe_int) (fun _ _ => rfl)) pa_nil)) (pg_name (i := 5) nd rfl (by first | exact Or.inl rfl | exact Or.inr rfl)) (pss_one (ps_expr (pe_bm PySem.F.plainAttrs_list PySem.F.slot_list_append PySem.F.type_list_append mt_append (pv 8) (pa_cons (pe_methR (pv 0) T.c_Builder T.t_Builder_node IH hr pc (pa_cons (pe_methR (pe_methR (pv 7) T.c_Way T.t_Way_stored (fn_Way_stored T) hr3 pc (pa_cons (pe_ix ix_tup (pv 2) (pe_int) (fun _ _ => rfl)) (pa_cons (pv 5) (pa_cons (pv 4) pa_nil)))) T.c_Way T.t_Way_seen (fn_Way_seen T) hr3 pc (pa_cons (pv 6) (pa_cons (pe_tup (pa_cons (pe_str) (pa_cons (pv 5) pa_nil))) pa_nil))) (pa_cons (pv 3) pa_nil))) pa_nil)))))
      (pss_one (ps_ret (StX.pe_makeR T.m_Move (fn_Move_init T) hr2 rfl T.g_Move pc (pa_cons (pv 6) (pa_cons (pe_dget (hu_of hr) (pe_fld (pv 7) rfl) (pv 6) (fun _ _ => rfl)) (pa_cons (pe_callTy call_tuple_of (by rfl) T.f_tuple (by decide +kernel) (pa_cons (pv 8) pa_nil)) pa_nil))))))))))), ?_⟩
  have hwf := hg.wf
  rw [wfB] at hwf
  obtain ⟨hws, hwS⟩ := hwf
  obtain ⟨wx, dwx, ta, va, c1, c2, rfl, hwx, _⟩ := id hw
  have nbp : ∀ {L : Addr} {H' : Hp} {ci : Nat}, BldAt K H' pb dx ts ci → H' L = none → L ≠ pb := fun h1 h2 z => by subst z; rw [h1] at h2; cases h2
  cases st with
  | set _ _ => exact hbr.elim
  | shw _ _ => exact hbr.elim
  | pay _ _ => exact hbr.elim
  | ite _ _ _ => exact hbr.elim
  | draw x n =>
    obtain ⟨a, vs, rfl, sx, dx0⟩ := dp_tupK (show Dp K B rv (.tuple [.str "draw", .str x, .int (n : Nat)]) from hrow)
    obtain ⟨_, rfl, dx1⟩ := dpa_s dx0
    obtain ⟨_, rfl, dx2⟩ := dpa_s dx1
    obtain ⟨_, rfl, dx3⟩ := dpa_i dx2
    cases dpa_n dx3
    obtain ⟨hx, hn⟩ := hws
    have sx1 := ex_t e sx
    have hgz : DGet H ts (.str x) (some (.int (LL.tGet zs x : Nat))) := by
      have h := DGet.k (k := .inr x) (e _ _ hts)
      rw [tK_get (by rw [hg.hz]; exact hx)] at h
      exact h
    refine ⟨_, rfl, pb, _, _, _, _, rfl, hp, T.c_Builder, T.a_Builder_sizes, rfl, _, rfl, a, _, _, _, rfl, rfl, sx1, rfl, ts, _, rfl, hgz, ?_⟩
    refine ⟨_, rfl, a, _, _, _, rfl, rfl, sx1, rfl, rfl, _, rfl, ifs (fun _ => ?_) fun c => absurd rfl (of_decide_eq_false c)⟩
    have hbig : (100000 : Nat) ≤ sizeLine := by decide
    refine ⟨_, rfl, a, _, _, _, rfl, rfl, sx1, rfl, n, rfl, by omega, by omega, fun L nL => ?_⟩
    have nLp := nbp hp nL
    have hvw := hg.hv
    rw [szB] at hvw
    refine lc_range (lo := 0) (n := n) (fun i H' => ∃ B' vs, PtsAt K L pb dx ts (fun i c => nodeT zs f (LL.tPut t x (i % LL.tGet zs x)) vw pd S c) n c i B H B' H' vs) ⟨B, [], PtsAt.zero e nL hp⟩ (fun i H' hi z => ?_) (fun H' z => ?_)
    · obtain ⟨B', vs, h⟩ := z
      obtain ⟨tr, ci, hbi, htr, hpe⟩ := h.ex
      refine ⟨rfl, yes_if ?_⟩
      have sx2 := ex_t h.st.in_ (ex_t h.st.base sx)
      refine ⟨_, rfl, pb, _, _, rfl, hbi, rfl, _, rfl, wx, _, _, rfl, h.st.in_ _ _ (h.st.base _ _ hwx), rfl, _, rfl, a, _, _, _, rfl, rfl, sx2, rfl, _, rfl, _, rfl, ?_⟩
      refine ⟨.ref wx, x, i, LL.tGet zs x, B', t, vw, pd, (by rw [Int.zero_add]), h.st.in_, hw.mono h.st.base, (by rw [hg.ht]; exact hx), hg.n, (by have := hg.z1 x hx; omega), fun v2 B2 H2 s2 hw2 => ?_⟩
      have bp1 : B' pb = none := h.st.off hb (show upd H L (.lst []) pb = some _ by rw [upd_ne (Ne.symm nLp)]; exact hp)
      have bp2 : B2 pb = none := s2.off bp1 hbi
      have hp2 : BldAt K H2 pb dx ts ci := s2.fr pb _ (fun h => nomatch h) hbi
      refine ⟨_, rfl, pb, dx, ts, v2, q0, B2, zs, _, vw, pd, S, ci, f, xs, rfl, s2.in_, bp2, hp2, s2.base _ _ (h.st.base _ _ hts), hw2, (hpend.mono h.st.base).mono s2.base, gm_part hg hx (by omega), by omega, hf, fun tr2 c2 v B3 H3 hF s3 hb3 hv => ?_, fun hF H3 d3 e3 h3 => ?_⟩
      · obtain ⟨hL3, h3⟩ := h.more nLp htr hpe hi hF (s2.nil.trans s3) hb3 hv
        exact ⟨vs, hL3, by rw [h.len]; omega, B3, _, h3⟩
      · refine k.2 ?_ H3 d3 (h.st.base.trans (s2.base.trans e3)) h3
        show (partsF _ n 0 c).map _ = none
        rw [PtsAt.none_ hpe hi hF]
        rfl
    · obtain ⟨B', vs, h⟩ := z
      obtain ⟨tr, cn, hpe, s1, hbn, htr⟩ := h.done e nL
      refine ⟨L, vs, rfl, .inl ⟨sq_of h.hL, fun l nl => ?_⟩⟩
      have s2 := Stp.new (ms := []) (o := .tup vs) s1.in_ nl
      refine fun x1 dx1 nx1 ndx1 ne1 => ⟨x1, dx1, l, rfl, upd_same, rfl, ?_⟩
      rw [upd_twice]
      have s3 := Stp.made (ms := []) (C := ga K "Lot") (fs := [("parts", .ref l)]) s2.in_ nx1 ndx1 ne1
      have s4 := s2.trans s3
      refine k.1 (.lot tr) cn _ _ _ ?_ (s1.trans s4.nil) (s4.fr pb _ (fun h => nomatch h) hbn) (.lot upd_same (st_of (s3.base _ _ upd_same)) (htr.mono s4.base))
      show (partsF _ n 0 c).map _ = _
      rw [hpe]
      rfl
  | move b x n kk =>
    obtain ⟨a, vs, rfl, sx, dx0⟩ := dp_tupK (show Dp K B rv (.tuple [.str (if b then "come" else "choose"), .str x, .int (n : Nat), .int (kk : Nat)]) from hrow)
    obtain ⟨_, rfl, dx1⟩ := dpa_s dx0
    obtain ⟨_, rfl, dx2⟩ := dpa_s dx1
    obtain ⟨_, rfl, dx3⟩ := dpa_i dx2
    obtain ⟨_, rfl, dx4⟩ := dpa_i dx3
    cases dpa_n dx4
    obtain ⟨hx, hn⟩ := hws
    have sx1 := ex_t e sx
    have hgz : DGet H ts (.str x) (some (.int (LL.tGet zs x : Nat))) := by
      have h := DGet.k (k := .inr x) (e _ _ hts)
      rw [tK_get (by rw [hg.hz]; exact hx)] at h
      exact h
    have hbig : (100000 : Nat) ≤ sizeLine := by decide
    have hvw := hg.hv
    rw [szB] at hvw
    have hs1 : szS (.move b x n kk) = 1 := rfl
    refine ⟨_, rfl, pb, _, _, _, _, rfl, hp, T.c_Builder, T.a_Builder_sizes, rfl, _, rfl, a, _, _, _, rfl, rfl, sx1, rfl, ts, _, rfl, hgz, ?_⟩
    refine ⟨_, rfl, a, _, _, _, rfl, rfl, sx1, rfl, rfl, _, rfl, ifs (fun c => absurd (V.str.inj (of_decide_eq_true c)) (by cases b <;> decide)) fun _ => ?_⟩
    refine ⟨_, rfl, a, _, _, _, rfl, rfl, sx1, rfl, _, _, rfl, rfl, .inl ⟨_, names_at W b, ?_⟩⟩
    refine ⟨_, rfl, wx, _, _, rfl, e _ _ hwx, rfl, _, rfl, _, rfl, a, _, _, _, rfl, rfl, sx1, rfl, _, rfl, a, _, _, _, rfl, rfl, sx1, rfl, (show 3 ≤ sizeLine by decide), fun q nq => ?_⟩
    have t1 := Stp.new (ms := [pb]) (o := .tup [.str "asked", .int (kk : Nat), .int (n : Nat)]) e nq
    have hp1 : BldAt K (upd H q (.tup [.str "asked", .int (kk : Nat), .int (n : Nat)])) pb dx ts c := by
      show upd H q _ pb = _
      rw [upd_ne (Ne.symm (nbp hp nq))]; exact hp
    refine ⟨.ref wx, .ref q, b, ("asked", [kk, n]), _, t, vw, pd, rfl, t1.in_, hw.mono t1.base, ⟨q, rfl, st_of upd_same⟩, ?_, fun v7 B2 H2 s2 hw7 => ?_⟩
    · have := vGet_le (b := b) (vw := vw)
      omega
    have hp2 : BldAt K H2 pb dx ts c := s2.fr pb _ (fun h => nomatch h) hp1
    have s2 := t1.trans s2.nil
    have bp2 : B2 pb = none := s2.off hb hp
    obtain ⟨w7, dw7, ta7, va7, c17, c27, rfl, hw7x, hta7, hva7, hc17, hc27⟩ := id hw7
    refine ⟨(show 0 ≤ sizeLine by omega), fun L nL => ?_⟩
    have nLp := nbp hp2 nL
    have hvw2 : (vAdd b ("asked", [kk, n]) vw).1.length + (vAdd b ("asked", [kk, n]) vw).2.length = vw.1.length + vw.2.length + 1 := vw_add
    have eL : Ex B2 (upd H2 L (.lst [])) := Ex.mut s2.in_ (ex_none s2.in_ nL)
    refine ⟨_, rfl, a, _, _, _, rfl, rfl, ex_t eL (ex_t s2.base sx), rfl, n, rfl, by omega, by omega, for_range (lo := 0) (n := n) (fun i σ H' => ∃ (B' : Hp) (vs : List V) (u5 : Option V), PtsAt K L pb dx ts (fun i c => nodeT zs f (LL.tPut t x (i % LL.tGet zs x)) (vAdd b ("did", [i]) (vAdd b ("asked", [kk, n]) vw)) pd S c) n c i B2 H2 B' H' vs ∧
      σ = [some (.ref pb), some (.ref wx), some (.ref a), some q0, some (.int (LL.tGet zs x : Nat)), u5, some (.str (seatS b)), some (.ref w7), some (.ref L)]) ⟨B2, [], none, PtsAt.zero s2.in_ nL hp2, rfl⟩ (fun i σ H' hi z => ?_) (fun σ H' z => ?_)⟩
    · obtain ⟨B', vs, u5, h, rfl⟩ := z
      obtain ⟨tr, ci, hbi, htr, hpe⟩ := h.ex
      have e7 := h.st.base
      have sx2 := ex_t h.st.in_ (ex_t e7 (ex_t s2.base sx))
      have bp1 : B' pb = none := h.st.off bp2 (show upd H2 L (.lst []) pb = some _ by rw [upd_ne (Ne.symm nLp)]; exact hp2)
      have e7' := e7.trans h.st.in_
      refine ⟨_, rfl, .inl ⟨rfl, vs, sq_of h.hL⟩, _, rfl, pb, _, _, rfl, hbi, rfl, _, rfl, w7, _, _, rfl, e7' _ _ hw7x, rfl, _, rfl, a, _, _, _, rfl, rfl, sx2, rfl, _, rfl, _, rfl, ?_⟩
      refine ⟨.ref w7, x, i, LL.tGet zs x, B', t, _, pd, (by rw [Int.zero_add]), h.st.in_, hw7.mono e7, (by rw [hg.ht]; exact hx), hg.n, (by have := hg.z1 x hx; omega), fun v3 B3 H3 s3 hw3 => ?_⟩
      obtain ⟨w3, dw3, ta3, va3, c13, c23, rfl, hw3x, _⟩ := id hw3
      have hb3 : BldAt K H3 pb dx ts ci := s3.fr pb _ (fun h => nomatch h) hbi
      have hL3 : H3 L = some (.lst vs) := s3.fr L _ (fun h => nomatch h) h.hL
      refine ⟨w3, _, _, rfl, s3.in_ _ _ hw3x, rfl, _, rfl, _, rfl, (show 2 ≤ sizeLine by omega), fun q3 nq3 => ?_⟩
      have t4 := Stp.new (ms := []) (o := .tup [.str "did", .int ((0 : Int) + (i : Nat))]) s3.in_ nq3
      refine ⟨.ref w3, .ref q3, b, ("did", [i]), _, _, _, pd, rfl, t4.in_, hw3.mono t4.base, ⟨q3, rfl, st_of (by rw [upd_same, Int.zero_add]; rfl)⟩, ?_, fun v5 B5 H5 s5 hw5 => ?_⟩
      · have := vGet_le (b := b) (vw := vAdd b ("asked", [kk, n]) vw)
        omega
      have s5 := t4.trans s5
      have bp3 : B3 pb = none := s3.off bp1 hbi
      have bp5 : B5 pb = none := s5.off bp3 hb3
      have hb5 : BldAt K H5 pb dx ts ci := s5.fr pb _ (fun h => nomatch h) hb3
      have s6 := s3.trans s5
      have hvw3 : (vAdd b ("did", [i]) (vAdd b ("asked", [kk, n]) vw)).1.length + (vAdd b ("did", [i]) (vAdd b ("asked", [kk, n]) vw)).2.length = _ := vw_add
      refine ⟨_, rfl, pb, dx, ts, v5, q0, B5, zs, _, _, pd, S, ci, f, xs, rfl, s5.in_, bp5, hb5, s6.base _ _ (e7 _ _ (s2.base _ _ hts)), hw5, ((hpend.mono s2.base).mono e7).mono s6.base, gm_part hg hx (by omega), by omega, hf, fun tr2 c2 v B8 H8 hF s8 hb8 hv => ?_, fun hF H8 d8 e8 h8 => ?_⟩
      · obtain ⟨hL8, h8⟩ := h.more nLp htr hpe hi hF (s6.nil.trans s8) hb8 hv
        exact ⟨L, vs, v, rfl, rfl, hL8, by rw [h.len]; omega, B8, _, _, h8, rfl⟩
      · refine k.2 ?_ H8 d8 ((s2.base.trans e7).trans (s6.base.trans e8)) h8
        show (partsF _ n 0 c).map _ = none
        rw [PtsAt.none_ hpe hi hF]
        rfl
    · obtain ⟨B', vs, u5, h, rfl⟩ := z
      obtain ⟨tr, cn, hpe, s4, hbn, htr⟩ := h.done s2.in_ nL
      have e4 := s4.base.trans s4.in_
      refine ⟨_, rfl, _, rfl, w7, _, _, _, _, rfl, e4 _ _ hw7x, T.c_Way, T.a_Way_views, rfl, _, rfl, va7, .ref (if b then c27 else c17), rfl, ?_, _, rfl, L, vs, rfl, .inl ⟨sq_of h.hL, fun l nl => ?_⟩⟩
      · have hgv := DGet.k (k := .inr (seatS b)) (e4 _ _ hva7)
        rw [seat_val] at hgv
        exact hgv
      have s5 := Stp.new (ms := []) (o := .tup vs) s4.in_ nl
      refine fun x1 dx1 nx1 ndx1 ne1 => ⟨x1, dx1, _, l, _, rfl, upd_same, rfl, ?_⟩
      rw [upd_twice]
      have s6 := Stp.made (ms := []) (C := ga K "Move") (fs := [("seat", .str (seatS b)), ("view", .ref (if b then c27 else c17)), ("parts", .ref l)]) s5.in_ nx1 ndx1 ne1
      have s7 := s5.trans s6
      refine k.1 (.mov b (vGet b (vAdd b ("asked", [kk, n]) vw)) tr) cn _ _ _ ?_ ((s2.trans s4).trans s7.nil) (s7.fr pb _ (fun h => nomatch h) hbn) (.mov upd_same ?_ (st_of (s6.base _ _ upd_same)) (htr.mono s7.base))
      · show (partsF _ n 0 c).map _ = _
        rw [hpe]
        rfl
      · cases b with
        | false => exact hc17.mono (s4.base.trans s7.base)
        | true => exact hc27.mono (s4.base.trans s7.base)
end
end LL
namespace LL
open PySem PySem.Spec PyProof.Rows L2 He Evl ND
/-! ### a node -/
theorem at0 {x : V} {r : List V} : atI (x :: r) 0 = some x := by
  have h := ixN_nat (n := (x :: r).length) (j := 0) (Nat.succ_pos _)
  unfold atI
  rw [show ((0 : Int)) = ((0 : Nat) : Int) from rfl, h]
  rfl
section
variable {w : World} {K : PySem.W.Frag} {mg : Str → Option Value} {base : Heap}
variable (W : TabW w K)
include W
theorem fn_node1 (T : Txt K mg) (d : Nat) (IH : Fn P w K mg base (9 + 2 * d) (ma K (ga K "Builder") "branch") (spBr K d)) : Fn P w K mg base (9 + 2 * d + 1) (ma K (ga K "Builder") "node") (spNode K d) := by
  refine fn_def T.d_Builder_node sc_Builder_node (fun _ _ _ _ _ _ us hl => match us, hl with | [_, _, _], _ => rfl) (fun vs H Q E h => ?_) (fun cdv A outer s H vs Q E hr h => ?_)
  · obtain ⟨_, _, _, _, _, _, _, _, _, _, _, _, _, _, rfl, _⟩ := h
    rfl
  obtain ⟨pb, dx, ts, wv, q0, B, zs, t, vw, pd, S, c, f, xs, rfl, e, hb, hp, hts, hw, hpend, hg, hd, hf, k⟩ := h
  have nd := sc_Builder_node.nd
  have hr1 : Room 1 _ := hr.mono (by omega)
  have hr2 : Room 2 _ := hr.mono (by omega)
  have hr3 : Room 3 _ := hr.mono (by omega)
  have hr8 : Room 8 _ := hr.mono (by omega)
  refine ⟨_, pss_cons (ps_fldaug (pv 0) (pe_int) in_add)
      (pss_cons (ps_if (pt_cmpR op_gt (pe_fld (pv 0) rfl) (pe_gi T.i_MOST_NODES) (nomark _)) (pss_one (ps_raise rfl (takes_of rfl rfl rfl rfl) (pmk_TooLarge T hr2 (pa_cons (pe_str) pa_nil)))) (pss_nil))
      (pss_cons (ps_while (passes_of rfl) (pt_cmpR op_notN (pv 2) (pe_non) (nomark _)) (pss_cons (ps_asg (pv 2) (pg_tup rfl (pgs_cons (pg_name (i := 3) nd rfl (by first | exact Or.inl rfl | exact Or.inr rfl)) (pgs_cons (pg_name (i := 2) nd rfl (by first | exact Or.inl rfl | exact Or.inr rfl)) pgs_nil))))
      (pss_cons (ps_if (pt_cmpR op_in_seq (pe_ix ix_tup (pv 3) (pe_int) (fun _ _ => rfl)) (pe_tup (pa_cons (pe_str) (pa_cons (pe_str) (pa_cons (pe_str) pa_nil)))) rfl) (pss_one (ps_ret (pe_methR (pv 0) T.c_Builder T.t_Builder_branch IH hr pc (pa_cons (pv 1) (pa_cons (pv 3) (pa_cons (pv 2) pa_nil)))))) (pss_nil))
      (pss_one (ps_if (pt_cmpR op_eq (pe_ix ix_tup (pv 3) (pe_int) (fun _ _ => rfl)) (pe_str) (nomark _)) (pss_one (ps_set (i := 2) nd rfl (by first | exact Or.inl rfl | exact Or.inr rfl) (pe_fn T.d_chained (fn_chained T) hr1 T.g_chained pc (pa_cons (pe_ifExp (pt_cmpR op_ne (pe_fn T.d_value_of (fn_value_of T) hr8 T.g_value_of pc (pa_cons (pe_ix ix_tup (pv 3) (pe_int) (fun _ _ => rfl)) (pa_cons (pe_fld (pv 1) rfl) pa_nil))) (pe_int) (nomark _)) (pe_ix ix_tup (pv 3) (pe_int) (fun _ _ => rfl)) (pe_ix ix_tup (pv 3) (pe_int) (fun _ _ => rfl))) (pa_cons (pv 2) pa_nil))))) (pss_one (ps_if (pt_cmpR op_eq (pe_ix ix_tup (pv 3) (pe_int) (fun _ _ => rfl)) (pe_str) (nomark _)) (pss_one (ps_set (i := 1) nd rfl (by first | exact Or.inl rfl | exact Or.inr rfl) (pe_methR (pv 1) T.c_Way T.t_Way_stored (fn_Way_stored T) hr3 pc (pa_cons (pe_ix ix_tup (pv 3) (pe_int) (fun _ _ => rfl)) (pa_cons (pe_fn T.d_value_of (fn_value_of T) hr8 T.g_value_of pc (pa_cons (pe_ix ix_tup (pv 3) (pe_int) (fun _ _ => rfl)) (pa_cons (pe_fld (pv 1) rfl) pa_nil))) (pa_cons (pe_dget (hu_of hr) (pe_fld (pv 0) rfl) (pe_ix ix_tup (pv 3) (pe_int) (fun _ _ => rfl)) (fun _ _ => rfl)) pa_nil)))))) (pss_one (ps_if (pt_cmpR op_eq (pe_ix ix_tup (pv 3) (pe_int) (fun _ _ => rfl)) (pe_str) (nomark _)) (pss_one (ps_set (i := 1) nd rfl (by first | exact Or.inl rfl | exact Or.inr rfl) (pe_methR (pv 1) T.c_Way T.t_Way_seen (fn_Way_seen T) hr3 pc (pa_cons (pe_ix ix_tup (pv 3) (pe_int) (fun _ _ => rfl)) (pa_cons (pe_tup (pa_cons (pe_str) (pa_cons (pe_fn T.d_value_of (fn_value_of T) hr8 T.g_value_of pc (pa_cons (pe_ix ix_tup (pv 3) (pe_int) (fun _ _ => rfl)) (pa_cons (pe_fld (pv 1) rfl) pa_nil))) pa_nil))) pa_nil))))) (pss_cons (ps_set (i := 4) nd rfl (by first | exact Or.inl rfl | exact Or.inr rfl) (pe_fn T.d_value_of (fn_value_of T) hr8 T.g_value_of pc (pa_cons (pe_ix ix_tup (pv 3) (pe_int) (fun _ _ => rfl)) (pa_cons (pe_fld (pv 1) rfl) pa_nil))))
      (pss_one (ps_set (i := 1) nd rfl (by first | exact Or.inl rfl | exact Or.inr rfl) (StX.pe_makeR T.m_Way (fn_Way_init T) hr2 rfl T.g_Way pc (pa_cons (pe_fld (pv 1) rfl) (pa_cons (pe_fld (pv 1) rfl) (pa_cons (pe_op op_add (pe_fld (pv 1) rfl) (pe_ifExp (pt_cmpR op_eq (pe_ix ix_tup (pv 3) (pe_int) (fun _ _ => rfl)) (pe_str) (nomark _)) (pv 4) (pe_un un_neg (pv 4)))) pa_nil))))))))))))))))
      (pss_one (ps_ret (StX.pe_makeR T.m_End (fn_End_init T) hr2 rfl T.g_End pc (pa_cons (pe_fld (pv 1) rfl) pa_nil)))))), ?_⟩
  refine ⟨_, rfl, pb, _, dx, _, _, rfl, hp, T.c_Builder, T.a_Builder_count, rfl, _, _, rfl, rfl, _, _, hp, (show 2 < 1000 by decide), ?_⟩
  have s1 := Stp.put (ms := [pb]) (o := .ins (ga K "Builder") dx [("sizes", .ref ts), ("count", .int ((c : Int) + 1))]) e hb (.head _)
  have hp1 : BldAt K (upd H pb (.ins (ga K "Builder") dx [("sizes", .ref ts), ("count", .int ((c : Int) + 1))])) pb dx ts (c + 1) := upd_same
  refine ⟨_, rfl, pb, _, _, _, _, rfl, hp1, T.c_Builder, T.a_Builder_count, rfl, _, _, rfl, rfl, _, rfl, ifs (fun c1 => ?_) fun c1 => ?_⟩
  · have hc : c + 1 > 400 := by have := of_decide_eq_true c1; omega
    refine ⟨_, rfl, fun d0 nd0 => k.2 (if_pos hc) _ d0 (s1.in_.trans (Ex.new nd0)) upd_same⟩
  have hc : ¬ c + 1 > 400 := fun z => absurd c1 (by rw [decide_eq_true (by omega)]; exact fun z => nomatch z)
  have hnode : nodeT zs f t vw pd S c = goT zs f t vw pd S (c + 1) := if_neg hc
  rw [hnode] at k
  refine ⟨fun m σ H' => ∃ (B' : Hp) (wv q : V) (t' : Tbl) (vw' : Vws) (pd' : Int) (S' : List Stm) (u3 u4 : Option V), Stp [pb] B H B' H' ∧ BldAt K H' pb dx ts (c + 1) ∧ WayAt K B' wv t' vw' pd' ∧ PendAt K B' q S' ∧ GmOk xs zs t' S' vw' ∧ nbB S' ≤ d ∧ szB S' < m ∧
    goT zs m t' vw' pd' S' (c + 1) = goT zs f t vw pd S (c + 1) ∧ σ = [some (.ref pb), some wv, some q, u3, u4], ⟨f, B, wv, q0, t, vw, pd, S, none, none, s1, hp1, hw, hpend, hg, hd, hf, rfl, rfl⟩, ?_⟩
  rintro m σ H' ⟨B', wv, q, t', vw', pd', S', u3, u4, s2, hp2, hw2, hq2, hg2, hd2, hf2, hgo, rfl⟩
  obtain ⟨wx, dwx, ta, va, c1', c2', rfl, hwx, hta, hva, _⟩ := id hw2
  have bp2 : B' pb = none := s2.off hb hp
  cases m with
  | zero => omega
  | succ m =>
  refine ⟨_, rfl, rfl, _, rfl, ?_⟩
  cases S' with
  | nil =>
    obtain rfl : q = .non := hq2
    refine ⟨_, rfl, wx, _, _, _, _, rfl, s2.in_ _ _ hwx, T.c_Way, T.a_Way_paid, rfl, fun x1 dx1 nx1 ndx1 ne1 => ⟨x1, dx1, pd', rfl, upd_same, rfl, ?_⟩⟩
    rw [upd_twice]
    have s3 := Stp.made (ms := []) (C := ga K "End") (fs := [("paid", .int pd')]) s2.in_ nx1 ndx1 ne1
    refine k.1 (.fin pd') (c + 1) _ _ _ ?_ (s2.trans s3.nil) (s3.fr pb _ (fun h => nomatch h) hp2) (.fin upd_same)
    rw [← hgo]
    rfl
  | cons st S' =>
    obtain ⟨qa, rv, q2, rfl, hqa, hrv, hq3⟩ := hq2
    have hsz := szB_pos st
    rw [szB] at hf2
    have hnb := hd2
    rw [nbB] at hnb
    have hwf := hg2.wf
    rw [wfB] at hwf
    obtain ⟨hws, hwS⟩ := hwf
    have hvw := hg2.hv
    rw [szB] at hvw
    refine ⟨fun σ2 H2 => ∃ m', m' < m + 1 ∧ ∃ (B' : Hp) (wv q : V) (t' : Tbl) (vw' : Vws) (pd' : Int) (S' : List Stm) (u3 u4 : Option V), Stp [pb] B H B' H2 ∧ BldAt K H2 pb dx ts (c + 1) ∧ WayAt K B' wv t' vw' pd' ∧ PendAt K B' q S' ∧ GmOk xs zs t' S' vw' ∧ nbB S' ≤ d ∧ szB S' < m' ∧
      goT zs m' t' vw' pd' S' (c + 1) = goT zs f t vw pd S (c + 1) ∧ σ2 = [some (.ref pb), some wv, some q, u3, u4], fun _ _ h => h, ?_⟩
    refine ⟨_, rfl, qa, _, rfl, ex_t s2.in_ hqa, rfl, _, _, rfl, _, _, rfl, rfl, ?_⟩
    have rowd := hrv
    by_cases hbr : isBr st
    · obtain ⟨r, rest, hh, rfl, sxr, hin⟩ : ∃ r rest hh, rv = .ref r ∧ SqT K B' r (.str hh :: rest) ∧ inV (.str hh) [.str "draw", .str "choose", .str "come"] = true := by
        cases st with
        | draw x n =>
          obtain ⟨r, vs, h1, h2, h3⟩ := dp_tupK (show Dp K B' rv (.tuple [.str "draw", .str x, .int (n : Nat)]) from hrv)
          obtain ⟨rest, rfl, _⟩ := dpa_s h3
          exact ⟨r, rest, _, h1, h2, rfl⟩
        | move b x n kk =>
          obtain ⟨r, vs, h1, h2, h3⟩ := dp_tupK (show Dp K B' rv (.tuple [.str (if b then "come" else "choose"), .str x, .int (n : Nat), .int (kk : Nat)]) from hrv)
          obtain ⟨rest, rfl, _⟩ := dpa_s h3
          exact ⟨r, rest, _, h1, h2, by cases b <;> rfl⟩
        | set _ _ => exact hbr.elim
        | shw _ _ => exact hbr.elim
        | pay _ _ => exact hbr.elim
        | ite _ _ _ => exact hbr.elim
      refine q_when (et_test (ev_inU (ev_op (ev_var rfl) ev_c (rv_ixT (ex_t s2.in_ sxr) at0)) (eu_tup (ea_cons ev_c (ea_cons ev_c (ea_cons ev_c ea_nil))) (by decide)) rfl rfl)) (fun _ H1 e1 => ?_) (fun z => absurd z (by rw [hin]; exact fun z => nomatch z))
      refine ⟨_, rfl, pb, _, _, rfl, e1 _ _ hp2, rfl, _, rfl, _, rfl, _, rfl, ?_⟩
      have s3 := s2.trans (Stp.ofEx (ms := [pb]) s2.in_ e1)
      have hnS : nbB S' + 1 ≤ d := by
        cases st with
        | draw _ _ => rw [nbS] at hnb; omega
        | move _ _ _ _ => rw [nbS] at hnb; omega
        | set _ _ => exact hbr.elim
        | shw _ _ => exact hbr.elim
        | pay _ _ => exact hbr.elim
        | ite _ _ _ => exact hbr.elim
      have hgb : goT zs (m + 1) t' vw' pd' (st :: S') (c + 1) = brT zs m t' vw' pd' S' (c + 1) st := by
        cases st with
        | draw _ _ => rfl
        | move _ _ _ _ => rfl
        | set _ _ => exact hbr.elim
        | shw _ _ => exact hbr.elim
        | pay _ _ => exact hbr.elim
        | ite _ _ _ => exact hbr.elim
      exact ⟨pb, dx, ts, .ref wx, .ref r, q2, B', zs, t', vw', pd', st, S', c + 1, m, xs, rfl, s3.in_, bp2, e1 _ _ hp2, s2.base _ _ hts, hw2, hrv, hq3, hg2, hbr, hnS, by omega, by rw [← hgb, hgo]; exact k.step s3⟩
    · obtain ⟨r, rest, hh, rfl, sxr, hin⟩ : ∃ r rest hh, rv = .ref r ∧ SqT K B' r (.str hh :: rest) ∧ inV (.str hh) [.str "draw", .str "choose", .str "come"] = false := by
        cases st with
        | set x ex =>
          obtain ⟨r, vs, h1, h2, h3⟩ := dp_tupK (show Dp K B' rv (.tuple [.str "set", .str x, exD ex]) from hrv)
          obtain ⟨rest, rfl, _⟩ := dpa_s h3
          exact ⟨r, rest, _, h1, h2, rfl⟩
        | shw b ex =>
          obtain ⟨r, vs, h1, h2, h3⟩ := dp_tupK (show Dp K B' rv (.tuple [.str "show", .str (seatS b), exD ex]) from hrv)
          obtain ⟨rest, rfl, _⟩ := dpa_s h3
          exact ⟨r, rest, _, h1, h2, rfl⟩
        | pay b ex =>
          obtain ⟨r, vs, h1, h2, h3⟩ := dp_tupK (show Dp K B' rv (.tuple [.str (if b then "take" else "pay"), exD ex]) from hrv)
          obtain ⟨rest, rfl, _⟩ := dpa_s h3
          exact ⟨r, rest, _, h1, h2, by cases b <;> rfl⟩
        | ite ex A2 B2 =>
          obtain ⟨r, vs, h1, h2, h3⟩ := dp_tupK (show Dp K B' rv (.tuple [.str "if", exD ex, .tuple (blD A2), .tuple (blD B2)]) from hrv)
          obtain ⟨rest, rfl, _⟩ := dpa_s h3
          exact ⟨r, rest, _, h1, h2, rfl⟩
        | draw _ _ => exact absurd trivial hbr
        | move _ _ _ _ => exact absurd trivial hbr
      refine q_when (et_test (ev_inU (ev_op (ev_var rfl) ev_c (rv_ixT (ex_t s2.in_ sxr) at0)) (eu_tup (ea_cons ev_c (ea_cons ev_c (ea_cons ev_c ea_nil))) (by decide)) rfl rfl)) (fun z => absurd z (by rw [hin]; exact fun z => nomatch z)) (fun _ H1 e1 => ?_)
      have s3 := s2.trans (Stp.ofEx (ms := [pb]) s2.in_ e1)
      have hp3 := e1 _ _ hp2
      clear e1
      have hwx3 := s3.in_ _ _ hwx
      have hta3 := s3.in_ _ _ hta
      have hts3 := s3.in_ _ _ (s2.base _ _ hts)
      have bp3 := bp2
      have hn2 : nbS st + nbB S' ≤ d := hnb
      clear hnb s2
      -- what a turn leaves behind
      have turn : ∀ {H2 : Hp} {B2 : Hp} {v2 q4 : V} {t2 : Tbl} {vw2 : Vws} {pd2 : Int} {S2 : List Stm} {u3 u4 : Option V}, Stp [] B' H1 B2 H2 → WayAt K B2 v2 t2 vw2 pd2 → PendAt K B2 q4 S2 → t2.map (·.1) = xs → TblOk t2 → t2.length ≤ 100 → wfB xs S2 → vw2.1.length + vw2.2.length + 2 * szB S2 ≤ 900 → nbB S2 ≤ d → szB S2 < m → goT zs (m + 1) t' vw' pd' (st :: S') (c + 1) = goT zs m t2 vw2 pd2 S2 (c + 1) →
          ∃ m', m' < m + 1 ∧ ∃ (B' : Hp) (wv q : V) (t' : Tbl) (vw' : Vws) (pd' : Int) (S' : List Stm) (u3' u4' : Option V), Stp [pb] B H B' H2 ∧ BldAt K H2 pb dx ts (c + 1) ∧ WayAt K B' wv t' vw' pd' ∧ PendAt K B' q S' ∧ GmOk xs zs t' S' vw' ∧ nbB S' ≤ d ∧ szB S' < m' ∧
            goT zs m' t' vw' pd' S' (c + 1) = goT zs f t vw pd S (c + 1) ∧ [some (V.ref pb), some v2, some q4, u3, u4] = [some (.ref pb), some wv, some q, u3', u4'] :=
        fun s h1 h2 h3 h4 h5 h6 h7 h8 h9 h10 => ⟨m, Nat.lt_succ_self m, _, _, _, _, _, _, _, _, _, s3.trans s.nil, s.fr pb _ (fun h => nomatch h) hp3, h1, h2, ⟨hg2.hz, h3, h4, hg2.z1, h6, h7, h5⟩, h8, h9, by rw [← h10]; exact hgo, rfl⟩
      cases st with
      | draw _ _ => exact absurd trivial hbr
      | move _ _ _ _ => exact absurd trivial hbr
      | ite ex A2 B2 =>
        obtain ⟨r', vs, h1, h2, h3⟩ := dp_tupK (show Dp K B' (.ref r) (.tuple [.str "if", exD ex, .tuple (blD A2), .tuple (blD B2)]) from hrv)
        cases h1
        obtain ⟨_, rfl, h4⟩ := dpa_s h3
        obtain ⟨ve, _, rfl, hve, h5⟩ := dpa_c h4
        obtain ⟨vA, _, rfl, hvA, h6⟩ := dpa_c h5
        obtain ⟨vB, _, rfl, hvB, h7⟩ := dpa_c h6
        cases dpa_n h7
        have sx := ex_t s3.in_ h2
        rw [wfS] at hws
        rw [szS] at hf2 hvw
        rw [nbS] at hn2
        refine ⟨_, rfl, r, _, _, _, rfl, rfl, sx, rfl, rfl, _, rfl, ifs (fun _ => ?_) fun z => absurd rfl (of_decide_eq_false z)⟩
        refine ⟨_, rfl, r, _, _, _, rfl, rfl, sx, rfl, _, rfl, wx, _, _, _, _, rfl, hwx3, T.c_Way, T.a_Way_table, rfl, ve, ta, ex, t', xs, rfl, dp_mono s3.in_ hve, hta3, hg2.ht, hg2.ok, hws.1.1, hws.1.2, rfl, _, rfl, ifs (fun hc => ?_) fun hc => ?_⟩
        · have hne : exV t' ex ≠ 0 := fun z => by
            rw [z] at hc
            exact absurd hc (by decide)
          refine ⟨_, rfl, r, _, _, _, rfl, rfl, sx, rfl, _, rfl, vA, q2, B', A2, S', rfl, s3.in_, hvA, hq3, fun v B3 H3 s4 hp4 => ?_⟩
          refine turn s4 (hw2.mono s4.base) hp4 hg2.ht hg2.ok hg2.n (wfB_app hws.2.1 hwS) (by rw [szB_app]; omega) (by rw [nbB_app]; omega) (by rw [szB_app]; omega) ?_
          show goT zs m t' vw' pd' ((if exV t' ex ≠ 0 then A2 else B2) ++ S') (c + 1) = _
          rw [if_pos hne]
        · have hne : ¬ exV t' ex ≠ 0 := fun z => z (by
            have h : decide (V.int (exV t' ex : Nat) = V.int 0) = true := by
              cases hx : decide (V.int (exV t' ex : Nat) = V.int 0) with
              | true => rfl
              | false => rw [hx] at hc; cases hc
            have := V.int.inj (of_decide_eq_true h)
            omega)
          refine ⟨_, rfl, r, _, _, _, rfl, rfl, sx, rfl, _, rfl, vB, q2, B', B2, S', rfl, s3.in_, hvB, hq3, fun v B3 H3 s4 hp4 => ?_⟩
          refine turn s4 (hw2.mono s4.base) hp4 hg2.ht hg2.ok hg2.n (wfB_app hws.2.2 hwS) (by rw [szB_app]; omega) (by rw [nbB_app]; omega) (by rw [szB_app]; omega) ?_
          show goT zs m t' vw' pd' ((if exV t' ex ≠ 0 then A2 else B2) ++ S') (c + 1) = _
          rw [if_neg hne]
      | set x ex =>
        obtain ⟨r', vs, h1, h2, h3⟩ := dp_tupK (show Dp K B' (.ref r) (.tuple [.str "set", .str x, exD ex]) from hrv)
        cases h1
        obtain ⟨_, rfl, h4⟩ := dpa_s h3
        obtain ⟨_, rfl, h5⟩ := dpa_s h4
        obtain ⟨ve, _, rfl, hve, h6⟩ := dpa_c h5
        cases dpa_n h6
        have sx := ex_t s3.in_ h2
        rw [wfS] at hws
        refine ⟨_, rfl, r, _, _, _, rfl, rfl, sx, rfl, rfl, _, rfl, ifs (fun z => absurd (V.str.inj (of_decide_eq_true z)) (by decide)) fun _ => ?_⟩
        refine ⟨_, rfl, r, _, _, _, rfl, rfl, sx, rfl, rfl, _, rfl, ifs (fun _ => ?_) fun z => absurd rfl (of_decide_eq_false z)⟩
        have hgz : DGet H1 ts (.str x) (some (.int (LL.tGet zs x : Nat))) := by
          have h := DGet.k (k := .inr x) hts3
          rw [tK_get (by rw [hg2.hz]; exact hws.1)] at h
          exact h
        have hz1 := hg2.z1 x hws.1
        refine ⟨_, rfl, wx, _, _, rfl, hwx3, rfl, _, rfl, r, _, _, _, rfl, rfl, sx, rfl, _, rfl, r, _, _, _, rfl, rfl, sx, rfl, _, rfl, wx, _, _, _, _, rfl, hwx3, T.c_Way, T.a_Way_table, rfl, ve, ta, ex, t', xs, rfl, dp_mono s3.in_ hve, hta3, hg2.ht, hg2.ok, hws.2.1, hws.2.2, _, rfl, pb, _, _, _, _, rfl, hp3, T.c_Builder, T.a_Builder_sizes, rfl, _, rfl, r, _, _, _, rfl, rfl, sx, rfl, ts, _, rfl, hgz, ?_⟩
        refine ⟨.ref wx, x, exV t' ex, LL.tGet zs x, B', t', vw', pd', rfl, s3.in_, hw2, (by rw [hg2.ht]; exact hws.1), hg2.n, by omega, fun v2 B3 H3 s4 hw4 => ?_⟩
        refine turn s4 hw4 (hq3.mono s4.base) (by rw [tPut_names]; exact hg2.ht) (tPut_ok hg2.ok ?_) ?_ hwS (by omega) (by omega) (by omega) rfl
        · have := Nat.mod_lt (exV t' ex) (show 0 < LL.tGet zs x by omega)
          omega
        · have : (LL.tPut t' x (exV t' ex % LL.tGet zs x)).length = t'.length := by unfold LL.tPut; rw [List.length_map]
          rw [this]; exact hg2.n
      | shw b ex =>
        obtain ⟨r', vs, h1, h2, h3⟩ := dp_tupK (show Dp K B' (.ref r) (.tuple [.str "show", .str (seatS b), exD ex]) from hrv)
        cases h1
        obtain ⟨_, rfl, h4⟩ := dpa_s h3
        obtain ⟨_, rfl, h5⟩ := dpa_s h4
        obtain ⟨ve, _, rfl, hve, h6⟩ := dpa_c h5
        cases dpa_n h6
        have sx := ex_t s3.in_ h2
        rw [wfS] at hws
        refine ⟨_, rfl, r, _, _, _, rfl, rfl, sx, rfl, rfl, _, rfl, ifs (fun z => absurd (V.str.inj (of_decide_eq_true z)) (by decide)) fun _ => ?_⟩
        refine ⟨_, rfl, r, _, _, _, rfl, rfl, sx, rfl, rfl, _, rfl, ifs (fun z => absurd (V.str.inj (of_decide_eq_true z)) (by decide)) fun _ => ?_⟩
        refine ⟨_, rfl, r, _, _, _, rfl, rfl, sx, rfl, rfl, _, rfl, ifs (fun _ => ?_) fun z => absurd rfl (of_decide_eq_false z)⟩
        refine ⟨_, rfl, wx, _, _, rfl, hwx3, rfl, _, rfl, r, _, _, _, rfl, rfl, sx, rfl, _, rfl, r, _, _, _, rfl, rfl, sx, rfl, _, rfl, wx, _, _, _, _, rfl, hwx3, T.c_Way, T.a_Way_table, rfl, ve, ta, ex, t', xs, rfl, dp_mono s3.in_ hve, hta3, hg2.ht, hg2.ok, hws.1, hws.2, (show 2 ≤ sizeLine by decide), fun q5 nq5 => ?_⟩
        have t4 := Stp.new (ms := []) (o := .tup [.str "shown", .int (exV t' ex : Nat)]) s3.in_ nq5
        refine ⟨.ref wx, .ref q5, b, ("shown", [exV t' ex]), _, t', vw', pd', rfl, t4.in_, hw2.mono t4.base, ⟨q5, rfl, st_of upd_same⟩, ?_, fun v2 B3 H3 s4 hw4 => ?_⟩
        · have := vGet_le (b := b) (vw := vw')
          omega
        have s5 := t4.trans s4
        have hva : (vAdd b ("shown", [exV t' ex]) vw').1.length + (vAdd b ("shown", [exV t' ex]) vw').2.length = _ := vw_add
        exact turn s5 hw4 (hq3.mono s5.base) hg2.ht hg2.ok hg2.n hwS (by omega) (by omega) (by omega) rfl
      | pay b ex =>
        obtain ⟨r', vs, h1, h2, h3⟩ := dp_tupK (show Dp K B' (.ref r) (.tuple [.str (if b then "take" else "pay"), exD ex]) from hrv)
        cases h1
        obtain ⟨_, rfl, h4⟩ := dpa_s h3
        obtain ⟨ve, _, rfl, hve, h5⟩ := dpa_c h4
        cases dpa_n h5
        have sx := ex_t s3.in_ h2
        rw [wfS] at hws
        refine ⟨_, rfl, r, _, _, _, rfl, rfl, sx, rfl, rfl, _, rfl, ifs (fun z => absurd (V.str.inj (of_decide_eq_true z)) (by cases b <;> decide)) fun _ => ?_⟩
        refine ⟨_, rfl, r, _, _, _, rfl, rfl, sx, rfl, rfl, _, rfl, ifs (fun z => absurd (V.str.inj (of_decide_eq_true z)) (by cases b <;> decide)) fun _ => ?_⟩
        refine ⟨_, rfl, r, _, _, _, rfl, rfl, sx, rfl, rfl, _, rfl, ifs (fun z => absurd (V.str.inj (of_decide_eq_true z)) (by cases b <;> decide)) fun _ => ?_⟩
        refine ⟨_, rfl, r, _, _, _, rfl, rfl, sx, rfl, _, rfl, wx, _, _, _, _, rfl, hwx3, T.c_Way, T.a_Way_table, rfl, ve, ta, ex, t', xs, rfl, dp_mono s3.in_ hve, hta3, hg2.ht, hg2.ok, hws.1, hws.2, ?_⟩
        obtain ⟨_, _, _, _, c1', c2', hh1, hwx', hta', hva', hc1, hc2⟩ := id hw2
        cases hh1
        rw [hwx] at hwx'
        cases hwx'
        have fin : ∀ n : Int, n = pd' + (if b then -(exV t' ex : Int) else (exV t' ex : Int)) → ∀ (u3 u4 : Option V) x1 dx1, H1 x1 = none → H1 dx1 = none → dx1 ≠ x1 → spWayI K [.ref x1, .ref ta, .ref va, .int n] (upd (upd H1 dx1 (.own x1)) x1 (.ins (ga K "Way") dx1 [])) (fun v H2 => v = .non ∧
            ∃ m', m' < m + 1 ∧ ∃ (B' : Hp) (wv q : V) (t' : Tbl) (vw' : Vws) (pd' : Int) (S' : List Stm) (u3' u4' : Option V), Stp [pb] B H B' H2 ∧ BldAt K H2 pb dx ts (c + 1) ∧ WayAt K B' wv t' vw' pd' ∧ PendAt K B' q S' ∧ GmOk xs zs t' S' vw' ∧ nbB S' ≤ d ∧ szB S' < m' ∧
            goT zs m' t' vw' pd' S' (c + 1) = goT zs f t vw pd S (c + 1) ∧ [some (V.ref pb), some (.ref x1), some q2, u3, u4] = [some (.ref pb), some wv, some q, u3', u4']) E := by
          intro n hn u3 u4 x1 dx1 nx1 ndx1 ne1
          subst hn
          exact mk_way (ms := []) (Q := fun v H2 => ∃ m', m' < m + 1 ∧ ∃ (B' : Hp) (wv q : V) (t' : Tbl) (vw' : Vws) (pd' : Int) (S' : List Stm) (u3' u4' : Option V), Stp [pb] B H B' H2 ∧ BldAt K H2 pb dx ts (c + 1) ∧ WayAt K B' wv t' vw' pd' ∧ PendAt K B' q S' ∧ GmOk xs zs t' S' vw' ∧ nbB S' ≤ d ∧ szB S' < m' ∧
            goT zs m' t' vw' pd' S' (c + 1) = goT zs f t vw pd S (c + 1) ∧ [some (V.ref pb), some v, some q2, u3, u4] = [some (.ref pb), some wv, some q, u3', u4']) s3.in_ hta' hva' hc1 hc2 (fun v B3 H3 s4 hw4 => turn s4 hw4 (hq3.mono s4.base) hg2.ht hg2.ok hg2.n hwS (by omega) (by omega) (by omega) rfl) x1 dx1 nx1 ndx1 ne1
        refine ⟨_, rfl, wx, _, _, _, _, rfl, hwx3, T.c_Way, T.a_Way_table, rfl, _, rfl, wx, _, _, _, _, rfl, hwx3, T.c_Way, T.a_Way_views, rfl, _, rfl, wx, _, _, _, _, rfl, hwx3, T.c_Way, T.a_Way_paid, rfl, _, rfl, r, _, _, _, rfl, rfl, sx, rfl, rfl, _, rfl, ifs (fun hc => ?_) fun hc => ?_⟩
        · refine ⟨_, rfl, _, _, rfl, rfl, fun x1 dx1 nx1 ndx1 ne1 => fin _ ?_ _ _ x1 dx1 nx1 ndx1 ne1⟩
          cases b with
          | false => rfl
          | true => exact absurd (V.str.inj (of_decide_eq_true hc)) (by decide)
        · refine ⟨_, rfl, _, rfl, _, _, rfl, rfl, fun x1 dx1 nx1 ndx1 ne1 => fin _ ?_ _ _ x1 dx1 nx1 ndx1 ne1⟩
          cases b with
          | false => exact absurd rfl (of_decide_eq_false hc)
          | true => rfl
theorem fn_br0 : Fn P w K mg base 9 (ma K (ga K "Builder") "branch") (spBr K 0) :=
  fun _ _ _ _ _ _ _ _ _ _ _ ⟨_, _, _, _, _, _, _, _, _, _, _, _, _, _, _, _, _, _, _, _, _, _, _, _, _, _, h, _⟩ => absurd h (Nat.not_succ_le_zero _)
theorem fn_nb (T : Txt K mg) : ∀ d, Fn P w K mg base (9 + 2 * d) (ma K (ga K "Builder") "branch") (spBr K d) ∧ Fn P w K mg base (9 + 2 * d + 1) (ma K (ga K "Builder") "node") (spNode K d)
  | 0 => ⟨fn_br0 W, fn_node1 W T 0 (fn_br0 W)⟩
  | d + 1 => by
    have h := fn_br1 W T d ((fn_nb T d).2.mono (by omega))
    have h2 : Fn P w K mg base (9 + 2 * (d + 1)) (ma K (ga K "Builder") "branch") (spBr K (d + 1)) := h.mono (by omega)
    exact ⟨h2, fn_node1 W T (d + 1) h2⟩
theorem fn_Builder_node (T : Txt K mg) : Fn P w K mg base 40 (ma K (ga K "Builder") "node") (spNode K 14) := (fn_nb W T 14).2.mono (by decide)
end
end LL
namespace LL
open PySem PySem.Spec PyProof.Rows L2 He Evl ND
/-! ### the law's own tree: numbers, tables -/
section
variable {w : World} {K : PySem.W.Frag} {mg : Str → Option Value} {base : Heap}
theorem fn_numo1 (T : Txt K mg) (n : Nat) (IH : Fn P w K mg base n (ga K "_law_number_of") (fun us H Q E => ∃ m, n = m + 1 ∧ spVal K m us H Q E)) : Fn P w K mg base (n + 1) (ga K "_law_number_of") (spVal K n) := by
  refine fn_def T.d_l_number_of sc_l_number_of (fun _ _ _ _ _ _ us hl => match us, hl with | [_, _], _ => rfl) (fun vs H Q E h => ?_) (fun cdv A outer s H vs Q E hr h => ?_)
  · obtain ⟨_, _, _, _, _, rfl, _⟩ := h
    rfl
  obtain ⟨v, a, e, t, xs, rfl, hd, ha, hx, hT, hw, hn, k⟩ := h
  have nd := sc_l_number_of.nd
  refine ⟨_, pss_cons (ps_if (pt_cmpR op_eq (pe_ix ix_tup (pv 0) (pe_int) (fun _ _ => rfl)) (pe_str) (nomark _)) (pss_one (ps_ret (pe_ix ix_tup (pv 0) (pe_int) (fun _ _ => rfl)))) (pss_nil))
      (pss_cons (ps_if (pt_cmpR op_eq (pe_ix ix_tup (pv 0) (pe_int) (fun _ _ => rfl)) (pe_str) (nomark _)) (pss_one (ps_ret (pe_dget (hu_of hr) (pv 1) (pe_ix ix_tup (pv 0) (pe_int) (fun _ _ => rfl)) (fun _ _ => rfl)))) (pss_nil))
      (pss_cons (ps_set (i := 2) nd rfl (by first | exact Or.inl rfl | exact Or.inr rfl) (pe_fn T.d_l_number_of IH hr T.g_l_number_of pc (pa_cons (pe_ix ix_tup (pv 0) (pe_int) (fun _ _ => rfl)) (pa_cons (pv 1) pa_nil))))
      (pss_cons (ps_set (i := 3) nd rfl (by first | exact Or.inl rfl | exact Or.inr rfl) (pe_fn T.d_l_number_of IH hr T.g_l_number_of pc (pa_cons (pe_ix ix_tup (pv 0) (pe_int) (fun _ _ => rfl)) (pa_cons (pv 1) pa_nil))))
      (pss_cons (ps_if (pt_cmpR op_eq (pe_ix ix_tup (pv 0) (pe_int) (fun _ _ => rfl)) (pe_str) (nomark _)) (pss_one (ps_ret (pe_op op_sub (pe_op op_add (pv 2) (pv 3)) (pe_op op_mul (pe_int) (pe_callTy call_int1 (by rfl) T.f_int (by decide +kernel) (pa_cons (pe_cmpR op_gt (pe_op op_add (pv 2) (pv 3)) (pe_int) (nomark _)) pa_nil)))))) (pss_nil))
      (pss_cons (ps_if (pt_cmpR op_eq (pe_ix ix_tup (pv 0) (pe_int) (fun _ _ => rfl)) (pe_str) (nomark _)) (pss_one (ps_ret (pe_callB (call_max2 rfl) (by rfl) T.f_max (by decide +kernel) (pa_cons (pe_int) (pa_cons (pe_op op_sub (pv 2) (pv 3)) pa_nil))))) (pss_nil))
      (pss_cons (ps_if (pt_cmpR op_eq (pe_ix ix_tup (pv 0) (pe_int) (fun _ _ => rfl)) (pe_str) (nomark _)) (pss_one (ps_ret (pe_op op_sub (pe_op op_mul (pv 2) (pv 3)) (pe_op op_mul (pe_op op_fdiv (pe_op op_mul (pv 2) (pv 3)) (pe_int)) (pe_int))))) (pss_nil))
      (pss_cons (ps_if (pt_cmpR op_eq (pe_ix ix_tup (pv 0) (pe_int) (fun _ _ => rfl)) (pe_str) (nomark _)) (pss_one (ps_ret (pe_callTy call_int1 (by rfl) T.f_int (by decide +kernel) (pa_cons (pe_cmpR op_lt (pv 2) (pv 3) (nomark _)) pa_nil)))) (pss_nil))
      (pss_cons (ps_if (pt_cmpR op_eq (pe_ix ix_tup (pv 0) (pe_int) (fun _ _ => rfl)) (pe_str) (nomark _)) (pss_one (ps_ret (pe_callTy call_int1 (by rfl) T.f_int (by decide +kernel) (pa_cons (pe_cmpR op_eq (pv 2) (pv 3) (nomark _)) pa_nil)))) (pss_nil))
      (pss_cons (ps_if (pt_cmpR op_eq (pv 3) (pe_int) (nomark _)) (pss_one (ps_ret (pe_int))) (pss_nil))
      (pss_cons (ps_set (i := 4) nd rfl (by first | exact Or.inl rfl | exact Or.inr rfl) (pe_op op_fdiv (pv 2) (pv 3)))
      (pss_cons (ps_if (pt_cmpR op_eq (pe_ix ix_tup (pv 0) (pe_int) (fun _ _ => rfl)) (pe_str) (nomark _)) (pss_one (ps_ret (pv 4))) (pss_nil))
      (pss_one (ps_ret (pe_op op_sub (pv 2) (pe_op op_mul (pv 4) (pv 3)))))))))))))))), ?_⟩
  cases e with
  | num i =>
    obtain ⟨b, vs, rfl, sx, dx⟩ := dp_tupK hd
    obtain ⟨_, rfl, dx1⟩ := dpa_s dx
    obtain ⟨_, rfl, dx2⟩ := dpa_i dx1
    cases dpa_n dx2
    refine ⟨_, rfl, b, _, _, _, rfl, rfl, sx, rfl, rfl, _, rfl, ifs (fun _ => ?_) fun c => absurd rfl (of_decide_eq_false c)⟩
    exact ⟨_, rfl, b, _, _, _, rfl, rfl, sx, rfl, k⟩
  | var x =>
    obtain ⟨b, vs, rfl, sx, dx⟩ := dp_tupK hd
    obtain ⟨_, rfl, dx1⟩ := dpa_s dx
    obtain ⟨_, rfl, dx2⟩ := dpa_s dx1
    cases dpa_n dx2
    refine ⟨_, rfl, b, _, _, _, rfl, rfl, sx, rfl, rfl, _, rfl, ifs (fun c => absurd (of_decide_eq_true c) (fun z => absurd (V.str.inj z) (by decide))) fun _ => ?_⟩
    refine ⟨_, rfl, b, _, _, _, rfl, rfl, sx, rfl, rfl, _, rfl, ifs (fun _ => ?_) fun c => absurd rfl (of_decide_eq_false c)⟩
    refine ⟨_, rfl, _, rfl, b, _, _, _, rfl, rfl, sx, rfl, a, _, rfl, ?_, k⟩
    have hg := DGet.k (k := .inr x) ha
    rw [tK_get (by rw [hx]; exact hw)] at hg
    exact hg
  | op sg l r =>
    obtain ⟨b, vs, rfl, sx, dx⟩ := dp_tupK hd
    obtain ⟨_, rfl, dx1⟩ := dpa_s dx
    obtain ⟨vl, _, rfl, hl, dx2⟩ := dpa_c dx1
    obtain ⟨vr, _, rfl, hr', dx3⟩ := dpa_c dx2
    cases dpa_n dx3
    obtain ⟨hs, hwl, hwr⟩ := hw
    have hno := sign_no hs
    rw [dpE_op] at hn
    cases n with
    | zero => omega
    | succ n =>
    have hla := exV_le hT hwl
    have hlb := exV_le hT hwr
    refine ⟨_, rfl, b, _, _, _, rfl, rfl, sx, rfl, rfl, _, rfl, ifs (fun c => absurd (V.str.inj (of_decide_eq_true c)) hno.1) fun _ => ?_⟩
    refine ⟨_, rfl, b, _, _, _, rfl, rfl, sx, rfl, rfl, _, rfl, ifs (fun c => absurd (V.str.inj (of_decide_eq_true c)) hno.2) fun _ => ?_⟩
    refine ⟨_, rfl, b, _, _, _, rfl, rfl, sx, rfl, _, rfl, n, rfl, vl, a, l, t, xs, rfl, hl, ha, hx, hT, hwl, by omega, ?_⟩
    refine ⟨_, rfl, b, _, _, _, rfl, rfl, sx, rfl, _, rfl, n, rfl, vr, a, r, t, xs, rfl, hr', ha, hx, hT, hwr, by omega, ?_⟩
    have k : Q (.int (opV sg (exV t l) (exV t r) : Nat)) H := k
    generalize exV t l = x at hla k ⊢
    generalize exV t r = y at hlb k ⊢
    have go : ∀ n : Int, n = (opV sg x y : Nat) → Q (.int n) H := fun n hn => by rw [hn]; exact k
    have tt : ∀ {t : Str}, decide (V.str sg = V.str t) = true → sg = t := fun h => V.str.inj (of_decide_eq_true h)
    have ff : ∀ {t : Str}, decide (V.str sg = V.str t) = false → ¬ sg = t := fun h z => of_decide_eq_false h (by rw [z])
    refine ⟨_, rfl, b, _, _, _, rfl, rfl, sx, rfl, rfl, _, rfl, ifs (fun c => ?_) fun c1 => ?_⟩
    · refine ⟨_, rfl, _, rfl, _, _, rfl, rfl, _, rfl, _, rfl, _, _, rfl, rfl, _, _, rfl, rfl, .inr ⟨_, rfl, _, _, rfl, rfl, .inl ⟨by omega, by omega⟩, _, _, rfl, rfl, go _ ?_⟩⟩
      unfold opV
      rw [if_pos (tt c)]
      by_cases z : (65535 : Int) < (x : Int) + (y : Int)
      · rw [decide_eq_true z]
        show (x : Int) + (y : Int) - 65536 * 1 = _
        omega
      · rw [decide_eq_false z]
        show (x : Int) + (y : Int) - 65536 * 0 = _
        omega
    refine ⟨_, rfl, b, _, _, _, rfl, rfl, sx, rfl, rfl, _, rfl, ifs (fun c => ?_) fun c2 => ?_⟩
    · refine ⟨_, rfl, _, rfl, _, _, rfl, rfl, _, _, rfl, go _ ?_⟩
      unfold opV
      rw [if_neg (ff c1), if_pos (tt c)]
      split <;> omega
    refine ⟨_, rfl, b, _, _, _, rfl, rfl, sx, rfl, rfl, _, rfl, ifs (fun c => ?_) fun c3 => ?_⟩
    · refine ⟨_, rfl, _, rfl, _, _, rfl, rfl, .inl ⟨by omega, by omega⟩, _, rfl, _, rfl, _, _, rfl, rfl, .inl ⟨by omega, by omega⟩, _, _, rfl, rfl, ⟨by decide, by decide⟩, _, _, rfl, rfl, .inr ⟨by decide, by decide⟩, _, _, rfl, rfl, go _ ?_⟩
      unfold opV
      rw [if_neg (ff c1), if_neg (ff c2), if_pos (tt c), ← Int.natCast_mul]
      omega
    refine ⟨_, rfl, b, _, _, _, rfl, rfl, sx, rfl, rfl, _, rfl, ifs (fun c => ?_) fun c4 => ?_⟩
    · refine ⟨_, rfl, _, rfl, _, _, rfl, rfl, .inr ⟨_, rfl, go _ ?_⟩⟩
      unfold opV
      rw [if_neg (ff c1), if_neg (ff c2), if_neg (ff c3), if_pos (tt c)]
      by_cases z : x < y
      · rw [if_pos z, if_pos (by simpa using z)]; rfl
      · rw [if_neg z, if_neg (by simpa using z)]; rfl
    refine ⟨_, rfl, b, _, _, _, rfl, rfl, sx, rfl, rfl, _, rfl, ifs (fun c => ?_) fun c5 => ?_⟩
    · refine ⟨_, rfl, _, rfl, rfl, .inr ⟨_, rfl, go _ ?_⟩⟩
      unfold opV
      rw [if_neg (ff c1), if_neg (ff c2), if_neg (ff c3), if_neg (ff c4), if_pos (tt c)]
      by_cases z : x = y
      · rw [if_pos z, if_pos (by rw [z]; exact decide_eq_true rfl)]; rfl
      · rw [if_neg z, if_neg (fun u => z (by have := V.int.inj (of_decide_eq_true u); omega))]; rfl
    refine ⟨_, rfl, rfl, _, rfl, ifs (fun c => ?_) fun c6 => ?_⟩
    · refine go _ ?_
      have : y = 0 := by have := V.int.inj (of_decide_eq_true c); omega
      unfold opV
      rw [if_neg (ff c1), if_neg (ff c2), if_neg (ff c3), if_neg (ff c4), if_neg (ff c5), if_pos this]; rfl
    have hb0 : ¬ y = 0 := fun z => of_decide_eq_false c6 (by rw [z]; rfl)
    refine ⟨_, rfl, _, rfl, _, _, rfl, rfl, ⟨by omega, by omega⟩, ?_⟩
    refine ⟨_, rfl, b, _, _, _, rfl, rfl, sx, rfl, rfl, _, rfl, ifs (fun c => ?_) fun c7 => ?_⟩
    · refine ⟨_, rfl, go _ ?_⟩
      unfold opV
      rw [if_neg (ff c1), if_neg (ff c2), if_neg (ff c3), if_neg (ff c4), if_neg (ff c5), if_neg hb0, if_pos (tt c)]
      rfl
    · have hdm := Nat.div_add_mod x y
      have hq : x / y ≤ x := Nat.div_le_self _ _
      refine ⟨_, rfl, _, rfl, _, rfl, _, _, rfl, rfl, .inr ⟨by omega, by omega⟩, _, _, rfl, rfl, go _ ?_⟩
      unfold opV
      rw [if_neg (ff c1), if_neg (ff c2), if_neg (ff c3), if_neg (ff c4), if_neg (ff c5), if_neg hb0, if_neg (ff c7), ← Int.natCast_ediv, ← Int.natCast_mul, Nat.mul_comm]
      omega
def spNumP (K : PySem.W.Frag) (n : Nat) : Sp := fun us H Q E => ∃ m, n = m + 1 ∧ spVal K m us H Q E
theorem fn_numo (T : Txt K mg) : ∀ n, Fn P w K mg base n (ga K "_law_number_of") (spNumP K n)
  | 0 => fun _ _ _ _ _ _ _ _ _ _ _ ⟨_, h, _⟩ => nomatch h
  | n + 1 => by
    have h := fn_numo1 T n (fn_numo T n)
    intro a1 a2 a3 a4 a5 a6 a7 a8 a9 a10 a11 ⟨m, hm, h2⟩
    cases hm
    exact h a1 a2 a3 a4 a5 a6 a7 a8 a9 a10 a11 h2
theorem fn_l_number_of (T : Txt K mg) : Fn P w K mg base 10 (ga K "_law_number_of") (spVal K 7) := (fn_numo1 T 7 (fn_numo T 7)).mono (by decide)
end
end LL
/-! tuple(list) whose object is known, dict(t) of a tuple of pairs with plain keys whose object is known -/
namespace DTp
open PySem PySem.Spec PyProof.Rows L2
def PlT (o : Obj) : Prop := o.cls = .type "tuple" ∧ o.dict = none
theorem call_tuple_frz {X : Cx} : CallR X (.type "tuple") (fun xs H Q => ∃ p ys, xs = [.ref p] ∧ SqL X.K H p ys ∧ ∀ l o, H l = none → PlT o → Q (.ref l) (upd H l (.frz o (.tup ys)))) := by
  intro pins s σ H xs us Q I r h
  obtain ⟨p, ys, rfl, hq, q⟩ := h
  obtain ⟨u, rfl, rx⟩ := vals1 r
  cases rx
  obtain ⟨its, r', pl, hz⟩ := I.list hq
  have hlen := r'.length
  refine call_tuple_list pl.isList (fun h' kp => ?_) (by simp only [List.size_toArray] <;> omega)
  have I1 : Inv X pins σ H { s with heap := h' } := I.kept (t' := s.toks) kp
  have I2 : Inv X pins σ (upd H h'.objs.size (.frz { cls := .type "tuple", data := .seq its.toArray } (.tup ys))) { s with heap := h'.push { cls := .type "tuple", data := .seq its.toArray } } :=
    I1.laid (t' := s.toks) (fun b o e => Heap.get?_push_of_some _ e) (Nat.le_refl _) (show ObjOk X.prog X.w _ _ _ (.frz _ (.tup ys)) from ⟨Heap.get?_push_size _ rfl, hz, its, r', IsTup.new _ _⟩)
  exact ⟨.ref h'.objs.size, _, I2, rfl, q _ _ (I1.hok.fresh (Nat.le_refl _)) ⟨rfl, rfl⟩⟩
def rDictT (K : PySem.W.Frag) : List V → Hp → VK → Prop := fun xs H Q => ∃ (a : Addr) (o : Obj) (ps : List Addr) (kvs : List (Key × V)), xs = [.ref a] ∧ H a = some (.frz o (.tup (ps.map V.ref))) ∧ PlT o ∧ Paired (fun p kv => SqT K H p [kV kv.1, kv.2]) ps kvs ∧
    ∀ p, H p = none → Q (.ref p) (upd H p (.dK (mergeK [] kvs)))
theorem call_dictT {X : Cx} (hcalm : X.calm = true) : CallR X (.type "dict") (rDictT X.K) := by
  intro pins s σ H xs us Q I r q
  obtain ⟨a, ob, ps, kvs, ex, hq, ⟨hpc, hpd⟩, hp, q⟩ := q
  subst ex
  obtain ⟨u, eu, rx⟩ := vals1 r
  subst eu
  cases rx
  obtain ⟨his, hz0, its, rv, ⟨o, ho, hc, n, hdat⟩⟩ := (show ObjOk X.prog X.w H s.heap a (.frz ob (.tup (ps.map V.ref))) from I.hok a _ hq)
  rw [his] at ho
  cases ho
  have ei := refs_at rv
  subst ei
  have hz := hz0
  rw [List.length_map] at hz
  obtain ⟨prs, rel, hl, hpr⟩ := pairs_of I hp
  have hU : ∀ (j : Nat) (q : Key × Value), prs[j]? = some q → ∃ u : Value, ∃ b, ps[j]? = some b ∧ IsTup s.heap b #[u, q.2] ∧ keyIs q.1 u = true := fun j q e => by
    obtain ⟨b, u, h⟩ := hpr j q e
    exact ⟨u, b, h⟩
  -- the values of the pairs' keys
  obtain ⟨qs, hqs, hqp⟩ : ∃ qs : List (Value × Value), qs.length = prs.length ∧ ∀ (j : Nat) (k v : Value), qs[j]? = some (k, v) → ∃ q b, prs[j]? = some q ∧ v = q.2 ∧ ps[j]? = some b ∧ IsTup s.heap b #[k, v] ∧ keyIs q.1 k = true := by
    have gen : ∀ (l : List (Key × Value)) (off : Nat), (∀ j q, l[j]? = some q → ∃ u : Value, ∃ b, ps[off + j]? = some b ∧ IsTup s.heap b #[u, q.2] ∧ keyIs q.1 u = true) →
        ∃ qs : List (Value × Value), qs.length = l.length ∧ ∀ (j : Nat) (k v : Value), qs[j]? = some (k, v) → ∃ q b, l[j]? = some q ∧ v = q.2 ∧ ps[off + j]? = some b ∧ IsTup s.heap b #[k, v] ∧ keyIs q.1 k = true := by
      intro l
      induction l with
      | nil => exact fun _ _ => ⟨[], rfl, fun j k v h => by simp at h⟩
      | cons x l ih =>
        intro off h
        obtain ⟨u, b, h1, h2, h3⟩ := h 0 x rfl
        obtain ⟨qs, e1, e2⟩ := ih (off + 1) fun j q hj => by
          have := h (j + 1) q (by simpa using hj)
          rw [show off + (j + 1) = off + 1 + j by omega] at this
          exact this
        refine ⟨(u, x.2) :: qs, by simp [e1], fun j k v hj => ?_⟩
        cases j with
        | zero =>
          cases Option.some.inj hj
          exact ⟨x, b, rfl, rfl, h1, h2, h3⟩
        | succ j =>
          obtain ⟨q, b, z⟩ := e2 j k v (by simpa using hj)
          rw [show off + 1 + j = off + (j + 1) by omega] at z
          exact ⟨q, b, by simpa using z⟩
    have := gen prs 0 fun j q e => by rw [Nat.zero_add]; exact hU j q e
    simpa only [Nat.zero_add] using this
  refine PySem.call_dict_pairs (knd := mixKind X.prog X.w) (kvs := prs) (PairArg.tuple a (ps.map Value.ref).toArray (fun j => ps.getD j 0) qs) (I.ok.hd hcalm) ⟨⟨ob, n, his, hpc, hpd, hdat⟩, ?_, fun j k v e => ?_⟩ ⟨by rw [hqs], fun i key v e => ?_⟩ (by rw [hqs, hl]; exact hz) fun h' tk hd' hk => ?_
  · rw [List.size_toArray, List.length_map, hqs, hl]
  · obtain ⟨q, b, h1, h2, h3, h4, h5⟩ := hqp j k v e
    have eT : ps.getD j 0 = b := by rw [List.getD_eq_getElem?_getD, h3]; rfl
    refine ⟨?_, .inl (by show s.heap.IsTuple (ps.getD j 0) _; rw [eT]; exact h4)⟩
    show (ps.map Value.ref).toArray[j]? = some (Value.ref (ps.getD j 0))
    rw [eT, List.getElem?_toArray, List.getElem?_map, h3]
    rfl
  · obtain ⟨q, b, h1, h2, h3, h4, h5⟩ := hqp i key v e
    exact ⟨q.1, by rw [h1, h2], h5⟩
  · have hm : (s.heap.objs.size == sysModules) = false := beq_eq_false_iff_ne.mpr (Nat.ne_of_gt I.big)
    have hlen : (mergeK [] kvs).length ≤ sizeLine := by
      refine Nat.le_trans (length_mergeK kvs []) ?_
      rw [List.length_nil, Nat.zero_add, rel.length, hl]
      exact hz
    have hkk : ∀ b o, s.heap.get? b = some o → h'.get? b = some o := fun b o g => hk b o (fun z => nomatch z) g
    exact ⟨.ref s.heap.objs.size, upd H s.heap.objs.size (.dK (mergeK [] kvs)), I.laid (t' := tk) hkk (Nat.le_refl _) (show ObjOk X.prog X.w _ _ _ (.dK (mergeK [] kvs)) from ⟨hlen, hm, merged [] prs, KV.merge rel .nil, hd'⟩), rfl, q _ (I.hok.fresh (Nat.le_refl _))⟩
end DTp
namespace LL
open PySem PySem.Spec PyProof.Rows L2 He Evl ND
/-! ### tree_of -/
theorem putK_new {kvs : List (Key × V)} {k : Key} {v : V} (h : valV kvs k = none) : putK kvs k v = kvs ++ [(k, v)] := by
  unfold putK
  rw [valV_any, h]
  exact if_neg (by decide)
theorem valV_none {kvs : List (Key × V)} {k : Key} (h : k ∉ kvs.map (·.1)) : valV kvs k = none := by
  induction kvs with
  | nil => rfl
  | cons p r ih =>
    rw [List.map_cons, List.mem_cons, not_or] at h
    rw [valV_neg (fun z => h.1 z.symm)]
    exact ih h.2
theorem mergeK_app : ∀ (more acc : List (Key × V)), ((acc ++ more).map (·.1)).Nodup → mergeK acc more = acc ++ more
  | [], acc, _ => by rw [List.append_nil]; rfl
  | p :: r, acc, h => by
    have e : acc ++ p :: r = (acc ++ [p]) ++ r := by rw [List.append_assoc]; rfl
    have hn : p.1 ∉ acc.map (·.1) := by
      intro hm
      rw [List.map_append, List.map_cons] at h
      have := (List.nodup_append.mp h).2.2
      exact this _ hm _ (List.mem_cons_self ..) rfl
    show mergeK (putK acc p.1 p.2) r = _
    rw [putK_new (valV_none hn), e]
    exact mergeK_app r (acc ++ [p]) (by rw [← e]; exact h)
theorem tK_names (t : Tbl) : (tK t).map (·.1) = (t.map (·.1)).map Sum.inr := by
  unfold tK
  rw [List.map_map, List.map_map]
  rfl
theorem nodup_inr {xs : List Str} (h : xs.Nodup) : (xs.map (Sum.inr : Str → Key)).Nodup := by
  induction xs with
  | nil => exact List.nodup_nil
  | cons x r ih =>
    rw [List.nodup_cons] at h
    rw [List.map_cons, List.nodup_cons]
    exact ⟨fun hm => by
      obtain ⟨y, hy, e⟩ := List.mem_map.mp hm
      cases Sum.inr.inj e
      exact h.1 hy, ih h.2⟩
theorem merge_tK {t : Tbl} (h : (t.map (·.1)).Nodup) : mergeK [] (tK t) = tK t := by
  have := mergeK_app (tK t) [] (by rw [List.nil_append, tK_names]; exact nodup_inr h)
  rw [this, List.nil_append]
section
variable {w : World} {K : PySem.W.Frag} {mg : Str → Option Value} {base : Heap}
/-- a game in the heap -/
def PairsAt (K : PySem.W.Frag) (B : Hp) (ps : List Addr) (zs : Tbl) : Prop := Paired (fun p (kv : Str × Nat) => SqT K B p [.str kv.1, .int (kv.2 : Nat)]) ps zs
def gmFs (va ba : Addr) : List (Str × V) := [("variables", .ref va), ("block", .ref ba)]
def GmAt (K : PySem.W.Frag) (B : Hp) (g : V) (zs : Tbl) (S : List Stm) : Prop := ∃ (gx dg va ba : Addr) (o : Obj) (ps : List Addr), g = .ref gx ∧ B gx = some (.ins (ga K "Game") dg (gmFs va ba)) ∧ B va = some (.frz o (.tup (ps.map V.ref))) ∧ DTp.PlT o ∧ PairsAt K B ps zs ∧ Dp K B (.ref ba) (.tuple (blD S))
theorem PairsAt.mono {B B2 : Hp} {ps : List Addr} {zs : Tbl} (h : PairsAt K B ps zs) (e : Ex B B2) : PairsAt K B2 ps zs := L2.Paired.mapP h fun _ _ z => ex_t e z
theorem PairsAt.tk {B : Hp} : ∀ {ps : List Addr} {zs : Tbl}, PairsAt K B ps zs → Paired (fun p (kv : Key × V) => SqT K B p [kV kv.1, kv.2]) ps (tK zs)
  | _, _, .nil => .nil
  | _, _, .cons h t => .cons h (PairsAt.tk t)
theorem GmAt.mono {B B2 : Hp} {g : V} {zs : Tbl} {S : List Stm} (h : GmAt K B g zs S) (e : Ex B B2) : GmAt K B2 g zs S := by
  obtain ⟨gx, dg, va, ba, o, ps, h1, h2, h3, h4, h5, h6⟩ := h
  exact ⟨gx, dg, va, ba, o, ps, h1, e _ _ h2, e _ _ h3, h4, h5.mono e, dp_mono e h6⟩
def spBldI (K : PySem.W.Frag) : Sp := fun us H Q _ => ∃ (x dx : Addr) (g : V) (zs : Tbl) (S : List Stm), us = [.ref x, g] ∧ H x = some (.ins (ga K "Builder") dx []) ∧ GmAt K H g zs S ∧ (zs.map (·.1)).Nodup ∧
  ∀ ts, H ts = none → Q .non (upd (upd H ts (.dK (tK zs))) x (.ins (ga K "Builder") dx [("sizes", .ref ts), ("count", .int 0)]))
theorem fn_Builder_init (T : Txt K mg) : Fn P w K mg base 1 (ma K (ga K "Builder") "__init__") (spBldI K) := by
  refine fn_def T.d_Builder_init sc_Builder_init (fun _ _ _ _ _ _ us hl => match us, hl with | [_, _], _ => rfl) (fun vs H Q E h => ?_) (fun cdv A outer s H vs Q E hr h => ?_)
  · obtain ⟨_, _, _, _, _, rfl, _⟩ := h
    rfl
  obtain ⟨x, dx, g, zs, S, rfl, hx, ⟨gx, dg, va, ba, o, ps, rfl, hgx, hva, ho, hps, hbl⟩, hnd, k⟩ := h
  have nd := sc_Builder_init.nd
  refine ⟨_, pss_cons (ps_fld (pv 0) (pe_callTy (DTp.call_dictT rfl) (by rfl) T.f_dict (by decide +kernel) (pa_cons (pe_fld (pv 1) rfl) pa_nil)) rfl)
      (pss_one (ps_fld (pv 0) (pe_int) rfl)), ?_⟩
  refine ⟨_, rfl, gx, _, _, _, _, rfl, hgx, T.c_Game, T.a_Game_variables, rfl, va, o, ps, tK zs, rfl, hva, ho, hps.tk, fun ts nts => ?_⟩
  have ne : x ≠ ts := fun z => by subst z; rw [hx] at nts; cases nts
  refine ⟨_, rfl, x, _, dx, _, rfl, (upd_ne ne).trans hx, T.c_Builder, T.a_Builder_sizes, (show 0 < 1000 by decide), ?_⟩
  refine ⟨_, rfl, x, _, dx, _, rfl, upd_same, T.c_Builder, T.a_Builder_count, (show 1 < 1000 by decide), ?_⟩
  rw [upd_twice, merge_tK hnd]
  exact k ts nts
def zT (zs : Tbl) : Tbl := zs.map fun p => (p.1, 0)
theorem zT_names (zs : Tbl) : (zT zs).map (·.1) = zs.map (·.1) := by unfold zT; rw [List.map_map]; rfl
theorem zT_ok (zs : Tbl) : TblOk (zT zs) := by
  intro x n h
  unfold zT at h
  induction zs with
  | nil => cases h
  | cons p r ih =>
    rw [List.map_cons, List.lookup_cons] at h
    split at h
    · cases h; exact Nat.zero_le _
    · exact ih h
theorem tGet_mem {zs : Tbl} (h : ∀ p ∈ zs, 1 ≤ p.2 ∧ p.2 ≤ 65535) {x : Str} (hx : x ∈ zs.map (·.1)) : 1 ≤ LL.tGet zs x ∧ LL.tGet zs x ≤ 65535 := by
  unfold LL.tGet
  induction zs with
  | nil => exact absurd hx (List.not_mem_nil)
  | cons p r ih =>
    rw [List.lookup_cons]
    by_cases c : x = p.1
    · rw [show (x == p.1) = true by simpa using c]
      exact h p (List.mem_cons_self ..)
    · rw [show (x == p.1) = false by simpa using c]
      rw [List.map_cons, List.mem_cons] at hx
      exact ih (fun q hq => h q (List.mem_cons_of_mem _ hq)) (hx.resolve_left c)
def treeT (zs : Tbl) (S : List Stm) : Option (Tr × Nat) := nodeT zs (szB S + 1) (zT zs) ([], []) 0 S 0
structure GOk (zs : Tbl) (S : List Stm) : Prop where
  nd : (zs.map (·.1)).Nodup
  wf : wfB (zs.map (·.1)) S
  z1 : ∀ p ∈ zs, 1 ≤ p.2 ∧ p.2 ≤ 65535
  nb : nbB S ≤ 14
  sz : szB S ≤ 400
  n : zs.length ≤ 100
def MadeT (K : PySem.W.Frag) (B H : Hp) (r : Option (Tr × Nat)) (Q : VK) (E : XK) : Prop :=
  (∀ tr c2 v B2 H2, r = some (tr, c2) → Stp [] B H B2 H2 → TrAt K B2 v tr → Q v H2) ∧ (r = none → ∀ H2 d, Ex B H2 → H2 d = some (.xd [("what", .str "nodes")]) → E (.ref (ga K "TooLarge")) (some d) H2)
def spTree (K : PySem.W.Frag) : Sp := fun us H Q E => ∃ (g : V) (B : Hp) (zs : Tbl) (S : List Stm), us = [g] ∧ Ex B H ∧ GmAt K B g zs S ∧ GOk zs S ∧ MadeT K B H (treeT zs S) Q E
variable (W : TabW w K)
include W
theorem fn_tree_of (T : Txt K mg) : Fn P w K mg base 41 (ga K "tree_of") (spTree K) := by
  refine fn_def T.d_tree_of sc_tree_of (fun _ _ _ _ _ _ us hl => match us, hl with | [_], _ => rfl) (fun vs H Q E h => ?_) (fun cdv A outer s H vs Q E hr h => ?_)
  · obtain ⟨_, _, _, _, rfl, _⟩ := h
    rfl
  obtain ⟨g, B, zs, S, rfl, e, hg, ho, k⟩ := h
  have nd := sc_tree_of.nd
  refine ⟨_, pss_cons (ps_set (i := 1) nd rfl (by first | exact Or.inl rfl | exact Or.inr rfl) (pe_dnewK))
      (pss_cons (ps_for (passes_of rfl) rfl (pi_tup (pe_fld (pv 0) rfl)) (pg_tup rfl (pgs_cons (pg_name (i := 2) nd rfl (by first | exact Or.inl rfl | exact Or.inr rfl)) (pgs_cons (pg_name (i := 3) nd rfl (by first | exact Or.inl rfl | exact Or.inr rfl)) pgs_nil))) (pss_one (ps_dput (hu_of hr) (pv 1) (pv 2) (pe_int) rfl)))
      (pss_one (ps_ret (pe_methR (StX.pe_makeR T.m_Builder (fn_Builder_init T) (hr.mono (by decide)) rfl T.g_Builder pc (pa_cons (pv 0) pa_nil)) T.c_Builder T.t_Builder_node (fn_Builder_node W T) (hr.mono (by decide)) pc (pa_cons (StX.pe_makeR T.m_Way (fn_Way_init T) (hr.mono (by decide)) rfl T.g_Way pc (pa_cons (pv 1) (pa_cons (pe_disp (pps_cons (pe_str) (pe_tup pa_nil) (pps_cons (pe_str) (pe_tup pa_nil) pps_nil)) rfl rfl (by intro h; cases h) (by decide)) (pa_cons (pe_int) pa_nil)))) (pa_cons (pe_fn T.d_chained (fn_chained T) (hr.mono (by decide)) T.g_chained pc (pa_cons (pe_fld (pv 0) rfl) (pa_cons (pe_non) pa_nil))) pa_nil)))))), ?_⟩
  obtain ⟨gx, dg, va, ba, o, ps, rfl, hgx, hva, hob, hps, hbl⟩ := id hg
  have hbig : (100000 : Nat) ≤ sizeLine := by decide
  refine fun p np => ?_
  have hlp : ps.length = zs.length := Paired.length hps
  have e1 : Ex B (upd H p (.dK [])) := Ex.mut e (ex_none e np)
  refine ⟨_, rfl, gx, _, _, _, _, rfl, e1 _ _ hgx, T.c_Game, T.a_Game_variables, rfl, va, rfl, ⟨ps.map V.ref, .inl (.inr ⟨o, e1 _ _ hva⟩)⟩, for_tup (xs := ps.map V.ref) (fun i σ H' => ∃ (u2 u3 : Option V), H' = upd H p (.dK (tK (zT (zs.take i)))) ∧ σ = [some (.ref gx), some (.ref p), u2, u3]) ⟨none, none, rfl, rfl⟩ ?_ ?_ ?_⟩
  · rintro i σ H' _ ⟨_, _, rfl, rfl⟩
    exact .inl (.inr ⟨o, by rw [upd_ne (fun z => by subst z; rw [e _ _ hva] at np; cases np)]; exact e _ _ hva⟩)
  · rintro i x σ H' hx ⟨u2, u3, rfl, rfl⟩
    obtain ⟨q, hq, rfl⟩ : ∃ q, ps[i]? = some q ∧ x = .ref q := by
      rw [List.getElem?_map] at hx
      obtain ⟨q, h1, h2⟩ := Option.map_eq_some_iff.mp hx
      exact ⟨q, h1, h2.symm⟩
    obtain ⟨kv, hkv, hqt⟩ := paired_get hps hq
    have hi : i < zs.length := (List.getElem?_eq_some_iff.mp hkv).1
    have eT : Ex B (upd H p (.dK (tK (zT (zs.take i))))) := Ex.mut e (ex_none e np)
    refine ⟨q, _, rfl, ex_t eT hqt, rfl, _, _, rfl, _, _, rfl, rfl, ?_⟩
    have hn : ((zT zs).map (·.1)) = zs.map (·.1) := by unfold zT; rw [List.map_map]; rfl
    have htk : zT (zs.take (i + 1)) = zT (zs.take i) ++ [(kv.1, 0)] := by
      unfold zT
      rw [List.take_add_one, hkv, List.map_append]
      rfl
    refine ⟨_, rfl, _, rfl, p, _, rfl, DPut.k (k := .inr kv.1) (v := .int 0) upd_same ?_, some (.str kv.1), some (.int (kv.2 : Nat)), ?_, rfl⟩
    · have := ho.n
      show (List.map _ (zT (zs.take i))).length < _
      unfold zT
      rw [List.length_map, List.length_map, List.length_take]
      omega
    · rw [upd_twice, htk, putK_new]
      · unfold tK
        rw [List.map_append]
        rfl
      · refine valV_none ?_
        rw [tK_names]
        intro hm
        obtain ⟨y, hy, e1⟩ := List.mem_map.mp hm
        cases Sum.inr.inj e1
        have h2 : kv.1 ∈ (zs.take i).map (·.1) := by
          have : (zT (zs.take i)).map (·.1) = (zs.take i).map (·.1) := by unfold zT; rw [List.map_map]; rfl
          rw [← this]; exact hy
        have h3 := ho.nd
        rw [← List.take_append_drop i zs, List.map_append] at h3
        refine (List.nodup_append.mp h3).2.2 _ h2 _ ?_ rfl
        refine List.mem_map.mpr ⟨kv, ?_, rfl⟩
        rw [List.drop_eq_getElem_cons hi]
        rw [List.getElem?_eq_getElem hi] at hkv
        cases hkv
        exact List.mem_cons_self ..
  · rintro σ H' ⟨u2, u3, rfl, rfl⟩
    rw [List.length_map, hlp, List.take_length]
    refine ⟨_, rfl, fun x dx nx ndx ne => ?_⟩
    have s1 := Stp.new (ms := [x]) (o := .dK (tK (zT zs))) e np
    have s2 := s1.trans (Stp.new (ms := [x]) (o := .own x) s1.in_ ndx)
    have nx1 : upd (upd H p (.dK (tK (zT zs)))) dx (.own x) x = none := by rw [upd_ne ne.symm]; exact nx
    have s3 := s2.trans (Stp.cell (ms := [x]) (o := .ins (ga K "Builder") dx []) s2.in_ nx1)
    have xB := ex_none s2.in_ nx1
    refine ⟨x, dx, .ref gx, zs, S, rfl, upd_same, (hg.mono s3.base).mono s3.in_, ho.nd, fun ts nts => ⟨rfl, ?_⟩⟩
    have s4 := s3.trans (Stp.new (ms := [x]) (o := .dK (tK zs)) s3.in_ nts)
    have nxt : x ≠ ts := fun z => by subst z; rw [upd_same] at nts; cases nts
    have xB4 : upd (upd (upd B p (.dK (tK (zT zs)))) dx (.own x)) ts (.dK (tK zs)) x = none := by rw [upd_ne nxt]; exact xB
    have s5 := s4.trans (Stp.put (ms := [x]) (o := .ins (ga K "Builder") dx [("sizes", .ref ts), ("count", .int 0)]) s4.in_ xB4 (.head _))
    refine ⟨x, _, _, rfl, upd_same, rfl, ?_⟩
    have hp5 : BldAt K (upd (upd (upd (upd (upd H p (.dK (tK (zT zs)))) dx (.own x)) x (.ins (ga K "Builder") dx [])) ts (.dK (tK zs))) x (.ins (ga K "Builder") dx [("sizes", .ref ts), ("count", .int 0)])) x dx ts 0 := upd_same
    have hts5 : upd (upd (upd B p (.dK (tK (zT zs)))) dx (.own x)) ts (.dK (tK zs)) ts = some (.dK (tK zs)) := upd_same
    have hp0 : upd (upd (upd B p (.dK (tK (zT zs)))) dx (.own x)) ts (.dK (tK zs)) p = some (.dK (tK (zT zs))) := by
      refine (Stp.new (ms := []) (o := .dK (tK zs)) s3.in_ nts).base _ _ ((Stp.new (ms := []) (o := .own x) s1.in_ ndx).base _ _ upd_same)
    refine ⟨_, rfl, fun p2 np2 => ?_⟩
    have t1 := Stp.cell (ms := [p2]) (o := .dK []) s5.in_ np2
    refine ⟨(show 0 ≤ sizeLine by omega), fun a1 na1 => ⟨(show 0 ≤ sizeLine by omega), fun a2 na2 => ?_⟩⟩
    have t2 := Stp.new (ms := [p2]) (o := .tup []) t1.in_ na1
    have t3 := t2.trans (Stp.new (ms := [p2]) (o := .tup []) t2.in_ na2)
    have ha12 : a2 ≠ a1 := fun z => by subst z; rw [upd_same] at na2; cases na2
    have n21 : p2 ≠ a1 := fun z => by subst z; rw [upd_same] at na1; cases na1
    have n22 : p2 ≠ a2 := fun z => by subst z; rw [upd_ne n21, upd_same] at na2; cases na2
    refine ⟨(upd_ne n22).trans ((upd_ne n21).trans upd_same), vK a1 a2, rfl, (show 2 ≤ 15 by decide), ?_⟩
    have p2B := t3.off (ex_none s5.in_ np2) upd_same
    have t4 := t3.trans (Stp.put (ms := [p2]) (o := .dK (mergeK [] (vK a1 a2))) t3.in_ p2B (.head _))
    have t5x := Stp.close (ms := []) s5.in_ np2 t4 upd_same
    have t5 := t5x.nil (ns := [x])
    have t6 := s5.trans t5
    have hp0' := t5.base _ _ hp0
    intro xw dxw nxw ndxw new
    refine ⟨xw, dxw, p, p2, 0, rfl, upd_same, rfl, ?_⟩
    rw [upd_twice]
    have s7 := Stp.made (ms := []) (C := ga K "Way") (fs := wayFs p p2 0) t6.in_ nxw ndxw new
    have hw7 : WayAt K _ (.ref xw) (zT zs) ([], []) 0 := ⟨xw, dxw, p, p2, a1, a2, rfl, upd_same, s7.base _ _ hp0', s7.base _ _ upd_same, (VwAt.mono ⟨[], st_of (by rw [upd_ne (Ne.symm n21), upd_ne (Ne.symm ha12), upd_same]), .nil⟩ s7.base), (VwAt.mono ⟨[], st_of (by rw [upd_ne (Ne.symm n22), upd_same]), .nil⟩ s7.base)⟩
    have s8 := t6.trans s7.nil
    have hg8 := hg.mono s8.base
    obtain ⟨_, _, _, _, _, _, hh, hgx8, _, _, _, hbl8⟩ := id hg8
    have hgx7 := s8.in_ _ _ (s8.base _ _ hgx)
    have hp6 : BldAt K _ x dx ts 0 := t5x.fr x _ (fun h => nomatch h) hp5
    have hp7 : BldAt K _ x dx ts 0 := s7.fr x _ (fun h => nomatch h) hp6
    refine ⟨_, rfl, gx, _, _, _, _, rfl, hgx7, T.c_Game, T.a_Game_block, rfl, ?_⟩
    refine ⟨.ref ba, .non, _, S, [], rfl, s8.in_, dp_mono s8.base hbl, rfl, fun q B9 H9 s9 hq9 => ?_⟩
    rw [List.append_nil] at hq9
    have s10 := s8.trans s9.nil
    have hp9 : BldAt K H9 x dx ts 0 := s9.fr x _ (fun h => nomatch h) hp7
    have xH : H x = none := fresh_back (Ex.new np) nx
    have tl := (t5x.trans s7).trans s9
    refine ⟨x, dx, ts, .ref xw, q, B9, zs, zT zs, ([], []), 0, S, 0, szB S + 1, zs.map (·.1), rfl, s10.in_, tl.off xB4 hp5, hp9, tl.base _ _ hts5, hw7.mono s9.base, hq9, ⟨rfl, zT_names zs, zT_ok zs, fun y hy => tGet_mem ho.z1 hy, ho.wf, (show 0 + 0 + 2 * szB S ≤ 900 by have := ho.sz; omega), (by unfold zT; rw [List.length_map]; exact ho.n)⟩, ho.nb, Nat.lt_succ_self _, fun tr c2 v B2 H2 h1 h2 h3 h4 => ?_, fun h1 H2 d2 e2 h2 => ?_⟩
    · exact k.1 tr c2 v B2 H2 h1 ((s10.trans h2).drop xH) h4
    · exact k.2 h1 H2 d2 (s10.base.trans e2) h2
end
end LL
namespace LL
open PySem PySem.Spec PyProof.Rows L2 He Evl ND
/-! ### _law_stored -/
section
variable {w : World} {K : PySem.W.Frag} {mg : Str → Option Value} {base : Heap}
/-- the law's game: (variables, rows) -/
def LGm (K : PySem.W.Frag) (B : Hp) (g : V) (zs : Tbl) (S : List Stm) : Prop := ∃ (gg va ba : Addr) (o : Obj) (ps : List Addr), g = .ref gg ∧ SqT K B gg [.ref va, .ref ba] ∧ B va = some (.frz o (.tup (ps.map V.ref))) ∧ DTp.PlT o ∧ PairsAt K B ps zs ∧ Dp K B (.ref ba) (.tuple (blD S))
theorem LGm.mono {B B2 : Hp} {g : V} {zs : Tbl} {S : List Stm} (h : LGm K B g zs S) (e : Ex B B2) : LGm K B2 g zs S := by
  obtain ⟨gg, va, ba, o, ps, h1, h2, h3, h4, h5, h6⟩ := h
  exact ⟨gg, va, ba, o, ps, h1, ex_t e h2, e _ _ h3, h4, h5.mono e, dp_mono e h6⟩
def pickZ (zs : Tbl) (x : Str) : List V := (zs.filter fun p => p.1 = x).map fun p => V.int (p.2 : Nat)
theorem pickZ_get {zs : Tbl} {x : Str} (h : x ∈ zs.map (·.1)) : ∃ r, pickZ zs x = V.int (LL.tGet zs x : Nat) :: r := by
  induction zs with
  | nil => exact absurd h (List.not_mem_nil)
  | cons p r ih =>
    unfold pickZ LL.tGet
    rw [List.filter_cons, List.lookup_cons]
    by_cases c : p.1 = x
    · rw [if_pos (by simpa using c), show (x == p.1) = true by simpa using c.symm]
      exact ⟨_, rfl⟩
    · rw [if_neg (by simpa using c), show (x == p.1) = false by simpa using (fun z : x = p.1 => c z.symm)]
      rw [List.map_cons, List.mem_cons] at h
      exact ih (h.resolve_left fun z => c z.symm)
def spLSt (K : PySem.W.Frag) : Sp := fun us H Q _ => ∃ (g : V) (ta : Addr) (x : Str) (n : Nat) (B : Hp) (zs t : Tbl) (S : List Stm), us = [g, .ref ta, .str x, .int (n : Nat)] ∧ Ex B H ∧ LGm K B g zs S ∧ B ta = some (.dK (tK t)) ∧ x ∈ t.map (·.1) ∧ x ∈ zs.map (·.1) ∧ 1 ≤ LL.tGet zs x ∧ t.length ≤ 100 ∧ zs.length ≤ 100 ∧
  ∀ a2 B2 H2, Stp [] B H B2 H2 → B2 a2 = some (.dK (tK (LL.tPut t x (n % LL.tGet zs x)))) → Q (.ref a2) H2
theorem fn_l_stored (T : Txt K mg) : Fn P w K mg base 2 (ga K "_law_stored") (spLSt K) := by
  refine fn_def T.d_l_stored sc_l_stored (fun _ _ _ _ _ _ us hl => match us, hl with | [_, _, _, _], _ => rfl) (fun vs H Q E h => ?_) (fun cdv A outer s H vs Q E hr h => ?_)
  · obtain ⟨_, _, _, _, _, _, _, _, rfl, _⟩ := h
    rfl
  obtain ⟨g, ta, x, n, B, zs, t, S, rfl, e, ⟨gg, va, ba, o, ps, rfl, hgg, hva, ho, hps, hbl⟩, hta, hx, hxz, hz, hl, hzl, k⟩ := h
  have nd := sc_l_stored.nd
  refine ⟨_, pss_cons (ps_set (i := 4) nd rfl (by first | exact Or.inl rfl | exact Or.inr rfl) (pe_callTy call_dictD (by rfl) T.f_dict (by decide +kernel) (pa_cons (pv 1) pa_nil)))
      (pss_cons (ps_dput (hu_of hr) (pv 4) (pv 2) (pe_op op_mod (pe_callTy call_int1 (by rfl) T.f_int (by decide +kernel) (pa_cons (pv 3) pa_nil)) (pe_ix ix_list (pe_lc (own := [("_law_own", 5), ("_law_size", 6)]) (g := (gTup K 2 (gCons (gName 5) (gCons (gName 6) (gNil))))) rfl nd (pi_tup (pe_ix ix_tup (pv 0) (pe_int) (fun _ _ => rfl))) (blkOk_by (N := n_l_stored) (sc := defScope s_l_stored) (by decide +kernel)) (fun _ _ _ _ _ => pg_tup (n := 2) rfl (pgs_cons (pg_name (i := 5) nd rfl (by first | exact Or.inl rfl | exact Or.inr rfl)) (pgs_cons (pg_name (i := 6) nd rfl (by first | exact Or.inl rfl | exact Or.inr rfl)) pgs_nil))) (fun _ _ _ _ _ => pts_one (pt_cmpR op_eq (pv 5) (pv 2) (nomark _))) (fun _ _ _ _ _ => pv 6)) (pe_int) (fun _ _ => rfl))) rfl)
      (pss_one (ps_ret (pv 4)))), ?_⟩
  have hbig : (100000 : Nat) ≤ sizeLine := by decide
  refine ⟨_, rfl, ta, _, rfl, .inl (e _ _ hta), fun p np => ?_⟩
  have e1 : Ex B (upd H p (.dK (tK t))) := Ex.mut e (ex_none e np)
  refine ⟨_, rfl, .inl ⟨_, rfl, ?_⟩⟩
  refine ⟨_, rfl, gg, _, _, _, rfl, rfl, ex_t e1 hgg, rfl, va, rfl, ⟨ps.map V.ref, .inl (.inr ⟨o, e1 _ _ hva⟩)⟩, fun D nD => ?_⟩
  have e2 : ∀ acc, Ex B (upd (upd H p (.dK (tK t))) D (.lst acc)) := fun acc => Ex.mut e1 (ex_none e1 nD)
  have hlp : ps.length = zs.length := Paired.length hps
  refine lc_it (walk_tup (xs := ps.map V.ref)) (fun i H' => H' = upd (upd H p (.dK (tK t))) D (.lst (pickZ (zs.take i) x))) rfl (fun i H' _ h => by subst h; exact .inl (.inr ⟨o, e2 _ _ _ hva⟩)) ?_ ?_
  · rintro i y H' H'' hi rfl ⟨rfl, hy⟩
    obtain ⟨q, hq, rfl⟩ : ∃ q, ps[i]? = some q ∧ y = .ref q := by
      rw [List.getElem?_map] at hy
      obtain ⟨q, h1, h2⟩ := Option.map_eq_some_iff.mp hy
      exact ⟨q, h1, h2.symm⟩
    obtain ⟨kv, hkv, hqt⟩ := paired_get hps hq
    have htk : pickZ (zs.take (i + 1)) x = if kv.1 = x then pickZ (zs.take i) x ++ [V.int (kv.2 : Nat)] else pickZ (zs.take i) x := by
      unfold pickZ
      rw [List.take_add_one, hkv, List.filter_append, List.map_append]
      by_cases c : kv.1 = x
      · rw [if_pos c]
        simp [c]
      · rw [if_neg c]
        simp [c]
    have hpl : (pickZ (zs.take i) x).length ≤ 100 := by
      unfold pickZ
      rw [List.length_map]
      have := List.length_filter_le (fun p => decide (p.1 = x)) (zs.take i)
      rw [List.length_take] at this
      omega
    refine ⟨q, _, rfl, ex_t (e2 _) hqt, rfl, _, _, rfl, _, _, rfl, rfl, rfl, ?_⟩
    refine ⟨_, rfl, _, rfl, rfl, _, rfl, ifs (fun c => ?_) fun c => ?_⟩
    · have hc : kv.1 = x := V.str.inj (of_decide_eq_true c)
      refine ⟨_, rfl, _, upd_same, by omega, ?_⟩
      rw [upd_twice, htk, if_pos hc]
    · have hc : ¬ kv.1 = x := fun z => of_decide_eq_false c (by rw [z])
      rw [htk, if_neg hc]
  · rintro H' rfl
    rw [List.length_map, hlp, List.take_length]
    obtain ⟨rr, hrr⟩ := pickZ_get hxz
    rw [hrr]
    have nDp : p ≠ D := fun z => by subst z; rw [upd_same] at nD; cases nD
    have t1 := Stp.cell (ms := [p]) (o := .lst (V.int (LL.tGet zs x : Nat) :: rr)) e1 nD
    have t2 := t1.trans (Stp.put (ms := [p]) (o := .dK (tK (LL.tPut t x (n % LL.tGet zs x)))) t1.in_ (ex_none e np) (.head _))
    have t3 := Stp.close (ms := []) e np t2 upd_same
    refine ⟨D, _, _, _, rfl, rfl, sq_of upd_same, at0, _, _, rfl, rfl, (by omega), _, rfl, _, rfl, p, upd (upd (upd H p (.dK (tK t))) D (.lst (V.int (LL.tGet zs x : Nat) :: rr))) p (.dK (tK (LL.tPut t x (n % LL.tGet zs x)))), rfl, ?_, _, rfl, ?_⟩
    · have h := DPut.k (H := upd (upd H p (.dK (tK t))) D (.lst (V.int (LL.tGet zs x : Nat) :: rr))) (a := p) (k := .inr x) (v := .int ((n : Int) % (LL.tGet zs x : Nat))) ((upd_ne nDp).trans upd_same) (by
        show (List.map _ t).length < _
        rw [List.length_map]; omega)
      rw [show (((n : Nat) : Int) % ((LL.tGet zs x : Nat) : Int)) = ((n % LL.tGet zs x : Nat) : Int) by omega, tK_put hx] at h
      exact h
    · exact k p _ _ t3 upd_same
end
end LL
namespace LL
open PySem PySem.Spec PyProof.Rows L2 He Evl ND
/-! ### the views of the law's own tree -/
/-- a reading that makes new things of the base and changes nothing -/
def GS {α : Type} (k : Hp → (α → Hp → Prop) → Prop) (B : Hp) (R : α → Hp → Prop) : Prop := ∀ B1 H1, Ex B B1 → Ex B1 H1 → ∀ Q : α → Hp → Prop, (∀ v B2 H2, Stp [] B1 H1 B2 H2 → R v B2 → Q v H2) → k H1 Q
section
variable {w : World} {K : PySem.W.Frag} {mg : Str → Option Value} {base : Heap}
def VwsAt (K : PySem.W.Frag) (B : Hp) (v : V) (vw : Vws) : Prop := ∃ a b1 b2, v = .ref a ∧ SqT K B a [.ref b1, .ref b2] ∧ VwAt K B b1 vw.1 ∧ VwAt K B b2 vw.2
theorem VwsAt.mono {B B2 : Hp} {v : V} {vw : Vws} (h : VwsAt K B v vw) (e : Ex B B2) : VwsAt K B2 v vw := by
  obtain ⟨a, b1, b2, h1, h2, h3, h4⟩ := h
  exact ⟨a, b1, b2, h1, ex_t e h2, h3.mono e, h4.mono e⟩
abbrev tVadd (K : PySem.W.Frag) (i j : Nat) (tev : TE) : TE := tOp (rCatA K) (tOp (rCatA K) (L2.tSl (rSlT K) (tVar i) tNoPart (tPart (tVar j))) (tTup (tCons (tOp (rCatA K) (tOp (rIxT K) (tVar i) (tVar j)) (tTup (tCons tev tNil))) tNil))) (L2.tSl (rSlT K) (tVar i) (tPart (tOp (rI0 fun i j => .int (i + j)) (tVar j) (tC (.int 1)))) tNoPart)
theorem gs_vadd {σ : L2.St} {i j : Nat} {tev : TE} {B : Hp} {vs : V} {b : Bool} {vw : Vws} {ed : Evt} (hi : σ[i]? = some (some vs)) (hj : σ[j]? = some (some (.int (if b then 1 else 0)))) (hv : VwsAt K B vs vw) (hev : GS (tev σ) B fun ev B1 => EvAt K B1 ev ed) (hl : vw.1.length + vw.2.length ≤ 1000) :
    GS (tVadd K i j tev σ) B fun v B1 => VwsAt K B1 v (vAdd b ed vw) := by
  intro B1 H1 e1 e2 Q q
  have hbig : (100000 : Nat) ≤ sizeLine := by decide
  obtain ⟨a, b1, b2, rfl, ha, h1, h2⟩ := hv.mono e1
  have ha1 := ex_t e2 ha
  cases b with
  | false =>
    have hj : σ[j]? = some (some (.int 0)) := hj
    refine ⟨_, hi, _, hj, _, rfl, a, _, rfl, ha1, (show ¬ (HT.sIx 2 0 none = 0 ∧ HT.sIx 2 2 (some 0) = 2) by decide), fun p1 np1 => ?_⟩
    have s1 := Stp.new (ms := []) (o := .tup (cutV [.ref b1, .ref b2] none (some 0))) e2 np1
    refine ⟨_, hi, _, hj, a, _, _, _, rfl, rfl, ex_t s1.in_ (ex_t s1.base ha), rfl, ?_⟩
    refine hev _ _ (e1.trans s1.base) s1.in_ _ fun ev B2 H2 s2 hevd => ⟨(show 1 ≤ sizeLine by omega), fun q1 nq1 => ?_⟩
    have s3 := Stp.new (ms := []) (o := .tup [ev]) s2.in_ nq1
    have s13 := s1.trans (s2.trans s3)
    refine cat_view (ms := []) s3.in_ (h1.mono s13.base) upd_same (hevd.mono s3.base) (by omega) fun r B4 H4 s4 hr4 => ⟨(show 1 ≤ sizeLine by omega), fun p2 np2 => ?_⟩
    have s5 := Stp.new (ms := []) (o := .tup [.ref r]) s4.in_ np2
    have s15 := s13.trans (s4.trans s5)
    have hp1 := s15.in_ _ _ (((s2.trans s3).trans (s4.trans s5)).base _ _ (upd_same (H := B1) (a := p1) (o := .tup (cutV [.ref b1, .ref b2] none (some 0)))))
    refine ⟨p1, p2, [], [.ref r], rfl, rfl, st_of hp1, st_of upd_same, (show 1 ≤ sizeLine by omega), fun _ => ?_, fun h => absurd rfl h, fun h => absurd rfl h⟩
    refine ⟨_, hi, _, hj, _, _, rfl, rfl, _, rfl, a, _, rfl, ex_t s15.in_ (ex_t s15.base ha), (show ¬ (HT.sIx 2 0 (some (0 + 1)) = 0 ∧ HT.sIx 2 2 none = 2) by decide), fun p3 np3 => ?_⟩
    have s6 := Stp.new (ms := []) (o := .tup (cutV [.ref b1, .ref b2] (some (0 + 1)) none)) s15.in_ np3
    refine ⟨p2, p3, [.ref r], [.ref b2], rfl, rfl, st_of (s6.in_ _ _ (s6.base _ _ upd_same)), st_of upd_same, (show 2 ≤ sizeLine by omega), fun h => absurd h (List.cons_ne_nil _ _), fun _ h => absurd h (List.cons_ne_nil _ _), fun _ _ p4 np4 => ?_⟩
    have s7 := s6.trans (Stp.new (ms := []) (o := .tup [.ref r, .ref b2]) s6.in_ np4)
    exact q _ _ _ (s15.trans s7) ⟨p4, r, b2, rfl, st_of upd_same, hr4.mono (s5.trans s7).base, h2.mono (s15.trans s7).base⟩
  | true =>
    have hj : σ[j]? = some (some (.int 1)) := hj
    refine ⟨_, hi, _, hj, _, rfl, a, _, rfl, ha1, (show ¬ (HT.sIx 2 0 none = 0 ∧ HT.sIx 2 2 (some 1) = 2) by decide), fun p1 np1 => ?_⟩
    have s1 := Stp.new (ms := []) (o := .tup (cutV [.ref b1, .ref b2] none (some 1))) e2 np1
    refine ⟨_, hi, _, hj, a, _, _, _, rfl, rfl, ex_t s1.in_ (ex_t s1.base ha), rfl, ?_⟩
    refine hev _ _ (e1.trans s1.base) s1.in_ _ fun ev B2 H2 s2 hevd => ⟨(show 1 ≤ sizeLine by omega), fun q1 nq1 => ?_⟩
    have s3 := Stp.new (ms := []) (o := .tup [ev]) s2.in_ nq1
    have s13 := s1.trans (s2.trans s3)
    refine cat_view (ms := []) s3.in_ (h2.mono s13.base) upd_same (hevd.mono s3.base) (by omega) fun r B4 H4 s4 hr4 => ⟨(show 1 ≤ sizeLine by omega), fun p2 np2 => ?_⟩
    have s5 := Stp.new (ms := []) (o := .tup [.ref r]) s4.in_ np2
    have s15 := s13.trans (s4.trans s5)
    have hp1 := s15.in_ _ _ (((s2.trans s3).trans (s4.trans s5)).base _ _ (upd_same (H := B1) (a := p1) (o := .tup (cutV [.ref b1, .ref b2] none (some 1)))))
    refine ⟨p1, p2, [.ref b1], [.ref r], rfl, rfl, st_of hp1, st_of upd_same, (show 2 ≤ sizeLine by omega), fun h => absurd h (List.cons_ne_nil _ _), fun _ h => absurd h (List.cons_ne_nil _ _), fun _ _ p4 np4 => ?_⟩
    have s6 := Stp.new (ms := []) (o := .tup [.ref b1, .ref r]) s15.in_ np4
    refine ⟨_, hi, _, hj, _, _, rfl, rfl, _, rfl, a, _, rfl, ex_t s6.in_ (ex_t s6.base (ex_t s15.base ha)), (show ¬ (HT.sIx 2 0 (some (1 + 1)) = 0 ∧ HT.sIx 2 2 none = 2) by decide), fun p3 np3 => ?_⟩
    have s7 := s6.trans (Stp.new (ms := []) (o := .tup (cutV [.ref b1, .ref b2] (some (1 + 1)) none)) s6.in_ np3)
    refine ⟨p4, p3, [.ref b1, .ref r], [], rfl, rfl, ?_, st_of upd_same, (show 2 ≤ sizeLine by omega), fun h => absurd h (List.cons_ne_nil _ _), fun _ _ => ?_, fun _ h => absurd rfl h⟩
    · exact ex_t (Ex.new np3) (st_of upd_same)
    · exact q _ _ _ (s15.trans s7) ⟨p4, b1, r, rfl, st_of ((Ex.new (ex_none s6.in_ np3)) _ _ upd_same), h1.mono (s15.trans s7).base, hr4.mono (s5.trans s7).base⟩
end
end LL
namespace LL
open PySem PySem.Spec PyProof.Rows L2 He Evl ND
/-! ### the law's own tree -/
section
variable {w : World} {K : PySem.W.Frag} {mg : Str → Option Value} {base : Heap}
mutual
inductive DtAt (K : PySem.W.Frag) (B : Hp) : V → Tr → Prop
  | fin {a : Addr} {pd : Int} (h : SqT K B a [.str "end", .int pd]) : DtAt K B (.ref a) (.fin pd)
  | lot {a l : Addr} {vs : List V} {ps : List Tr} (h : SqT K B a [.str "lot", .ref l]) (hl : B l = some (.lst vs)) (hp : DtsAt K B vs ps) : DtAt K B (.ref a) (.lot ps)
  | mov {a b l : Addr} {c : Bool} {v : List Evt} {vs : List V} {ps : List Tr} (h : SqT K B a [.str "move", .str (seatS c), .ref b, .ref l]) (hb : VwAt K B b v) (hl : B l = some (.lst vs)) (hp : DtsAt K B vs ps) : DtAt K B (.ref a) (.mov c v ps)
inductive DtsAt (K : PySem.W.Frag) (B : Hp) : List V → List Tr → Prop
  | nil : DtsAt K B [] []
  | cons {v : V} {t : Tr} {vs : List V} {ts : List Tr} (h : DtAt K B v t) (hr : DtsAt K B vs ts) : DtsAt K B (v :: vs) (t :: ts)
end
mutual
theorem DtAt.mono {B B2 : Hp} (e : Ex B B2) : ∀ {v : V} {t : Tr}, DtAt K B v t → DtAt K B2 v t
  | _, _, .fin h => .fin (ex_t e h)
  | _, _, .lot h ha hp => .lot (ex_t e h) (e _ _ ha) (DtsAt.mono e hp)
  | _, _, .mov h hb ha hp => .mov (ex_t e h) (hb.mono e) (e _ _ ha) (DtsAt.mono e hp)
theorem DtsAt.mono {B B2 : Hp} (e : Ex B B2) : ∀ {vs : List V} {ts : List Tr}, DtsAt K B vs ts → DtsAt K B2 vs ts
  | _, _, .nil => .nil
  | _, _, .cons h hr => .cons (DtAt.mono e h) (DtsAt.mono e hr)
end
theorem DtsAt.snoc {B : Hp} : ∀ {vs : List V} {ts : List Tr} {v : V} {t : Tr}, DtsAt K B vs ts → DtAt K B v t → DtsAt K B (vs ++ [v]) (ts ++ [t])
  | _, _, _, _, .nil, h => .cons h .nil
  | _, _, _, _, .cons h1 h2, h => .cons h1 (DtsAt.snoc h2 h)
theorem DtsAt.len {B : Hp} : ∀ {vs : List V} {ts : List Tr}, DtsAt K B vs ts → vs.length = ts.length
  | _, _, .nil => rfl
  | _, _, .cons _ h => by rw [List.length_cons, List.length_cons, DtsAt.len h]
theorem cut1 {x : V} {xs : List V} : cutV (x :: xs) (some 1) none = xs := by
  unfold cutV
  have h1 : HT.sIx (x :: xs).length 0 (some 1) = 1 := by
    show HT.sIx (xs.length + 1) 0 (some 1) = 1
    unfold HT.sIx
    simp
  have h2 : HT.sIx (x :: xs).length (x :: xs).length none = xs.length + 1 := rfl
  rw [h1, h2]
  simp
theorem nocut1 {x : V} {xs : List V} : ¬ (HT.sIx (x :: xs).length 0 (some 1) = 0 ∧ HT.sIx (x :: xs).length (x :: xs).length none = (x :: xs).length) := by
  have h1 : HT.sIx (x :: xs).length 0 (some 1) = 1 := by
    show HT.sIx (xs.length + 1) 0 (some 1) = 1
    unfold HT.sIx
    simp
  rw [h1]
  exact fun h => absurd h.1 (by decide)
theorem dpa_appB {H : Hp} : ∀ {vs us : List V} {a b : List PyData}, DpAll K H vs a → DpAll K H us b → DpAll K H (vs ++ us) (a ++ b)
  | _, _, _, _, .nil, h => h
  | _, _, _, _, .cons h1 h2, h => .cons h1 (dpa_appB h2 h)
theorem dpa_monoB {H H' : Hp} (e : Ex H H') : ∀ {vs : List V} {a : List PyData}, DpAll K H vs a → DpAll K H' vs a
  | _, _, .nil => .nil
  | _, _, .cons h1 h2 => .cons (dp_mono e h1) (dpa_monoB e h2)
theorem cat_blk {ms : List Addr} {B H : Hp} {v1 v2 : V} {A S : List Stm} {Q : VK} (e : Ex B H) (h1 : Dp K B v1 (.tuple (blD A))) (h2 : Dp K B v2 (.tuple (blD S))) (hl : szB A + szB S ≤ 10000)
    (k : ∀ r B2 H2, Stp ms B H B2 H2 → Dp K B2 r (.tuple (blD (A ++ S))) → Q r H2) : rCatA K v1 v2 H Q := by
  have hbig : (100000 : Nat) ≤ sizeLine := by decide
  obtain ⟨a, xs, rfl, ha, hda⟩ := dp_tupK h1
  obtain ⟨b, ys, rfl, hb, hdb⟩ := dp_tupK h2
  have la := dpa_len hda
  have lb := dpa_len hdb
  rw [blD_len] at la lb
  have la2 := len_szB A
  have lb2 := len_szB S
  refine ⟨a, b, xs, ys, rfl, rfl, ex_t e ha, ex_t e hb, by omega, fun hx => ?_, fun hx hy => ?_, fun _ _ p np => ?_⟩
  · have : A = [] := List.length_eq_zero_iff.mp (by rw [← la, hx]; rfl)
    subst this
    exact k _ _ _ (Stp.refl e) h2
  · have : S = [] := List.length_eq_zero_iff.mp (by rw [← lb, hy]; rfl)
    subst this
    exact k _ _ _ (Stp.refl e) (by rw [List.append_nil]; exact h1)
  · have s := Stp.new (ms := ms) (o := .tup (xs ++ ys)) e np
    exact k _ _ _ s (.tup (st_of upd_same) (by rw [blD_app]; exact dpa_appB (dpa_monoB s.base hda) (dpa_monoB s.base hdb)))
def MadeL (K : PySem.W.Frag) (cp : Addr) (B H : Hp) (r : Option (Tr × Nat)) (Q : VK) : Prop :=
  (∀ tr (c2 : Nat) v B2 H2, r = some (tr, c2) → Stp [cp] B H B2 H2 → H2 cp = some (.lst [.int (c2 : Nat)]) → DtAt K B2 v tr → Q v H2) ∧
  (r = none → ∀ v B2 H2 (c2 : Nat), 400 < c2 → Stp [cp] B H B2 H2 → H2 cp = some (.lst [.int (c2 : Nat)]) → Q v H2)
theorem MadeL.step {cp : Addr} {B H B1 H1 : Hp} {r : Option (Tr × Nat)} {Q : VK} (m : MadeL K cp B H r Q) (s : Stp [cp] B H B1 H1) : MadeL K cp B1 H1 r Q :=
  ⟨fun tr c2 v B2 H2 h1 h2 h3 h4 => m.1 tr c2 v B2 H2 h1 (s.trans h2) h3 h4, fun h1 v B2 H2 c2 h h2 h3 => m.2 h1 v B2 H2 c2 h (s.trans h2) h3⟩
def spLNode (K : PySem.W.Frag) (d : Nat) : Sp := fun us H Q _ => ∃ (g : V) (ta cp : Addr) (vv blk : V) (B : Hp) (zs t : Tbl) (vw : Vws) (pd : Int) (S0 S : List Stm) (c f : Nat) (xs : List Str),
  us = [g, .ref ta, vv, .int pd, blk, .ref cp] ∧ Ex B H ∧ B cp = none ∧ H cp = some (.lst [.int (c : Nat)]) ∧ LGm K B g zs S0 ∧ B ta = some (.dK (tK t)) ∧ VwsAt K B vv vw ∧ Dp K B blk (.tuple (blD S)) ∧ GmOk xs zs t S vw ∧ zs.length ≤ 100 ∧ nbB S ≤ d ∧ szB S < f ∧ szB S ≤ 2990 ∧ MadeL K cp B H (nodeT zs f t vw pd S c) Q
def spLNodeP (K : PySem.W.Frag) : Nat → Sp
  | 0 => fun _ _ _ _ => False
  | n + 1 => spLNode K n
/-- the parts so far -/
structure LPt (K : PySem.W.Frag) (L cp : Addr) (F : Nat → Nat → Option (Tr × Nat)) (n c i : Nat) (B H B' H' : Hp) (vs : List V) : Prop where
  st : Stp [L, cp] B (upd H L (.lst [])) B' H'
  hL : H' L = some (.lst vs)
  bL : B' L = none
  len : vs.length = i
  ex : ∃ ci : Nat, H' cp = some (.lst [.int (ci : Nat)]) ∧ ((∃ tr : List Tr, DtsAt K B' vs tr ∧ partsF F n 0 c = (partsF F (n - i) i ci).map fun p => (tr ++ p.1, p.2)) ∨ (partsF F n 0 c = none ∧ 400 < ci))
theorem LPt.zero {L cp : Addr} {F : Nat → Nat → Option (Tr × Nat)} {n c : Nat} {B H : Hp} (e : Ex B H) (nL : H L = none) (hb : H cp = some (.lst [.int (c : Nat)])) : LPt K L cp F n c 0 B H B (upd H L (.lst [])) [] :=
  ⟨Stp.refl (Ex.mut e (ex_none e nL)), upd_same, ex_none e nL, rfl, c, (by
    have : cp ≠ L := fun z => by subst z; rw [hb] at nL; cases nL
    rw [upd_ne this]; exact hb), .inl ⟨[], .nil, by
    rw [Nat.sub_zero]
    cases partsF F n 0 c with
    | none => rfl
    | some p => rfl⟩⟩
/-- one part more -/
theorem LPt.more {L cp : Addr} {F : Nat → Nat → Option (Tr × Nat)} {n c i : Nat} {B H B' H' B2 H2 : Hp} {vs : List V} {c2 : Nat} {v : V} (h : LPt K L cp F n c i B H B' H' vs) (nLp : L ≠ cp) (s : Stp [cp] B' H' B2 H2) (hb : H2 cp = some (.lst [.int (c2 : Nat)]))
    (hx : (∃ tr : List Tr, DtsAt K B2 (vs ++ [v]) tr ∧ partsF F n 0 c = (partsF F (n - (i + 1)) (i + 1) c2).map fun p => (tr ++ p.1, p.2)) ∨ (partsF F n 0 c = none ∧ 400 < c2)) :
    H2 L = some (.lst vs) ∧ LPt K L cp F n c (i + 1) B H B2 (upd H2 L (.lst (vs ++ [v]))) (vs ++ [v]) := by
  have hL2 : H2 L = some (.lst vs) := s.fr L _ (by simpa using nLp) h.hL
  have bL2 : B2 L = none := s.off h.bL h.hL
  refine ⟨hL2, (h.st.trans (s.wk fun x hx => .tail _ hx)).trans (Stp.put s.in_ bL2 (.head _)), upd_same, bL2, by rw [List.length_append, h.len]; rfl, c2, ?_, hx⟩
  rw [upd_ne (Ne.symm nLp)]; exact hb
theorem LPt.done {L cp : Addr} {F : Nat → Nat → Option (Tr × Nat)} {n c : Nat} {B H B' H' : Hp} {vs : List V} (h : LPt K L cp F n c n B H B' H' vs) (e : Ex B H) (nL : H L = none) :
    Stp [cp] B H (upd B' L (.lst vs)) H' ∧ ∃ cn : Nat, H' cp = some (.lst [.int (cn : Nat)]) ∧ ((∃ tr : List Tr, partsF F n 0 c = some (tr, cn) ∧ DtsAt K (upd B' L (.lst vs)) vs tr) ∨ (partsF F n 0 c = none ∧ 400 < cn)) := by
  obtain ⟨cn, h1, h2⟩ := h.ex
  refine ⟨Stp.close e nL h.st h.hL, cn, h1, ?_⟩
  rcases h2 with ⟨tr, h3, h4⟩ | h2
  · refine .inl ⟨tr, ?_, h3.mono (Ex.new h.bL)⟩
    rw [h4, Nat.sub_self]
    show some (tr ++ [], cn) = _
    rw [List.append_nil]
  · exact .inr h2
/-- what the next part's making comes to -/
theorem LPt.next {L cp : Addr} {F : Nat → Nat → Option (Tr × Nat)} {n c i ci : Nat} {B H B' H' B1 H1 : Hp} {vs : List V} {D : VK} (h : LPt K L cp F n c i B H B' H' vs) (nLp : L ≠ cp) (hi : i < n) (hci : H' cp = some (.lst [.int (ci : Nat)]))
    (hx : (∃ tr : List Tr, DtsAt K B' vs tr ∧ partsF F n 0 c = (partsF F (n - i) i ci).map fun p => (tr ++ p.1, p.2)) ∨ (partsF F n 0 c = none ∧ 400 < ci)) (hF : 400 < ci → F i ci = none) (s1 : Stp [cp] B' H' B1 H1)
    (k : ∀ v B2 H2, H2 L = some (.lst vs) → LPt K L cp F n c (i + 1) B H B2 (upd H2 L (.lst (vs ++ [v]))) (vs ++ [v]) → D v H2) : MadeL K cp B1 H1 (F i ci) D := by
  refine ⟨fun tr2 c2 v B2 H2 h1 h2 h3 h4 => ?_, fun h1 v B2 H2 c2 hc h2 h3 => ?_⟩
  · have := h.more (v := v) nLp (s1.trans h2) h3 (by
      rcases hx with ⟨tr, g1, g2⟩ | ⟨g1, g2⟩
      · refine .inl ⟨tr ++ [tr2], (g1.mono (s1.trans h2).base).snoc h4, ?_⟩
        rw [g2, partsF_step hi, h1]
        show ((partsF F (n - (i + 1)) (i + 1) c2).map fun p => (tr2 :: p.1, p.2)).map _ = _
        rw [Option.map_map]
        congr 1
        funext p
        show (tr ++ tr2 :: p.1, p.2) = (tr ++ [tr2] ++ p.1, p.2)
        rw [List.append_assoc]
        rfl
      · rw [hF g2] at h1; cases h1)
    exact k v B2 H2 this.1 this.2
  · have := h.more (v := v) nLp (s1.trans h2) h3 (.inr ⟨by
      rcases hx with ⟨tr, g1, g2⟩ | ⟨g1, _⟩
      · rw [g2, partsF_step hi, h1]; rfl
      · exact g1, hc⟩)
    exact k v B2 H2 this.1 this.2
end
end LL
namespace LL
open PySem PySem.Spec PyProof.Rows L2 He Evl ND
section
variable {w : World} {K : PySem.W.Frag} {mg : Str → Option Value} {base : Heap}
theorem fn_ln1 (T : Txt K mg) (d : Nat) (IH : Fn P w K mg base (12 + d) (ga K "_law_node") (spLNodeP K d)) : Fn P w K mg base (12 + d + 1) (ga K "_law_node") (spLNode K d) := by
  refine fn_def T.d_l_node sc_l_node (fun _ _ _ _ _ _ us hl => match us, hl with | [_, _, _, _, _, _], _ => rfl) (fun vs H Q E h => ?_) (fun cdv A outer s H vs Q E hr h => ?_)
  · obtain ⟨_, _, _, _, _, _, _, _, _, _, _, _, _, _, _, rfl, _⟩ := h
    rfl
  obtain ⟨g, ta, cp, vv, blk, B, zs, t, vw, pd, S0, S, c, f, xs, rfl, e, hb, hcp, hg, hta, hvv, hblk, hgm, hzl, hd, hf, hS, k⟩ := h
  have nd := sc_l_node.nd
  have hr2 : Room 2 _ := hr.mono (by omega)
  have hr10 : Room 10 _ := hr.mono (by omega)
  have hbig : (100000 : Nat) ≤ sizeLine := by decide
  refine ⟨_, pss_cons (ps_asg (pe_op op_add (pe_ix ix_list (pv 5) (pe_int) (fun _ _ => rfl)) (pe_int)) (pg_sub (pv 5) (pe_int) set_list))
      (pss_cons (ps_if (pt_cmpR op_gt (pe_ix ix_list (pv 5) (pe_int) (fun _ _ => rfl)) (pe_int) (nomark _)) (pss_one (ps_ret (pe_non))) (pss_nil))
      (pss_cons (ps_for (passes_of rfl) rfl (pi_range1 rfl T.f_range (pa_cons (pe_int) pa_nil)) (pg_name (i := 6) nd rfl (by first | exact Or.inl rfl | exact Or.inr rfl)) (pss_cons (ps_if (pt_cmpR op_eq (pe_callB call_len_seq (by rfl) T.f_len PySem.boot_len (pa_cons (pv 4) pa_nil)) (pe_int) (nomark _)) (pss_one (ps_ret (pe_tup (pa_cons (pe_str) (pa_cons (pv 3) pa_nil))))) (pss_nil))
      (pss_cons (ps_set (i := 7) nd rfl (by first | exact Or.inl rfl | exact Or.inr rfl) (pe_ix ix_tup (pv 4) (pe_int) (fun _ _ => rfl)))
      (pss_cons (ps_set (i := 4) nd rfl (by first | exact Or.inl rfl | exact Or.inr rfl) (pe_slice sl_tup (pv 4) (po_some (pe_int)) po_none))
      (pss_one (ps_if (pt_cmpR op_eq (pe_ix ix_tup (pv 7) (pe_int) (fun _ _ => rfl)) (pe_str) (nomark _)) (pss_one (ps_set (i := 4) nd rfl (by first | exact Or.inl rfl | exact Or.inr rfl) (pe_op op_catA (pe_ix ix_tup (pv 7) (pe_op op_add (pe_int) (pe_callTy call_int1 (by rfl) T.f_int (by decide +kernel) (pa_cons (pe_cmpR op_eq (pe_fn T.d_l_number_of (fn_l_number_of T) hr10 T.g_l_number_of pc (pa_cons (pe_ix ix_tup (pv 7) (pe_int) (fun _ _ => rfl)) (pa_cons (pv 1) pa_nil))) (pe_int) (nomark _)) pa_nil))) (fun _ _ => rfl)) (pv 4)))) (pss_one (ps_if (pt_cmpR op_eq (pe_ix ix_tup (pv 7) (pe_int) (fun _ _ => rfl)) (pe_str) (nomark _)) (pss_one (ps_set (i := 1) nd rfl (by first | exact Or.inl rfl | exact Or.inr rfl) (pe_fn T.d_l_stored (fn_l_stored T) hr2 T.g_l_stored pc (pa_cons (pv 0) (pa_cons (pv 1) (pa_cons (pe_ix ix_tup (pv 7) (pe_int) (fun _ _ => rfl)) (pa_cons (pe_fn T.d_l_number_of (fn_l_number_of T) hr10 T.g_l_number_of pc (pa_cons (pe_ix ix_tup (pv 7) (pe_int) (fun _ _ => rfl)) (pa_cons (pv 1) pa_nil))) pa_nil))))))) (pss_one (ps_if (pt_cmpR op_eq (pe_ix ix_tup (pv 7) (pe_int) (fun _ _ => rfl)) (pe_str) (nomark _)) (pss_cons (ps_set (i := 8) nd rfl (by first | exact Or.inl rfl | exact Or.inr rfl) (pe_callTy call_int1 (by rfl) T.f_int (by decide +kernel) (pa_cons (pe_cmpR op_eq (pe_ix ix_tup (pv 7) (pe_int) (fun _ _ => rfl)) (pe_str) (nomark _)) pa_nil)))
      (pss_cons (ps_set (i := 9) nd rfl (by first | exact Or.inl rfl | exact Or.inr rfl) (pe_tup (pa_cons (pe_str) (pa_cons (pe_fn T.d_l_number_of (fn_l_number_of T) hr10 T.g_l_number_of pc (pa_cons (pe_ix ix_tup (pv 7) (pe_int) (fun _ _ => rfl)) (pa_cons (pv 1) pa_nil))) pa_nil))))
      (pss_one (ps_set (i := 2) nd rfl (by first | exact Or.inl rfl | exact Or.inr rfl) (pe_op op_catA (pe_op op_catA (pe_slice sl_tup (pv 2) po_none (po_some (pv 8))) (pe_tup (pa_cons (pe_op op_catA (pe_ix ix_tup (pv 2) (pv 8) (fun _ _ => rfl)) (pe_tup (pa_cons (pv 9) pa_nil))) pa_nil))) (pe_slice sl_tup (pv 2) (po_some (pe_op op_add (pv 8) (pe_int))) po_none)))))) (pss_one (ps_if (pt_cmpR op_eq (pe_ix ix_tup (pv 7) (pe_int) (fun _ _ => rfl)) (pe_str) (nomark _)) (pss_one (ps_set (i := 3) nd rfl (by first | exact Or.inl rfl | exact Or.inr rfl) (pe_op op_add (pv 3) (pe_fn T.d_l_number_of (fn_l_number_of T) hr10 T.g_l_number_of pc (pa_cons (pe_ix ix_tup (pv 7) (pe_int) (fun _ _ => rfl)) (pa_cons (pv 1) pa_nil)))))) (pss_one (ps_if (pt_cmpR op_eq (pe_ix ix_tup (pv 7) (pe_int) (fun _ _ => rfl)) (pe_str) (nomark _)) (pss_one (ps_set (i := 3) nd rfl (by first | exact Or.inl rfl | exact Or.inr rfl) (pe_op op_sub (pv 3) (pe_fn T.d_l_number_of (fn_l_number_of T) hr10 T.g_l_number_of pc (pa_cons (pe_ix ix_tup (pv 7) (pe_int) (fun _ _ => rfl)) (pa_cons (pv 1) pa_nil)))))) (pss_cons (ps_set (i := 8) nd rfl (by first | exact Or.inl rfl | exact Or.inr rfl) (pe_callTy call_int1 (by rfl) T.f_int (by decide +kernel) (pa_cons (pe_cmpR op_eq (pe_ix ix_tup (pv 7) (pe_int) (fun _ _ => rfl)) (pe_str) (nomark _)) pa_nil)))
      (pss_cons (ps_set (i := 10) nd rfl (by first | exact Or.inl rfl | exact Or.inr rfl) (pv 2))
      (pss_cons (ps_if (pt_cmpR op_ne (pe_ix ix_tup (pv 7) (pe_int) (fun _ _ => rfl)) (pe_str) (nomark _)) (pss_one (ps_set (i := 10) nd rfl (by first | exact Or.inl rfl | exact Or.inr rfl) (pe_op op_catA (pe_op op_catA (pe_slice sl_tup (pv 2) po_none (po_some (pv 8))) (pe_tup (pa_cons (pe_op op_catA (pe_ix ix_tup (pv 2) (pv 8) (fun _ _ => rfl)) (pe_tup (pa_cons (pe_tup (pa_cons (pe_str) (pa_cons (pe_ix ix_tup (pv 7) (pe_int) (fun _ _ => rfl)) (pa_cons (pe_ix ix_tup (pv 7) (pe_int) (fun _ _ => rfl)) pa_nil)))) pa_nil))) pa_nil))) (pe_slice sl_tup (pv 2) (po_some (pe_op op_add (pv 8) (pe_int))) po_none)))) (pss_nil))
      (pss_cons (ps_set (i := 11) nd rfl (by first | exact Or.inl rfl | exact Or.inr rfl) (pe_lst pa_nil))
      (pss_cons (ps_for (passes_of rfl) rfl (pi_range1 rfl T.f_range (pa_cons (pe_ix ix_tup (pv 7) (pe_int) (fun _ _ => rfl)) pa_nil)) (pg_name (i := 12) nd rfl (by first | exact Or.inl rfl | exact Or.inr rfl)) (pss_cons (ps_set (i := 13) nd rfl (by first | exact Or.inl rfl | exact Or.inr rfl) (pv 10))
      (pss_cons (ps_if (pt_cmpR op_ne (pe_ix ix_tup (pv 7) (pe_int) (fun _ _ => rfl)) (pe_str) (nomark _)) (pss_one (ps_set (i := 13) nd rfl (by first | exact Or.inl rfl | exact Or.inr rfl) (pe_op op_catA (pe_op op_catA (pe_slice sl_tup (pv 10) po_none (po_some (pv 8))) (pe_tup (pa_cons (pe_op op_catA (pe_ix ix_tup (pv 10) (pv 8) (fun _ _ => rfl)) (pe_tup (pa_cons (pe_tup (pa_cons (pe_str) (pa_cons (pv 12) pa_nil))) pa_nil))) pa_nil))) (pe_slice sl_tup (pv 10) (po_some (pe_op op_add (pv 8) (pe_int))) po_none)))) (pss_nil))
      (pss_one (ps_expr (pe_bm PySem.F.plainAttrs_list PySem.F.slot_list_append PySem.F.type_list_append mt_append (pv 11) (pa_cons (pe_fn T.d_l_node IH hr T.g_l_node pc (pa_cons (pv 0) (pa_cons (pe_fn T.d_l_stored (fn_l_stored T) hr2 T.g_l_stored pc (pa_cons (pv 0) (pa_cons (pv 1) (pa_cons (pe_ix ix_tup (pv 7) (pe_int) (fun _ _ => rfl)) (pa_cons (pv 12) pa_nil))))) (pa_cons (pv 13) (pa_cons (pv 3) (pa_cons (pv 4) (pa_cons (pv 5) pa_nil))))))) pa_nil)))))))
      (pss_cons (ps_if (pt_cmpR op_eq (pe_ix ix_tup (pv 7) (pe_int) (fun _ _ => rfl)) (pe_str) (nomark _)) (pss_one (ps_ret (pe_tup (pa_cons (pe_str) (pa_cons (pv 11) pa_nil))))) (pss_nil))
      (pss_one (ps_ret (pe_tup (pa_cons (pe_str) (pa_cons (pe_ix ix_tup (pe_tup (pa_cons (pe_str) (pa_cons (pe_str) pa_nil))) (pv 8) (fun _ _ => rfl)) (pa_cons (pe_ix ix_tup (pv 10) (pv 8) (fun _ _ => rfl)) (pa_cons (pv 11) pa_nil)))))))))))))))))))))))))))
      (pss_one (ps_ret (pe_non))))), ?_⟩
  refine ⟨_, rfl, cp, _, _, _, rfl, rfl, sq_of hcp, rfl, _, _, rfl, rfl, _, rfl, cp, _, _, _, rfl, rfl, hcp, rfl, ?_⟩
  have s1 := Stp.put (ms := [cp]) (o := .lst [.int ((c : Int) + 1)]) e hb (.head _)
  have hc1 : upd H cp (.lst [.int ((c : Int) + 1)]) cp = some (.lst [.int ((c + 1 : Nat) : Int)]) := upd_same
  refine ⟨_, rfl, cp, _, _, _, rfl, rfl, sq_of hc1, rfl, _, _, rfl, rfl, _, rfl, ifs (fun c1 => ?_) fun c1 => ?_⟩
  · have hc : c + 1 > 400 := by have := of_decide_eq_true c1; omega
    exact k.2 (if_pos hc) _ _ _ (c + 1) hc s1 hc1
  have hc : ¬ c + 1 > 400 := fun z => absurd c1 (by rw [decide_eq_true (by omega)]; exact fun z => nomatch z)
  have hnode : nodeT zs f t vw pd S c = goT zs f t vw pd S (c + 1) := if_neg hc
  rw [hnode] at k
  refine ⟨3000, rfl, by omega, by omega, for_range (lo := 0) (n := 3000) (fun i σ H' => ∃ (B' : Hp) (ta' : Addr) (vv' blk' : V) (t' : Tbl) (vw' : Vws) (pd' : Int) (S' : List Stm) (f' : Nat) (u6 u7 u8 u9 u10 u11 u12 u13 : Option V), Stp [cp] B H B' H' ∧ H' cp = some (.lst [.int ((c + 1 : Nat) : Int)]) ∧ B' ta' = some (.dK (tK t')) ∧ VwsAt K B' vv' vw' ∧ Dp K B' blk' (.tuple (blD S')) ∧
    GmOk xs zs t' S' vw' ∧ nbB S' ≤ d ∧ szB S' < f' ∧ szB S' + i ≤ 2990 ∧ goT zs f' t' vw' pd' S' (c + 1) = goT zs f t vw pd S (c + 1) ∧ σ = [some g, some (.ref ta'), some vv', some (.int pd'), some blk', some (.ref cp), u6, u7, u8, u9, u10, u11, u12, u13])
    ⟨B, ta, vv, blk, t, vw, pd, S, f, none, none, none, none, none, none, none, none, s1, hc1, hta, hvv, hblk, hgm, hd, hf, hS, rfl, rfl⟩ (fun i σ H' hi z => ?_) (fun σ H' z => ?_)⟩
  rotate_left
  · obtain ⟨_, _, _, _, _, _, _, _, _, _, _, _, _, _, _, _, _, _, _, _, _, _, _, _, _, h, _⟩ := z
    omega
  obtain ⟨B', ta', vv', blk', t', vw', pd', S', f', u6, u7, u8, u9, u10, u11, u12, u13, s2, hcp2, hta2, hvv2, hblk2, hgm2, hd2, hf2, hi2, hgo, rfl⟩ := z
  obtain ⟨ba, bxs, rfl, hba, hbd⟩ := dp_tupK hblk2
  have hbl : bxs.length = S'.length := by rw [← blD_len S']; exact dpa_len hbd
  have bp2 : B' cp = none := s2.off hb hcp
  cases f' with
  | zero => omega
  | succ m =>
  refine ⟨_, rfl, ba, _, rfl, .inr (ex_t s2.in_ hba), rfl, _, rfl, ifs (fun hc0 => ?_) fun hc0 => ?_⟩
  · have h0 : S'.length = 0 := by have := V.int.inj (of_decide_eq_true hc0); omega
    cases S' with
    | cons _ _ => cases h0
    | nil =>
    refine ⟨_, rfl, (show 2 ≤ sizeLine by omega), fun q nq => ?_⟩
    have s3 := s2.trans (Stp.new (ms := [cp]) (o := .tup [.str "end", .int pd']) s2.in_ nq)
    refine k.1 (.fin pd') (c + 1) _ _ _ (by rw [← hgo]; rfl) s3 ?_ (.fin (st_of upd_same))
    rw [upd_ne (fun z => by subst z; rw [hcp2] at nq; cases nq)]; exact hcp2
  cases S' with
  | nil =>
    exact absurd hc0 (by
      have : bxs = [] := List.length_eq_zero_iff.mp hbl
      subst this
      decide)
  | cons st S' =>
  obtain ⟨rv, bxs, rfl, hrv, hbd2⟩ := dpa_c hbd
  have hsz := szB_pos st
  rw [szB] at hf2 hi2
  have hnb := hd2
  rw [nbB] at hnb
  have hwf := hgm2.wf
  rw [wfB] at hwf
  obtain ⟨hws, hwS⟩ := hwf
  have hvw := hgm2.hv
  rw [szB] at hvw
  refine ⟨_, rfl, ba, _, _, _, rfl, rfl, ex_t s2.in_ hba, at0, ?_⟩
  refine ⟨_, rfl, 1, rfl, ba, _, rfl, ex_t s2.in_ hba, nocut1, fun b2 nb2 => ?_⟩
  rw [cut1]
  have hcp3 : upd H' b2 (.tup bxs) cp = some (.lst [.int ((c + 1 : Nat) : Int)]) := by rw [upd_ne (fun z => by subst z; rw [hcp2] at nb2; cases nb2)]; exact hcp2
  have t3 := Stp.new (ms := []) (o := .tup bxs) s2.in_ nb2
  have s3 := s2.trans (t3.nil (ns := [cp]))
  have hta3 := t3.base _ _ hta2
  have hvv3 := hvv2.mono t3.base
  have hrv3 := dp_mono t3.base hrv
  have hbk3 : Dp K (upd B' b2 (.tup bxs)) (.ref b2) (.tuple (blD S')) := .tup (st_of upd_same) (dpa_monoB t3.base hbd2)
  have bp3 := t3.off bp2 hcp2
  generalize upd B' b2 (.tup bxs) = B3 at s3 hta3 hvv3 hrv3 hbk3 bp3
  generalize upd H' b2 (.tup bxs) = H3 at s3 hcp3 ⊢
  clear t3 s2 hcp2 hta2 hvv2 hblk2 hrv hbd hbd2 hba
  have hg3 := hg.mono s3.base
  have turn : ∀ {H2 B2 : Hp} {ta2 : Addr} {vv2 q4 : V} {t2 : Tbl} {vw2 : Vws} {pd2 : Int} {S2 : List Stm} {u6 u7 u8 u9 u10 u11 u12 u13 : Option V}, Stp [] B3 H3 B2 H2 → B2 ta2 = some (.dK (tK t2)) → VwsAt K B2 vv2 vw2 → Dp K B2 q4 (.tuple (blD S2)) → t2.map (·.1) = xs → TblOk t2 → t2.length ≤ 100 → wfB xs S2 → vw2.1.length + vw2.2.length + 2 * szB S2 ≤ 900 → nbB S2 ≤ d → szB S2 < m → szB S2 + (i + 1) ≤ 2990 →
      goT zs (m + 1) t' vw' pd' (st :: S') (c + 1) = goT zs m t2 vw2 pd2 S2 (c + 1) →
      ∃ (B' : Hp) (ta' : Addr) (vv' blk' : V) (t' : Tbl) (vw' : Vws) (pd' : Int) (S' : List Stm) (f' : Nat) (u6' u7' u8' u9' u10' u11' u12' u13' : Option V), Stp [cp] B H B' H2 ∧ H2 cp = some (.lst [.int ((c + 1 : Nat) : Int)]) ∧ B' ta' = some (.dK (tK t')) ∧ VwsAt K B' vv' vw' ∧ Dp K B' blk' (.tuple (blD S')) ∧
    GmOk xs zs t' S' vw' ∧ nbB S' ≤ d ∧ szB S' < f' ∧ szB S' + (i + 1) ≤ 2990 ∧ goT zs f' t' vw' pd' S' (c + 1) = goT zs f t vw pd S (c + 1) ∧ [some g, some (.ref ta2), some vv2, some (.int pd2), some q4, some (.ref cp), u6, u7, u8, u9, u10, u11, u12, u13] = [some g, some (.ref ta'), some vv', some (.int pd'), some blk', some (.ref cp), u6', u7', u8', u9', u10', u11', u12', u13'] :=
    fun s h1 h2 h3 h4 h5 h6 h7 h8 h9 h10 h11 h12 => ⟨_, _, _, _, _, _, _, _, m, _, _, _, _, _, _, _, _, s3.trans s.nil, s.fr cp _ (fun h => nomatch h) hcp3, h1, h2, h3, ⟨hgm2.hz, h4, h5, hgm2.z1, h7, h8, h6⟩, h9, h10, h11, by rw [← h12]; exact hgo, rfl⟩
  have hn2 : nbS st + nbB S' ≤ d := hnb
  have hta3' := s3.in_ _ _ hta3
  clear hnb
  cases st with
  | ite ex A2 B2 =>
    obtain ⟨r, vs, rfl, h2, h3⟩ := dp_tupK (show Dp K B3 rv (.tuple [.str "if", exD ex, .tuple (blD A2), .tuple (blD B2)]) from hrv3)
    obtain ⟨_, rfl, h4⟩ := dpa_s h3
    obtain ⟨ve, _, rfl, hve, h5⟩ := dpa_c h4
    obtain ⟨vA, _, rfl, hvA, h6⟩ := dpa_c h5
    obtain ⟨vB, _, rfl, hvB, h7⟩ := dpa_c h6
    cases dpa_n h7
    have sx := ex_t s3.in_ h2
    rw [wfS] at hws
    rw [szS] at hf2 hvw hi2
    rw [nbS] at hn2
    refine ⟨_, rfl, r, _, _, _, rfl, rfl, sx, rfl, rfl, _, rfl, ifs (fun _ => ?_) fun z => absurd rfl (of_decide_eq_false z)⟩
    refine ⟨_, rfl, _, rfl, r, _, _, _, rfl, rfl, sx, rfl, _, rfl, ve, ta', ex, t', xs, rfl, dp_mono s3.in_ hve, hta3', hgm2.ht, hgm2.ok, hws.1.1, hws.1.2, rfl, .inr ⟨_, rfl, _, _, rfl, rfl, ?_⟩⟩
    by_cases hx : exV t' ex = 0
    · have hdc : decide (V.int (exV t' ex : Nat) = V.int 0) = true := by rw [hx]; rfl
      rw [hdc]
      refine ⟨r, _, _, _, rfl, rfl, sx, rfl, _, rfl, cat_blk (ms := []) s3.in_ hvB hbk3 (by omega) fun v B5 H5 s5 hd5 => ?_⟩
      refine turn s5 (s5.base _ _ hta3) (hvv3.mono s5.base) hd5 hgm2.ht hgm2.ok hgm2.n (wfB_app hws.2.2 hwS) (by rw [szB_app]; omega) (by rw [nbB_app]; omega) (by rw [szB_app]; omega) (by rw [szB_app]; omega) ?_
      show goT zs m t' vw' pd' ((if exV t' ex ≠ 0 then A2 else B2) ++ S') (c + 1) = _
      rw [if_neg (fun z => z hx)]
    · have hdc : decide (V.int (exV t' ex : Nat) = V.int 0) = false := decide_eq_false fun z => hx (by have := V.int.inj z; omega)
      rw [hdc]
      refine ⟨r, _, _, _, rfl, rfl, sx, rfl, _, rfl, cat_blk (ms := []) s3.in_ hvA hbk3 (by omega) fun v B5 H5 s5 hd5 => ?_⟩
      refine turn s5 (s5.base _ _ hta3) (hvv3.mono s5.base) hd5 hgm2.ht hgm2.ok hgm2.n (wfB_app hws.2.1 hwS) (by rw [szB_app]; omega) (by rw [nbB_app]; omega) (by rw [szB_app]; omega) (by rw [szB_app]; omega) ?_
      show goT zs m t' vw' pd' ((if exV t' ex ≠ 0 then A2 else B2) ++ S') (c + 1) = _
      rw [if_pos hx]
  | set x ex =>
    obtain ⟨r, vs, rfl, h2, h3⟩ := dp_tupK (show Dp K B3 rv (.tuple [.str "set", .str x, exD ex]) from hrv3)
    obtain ⟨_, rfl, h4⟩ := dpa_s h3
    obtain ⟨_, rfl, h5⟩ := dpa_s h4
    obtain ⟨ve, _, rfl, hve, h6⟩ := dpa_c h5
    cases dpa_n h6
    have sx := ex_t s3.in_ h2
    rw [wfS] at hws
    have hz1 := hgm2.z1 x hws.1
    refine ⟨_, rfl, r, _, _, _, rfl, rfl, sx, rfl, rfl, _, rfl, ifs (fun z => absurd (V.str.inj (of_decide_eq_true z)) (by decide)) fun _ => ?_⟩
    refine ⟨_, rfl, r, _, _, _, rfl, rfl, sx, rfl, rfl, _, rfl, ifs (fun _ => ?_) fun z => absurd rfl (of_decide_eq_false z)⟩
    refine ⟨_, rfl, _, rfl, _, rfl, r, _, _, _, rfl, rfl, sx, rfl, _, rfl, r, _, _, _, rfl, rfl, sx, rfl, _, rfl, ve, ta', ex, t', xs, rfl, dp_mono s3.in_ hve, hta3', hgm2.ht, hgm2.ok, hws.2.1, hws.2.2, ?_⟩
    refine ⟨g, ta', x, exV t' ex, B3, zs, t', S0, rfl, s3.in_, hg3, hta3, (by rw [hgm2.ht]; exact hws.1), (by rw [hgm2.hz]; exact hws.1), hz1.1, hgm2.n, hzl, fun a2 B5 H5 s5 ha2 => ?_⟩
    refine turn s5 ha2 (hvv3.mono s5.base) (dp_mono s5.base hbk3) (by rw [tPut_names]; exact hgm2.ht) (tPut_ok hgm2.ok ?_) ?_ hwS (by omega) (by omega) (by omega) (by omega) rfl
    · have := Nat.mod_lt (exV t' ex) (show 0 < LL.tGet zs x by omega)
      omega
    · have : (LL.tPut t' x (exV t' ex % LL.tGet zs x)).length = t'.length := by unfold LL.tPut; rw [List.length_map]
      rw [this]; exact hgm2.n
  | shw b ex =>
    obtain ⟨r, vs, rfl, h2, h3⟩ := dp_tupK (show Dp K B3 rv (.tuple [.str "show", .str (seatS b), exD ex]) from hrv3)
    obtain ⟨_, rfl, h4⟩ := dpa_s h3
    obtain ⟨_, rfl, h5⟩ := dpa_s h4
    obtain ⟨ve, _, rfl, hve, h6⟩ := dpa_c h5
    cases dpa_n h6
    have sx := ex_t s3.in_ h2
    rw [wfS] at hws
    have hpl : (if decide (V.str (seatS b) = V.str "comer") = true then (1 : Int) else 0) = (if b then 1 else 0) := by cases b <;> rfl
    refine ⟨_, rfl, r, _, _, _, rfl, rfl, sx, rfl, rfl, _, rfl, ifs (fun z => absurd (V.str.inj (of_decide_eq_true z)) (by decide)) fun _ => ?_⟩
    refine ⟨_, rfl, r, _, _, _, rfl, rfl, sx, rfl, rfl, _, rfl, ifs (fun z => absurd (V.str.inj (of_decide_eq_true z)) (by decide)) fun _ => ?_⟩
    refine ⟨_, rfl, r, _, _, _, rfl, rfl, sx, rfl, rfl, _, rfl, ifs (fun _ => ?_) fun z => absurd rfl (of_decide_eq_false z)⟩
    refine ⟨_, rfl, r, _, _, _, rfl, rfl, sx, rfl, rfl, .inr ⟨_, rfl, ?_⟩⟩
    rw [hpl]
    refine ⟨_, rfl, r, _, _, _, rfl, rfl, sx, rfl, _, rfl, ve, ta', ex, t', xs, rfl, dp_mono s3.in_ hve, hta3', hgm2.ht, hgm2.ok, hws.1, hws.2, (show 2 ≤ sizeLine by omega), fun q5 nq5 => ?_⟩
    have t4 := Stp.new (ms := []) (o := .tup [.str "shown", .int (exV t' ex : Nat)]) s3.in_ nq5
    have hva : (vAdd b ("shown", [exV t' ex]) vw').1.length + (vAdd b ("shown", [exV t' ex]) vw').2.length = _ := vw_add
    refine gs_vadd (K := K) (b := b) (vw := vw') (ed := ("shown", [exV t' ex])) rfl rfl (hvv3.mono t4.base) (fun B1 H1 e1 e2 Q q => ⟨_, rfl, q _ B1 H1 (Stp.refl e2) ⟨q5, rfl, ex_t e1 (st_of upd_same)⟩⟩) (by omega) _ _ (Ex.refl _) t4.in_ _ fun v B5 H5 s5 hv5 => ?_
    have s6 := t4.trans s5
    exact turn s6 (s6.base _ _ hta3) hv5 (dp_mono s6.base hbk3) hgm2.ht hgm2.ok hgm2.n hwS (by omega) (by omega) (by omega) (by omega) rfl
  | pay b ex =>
    obtain ⟨r, vs, rfl, h2, h3⟩ := dp_tupK (show Dp K B3 rv (.tuple [.str (if b then "take" else "pay"), exD ex]) from hrv3)
    obtain ⟨_, rfl, h4⟩ := dpa_s h3
    obtain ⟨ve, _, rfl, hve, h5⟩ := dpa_c h4
    cases dpa_n h5
    have sx := ex_t s3.in_ h2
    rw [wfS] at hws
    refine ⟨_, rfl, r, _, _, _, rfl, rfl, sx, rfl, rfl, _, rfl, ifs (fun z => absurd (V.str.inj (of_decide_eq_true z)) (by cases b <;> decide)) fun _ => ?_⟩
    refine ⟨_, rfl, r, _, _, _, rfl, rfl, sx, rfl, rfl, _, rfl, ifs (fun z => absurd (V.str.inj (of_decide_eq_true z)) (by cases b <;> decide)) fun _ => ?_⟩
    refine ⟨_, rfl, r, _, _, _, rfl, rfl, sx, rfl, rfl, _, rfl, ifs (fun z => absurd (V.str.inj (of_decide_eq_true z)) (by cases b <;> decide)) fun _ => ?_⟩
    cases b with
    | false =>
      refine ⟨_, rfl, r, _, _, _, rfl, rfl, sx, rfl, rfl, _, rfl, ifs (fun _ => ?_) fun z => absurd rfl (of_decide_eq_false z)⟩
      refine ⟨_, rfl, _, rfl, r, _, _, _, rfl, rfl, sx, rfl, _, rfl, ve, ta', ex, t', xs, rfl, dp_mono s3.in_ hve, hta3', hgm2.ht, hgm2.ok, hws.1, hws.2, _, _, rfl, rfl, ?_⟩
      exact turn (Stp.refl s3.in_) hta3 hvv3 hbk3 hgm2.ht hgm2.ok hgm2.n hwS (by omega) (by omega) (by omega) (by omega) rfl
    | true =>
      refine ⟨_, rfl, r, _, _, _, rfl, rfl, sx, rfl, rfl, _, rfl, ifs (fun z => absurd (V.str.inj (of_decide_eq_true z)) (by decide)) fun _ => ?_⟩
      refine ⟨_, rfl, r, _, _, _, rfl, rfl, sx, rfl, rfl, _, rfl, ifs (fun _ => ?_) fun z => absurd rfl (of_decide_eq_false z)⟩
      refine ⟨_, rfl, _, rfl, r, _, _, _, rfl, rfl, sx, rfl, _, rfl, ve, ta', ex, t', xs, rfl, dp_mono s3.in_ hve, hta3', hgm2.ht, hgm2.ok, hws.1, hws.2, _, _, rfl, rfl, ?_⟩
      exact turn (Stp.refl s3.in_) hta3 hvv3 hbk3 hgm2.ht hgm2.ok hgm2.n hwS (by omega) (by omega) (by omega) (by omega) rfl
  | draw x n =>
    obtain ⟨r, vs, rfl, h2, h3⟩ := dp_tupK (show Dp K B3 rv (.tuple [.str "draw", .str x, .int (n : Nat)]) from hrv3)
    obtain ⟨_, rfl, h4⟩ := dpa_s h3
    obtain ⟨_, rfl, h5⟩ := dpa_s h4
    obtain ⟨_, rfl, h6⟩ := dpa_i h5
    cases dpa_n h6
    have sx := ex_t s3.in_ h2
    rw [wfS] at hws
    rw [nbS] at hn2
    have hz1 := hgm2.z1 x hws.1
    have hn := hws.2
    cases d with
    | zero => omega
    | succ d =>
    refine ⟨_, rfl, r, _, _, _, rfl, rfl, sx, rfl, rfl, _, rfl, ifs (fun z => absurd (V.str.inj (of_decide_eq_true z)) (by decide)) fun _ => ?_⟩
    refine ⟨_, rfl, r, _, _, _, rfl, rfl, sx, rfl, rfl, _, rfl, ifs (fun z => absurd (V.str.inj (of_decide_eq_true z)) (by decide)) fun _ => ?_⟩
    refine ⟨_, rfl, r, _, _, _, rfl, rfl, sx, rfl, rfl, _, rfl, ifs (fun z => absurd (V.str.inj (of_decide_eq_true z)) (by decide)) fun _ => ?_⟩
    refine ⟨_, rfl, r, _, _, _, rfl, rfl, sx, rfl, rfl, _, rfl, ifs (fun z => absurd (V.str.inj (of_decide_eq_true z)) (by decide)) fun _ => ?_⟩
    refine ⟨_, rfl, r, _, _, _, rfl, rfl, sx, rfl, rfl, _, rfl, ifs (fun z => absurd (V.str.inj (of_decide_eq_true z)) (by decide)) fun _ => ?_⟩
    refine ⟨_, rfl, r, _, _, _, rfl, rfl, sx, rfl, rfl, .inr ⟨_, rfl, ?_⟩⟩
    refine ⟨_, rfl, ?_⟩
    refine ⟨_, rfl, r, _, _, _, rfl, rfl, sx, rfl, rfl, _, rfl, ifs (fun z => absurd z (by decide)) fun _ => ?_⟩
    refine ⟨(show 0 ≤ sizeLine by omega), fun L nL => ?_⟩
    have nLp : L ≠ cp := fun z => by subst z; rw [hcp3] at nL; cases nL
    have eL : Ex B3 (upd H3 L (.lst [])) := Ex.mut s3.in_ (ex_none s3.in_ nL)
    refine ⟨_, rfl, r, _, _, _, rfl, rfl, ex_t eL h2, rfl, n, rfl, by omega, by omega, for_range (lo := 0) (n := n) (fun j σ H' => ∃ (B' : Hp) (vs : List V) (u12 u13 : Option V), LPt K L cp (fun i c => nodeT zs m (LL.tPut t' x (i % LL.tGet zs x)) vw' pd' S' c) n (c + 1) j B3 H3 B' H' vs ∧
      σ = [some g, some (.ref ta'), some vv', some (.int pd'), some (.ref b2), some (.ref cp), some (.int ((0 : Int) + (i : Nat))), some (.ref r), some (.int 0), u9, some vv', some (.ref L), u12, u13]) ⟨B3, [], u12, u13, LPt.zero s3.in_ nL hcp3, rfl⟩ (fun j σ H' hj z => ?_) (fun σ H' z => ?_)⟩
    · obtain ⟨B', vs, u12, u13, h, rfl⟩ := z
      obtain ⟨ci, hci, hx⟩ := h.ex
      have e7 := h.st.base
      have e8 := h.st.in_
      have sx2 := ex_t e8 (ex_t e7 h2)
      have bp1 : B' cp = none := h.st.off bp3 (show upd H3 L (.lst []) cp = some _ by rw [upd_ne (Ne.symm nLp)]; exact hcp3)
      refine ⟨_, rfl, ?_⟩
      refine ⟨_, rfl, r, _, _, _, rfl, rfl, sx2, rfl, rfl, _, rfl, ifs (fun z => absurd z (by decide)) fun _ => ?_⟩
      refine ⟨_, rfl, .inl ⟨rfl, vs, sq_of h.hL⟩, _, rfl, _, rfl, _, rfl, _, rfl, r, _, _, _, rfl, rfl, sx2, rfl, _, rfl, ?_⟩
      refine ⟨g, ta', x, j, B', zs, t', S0, (by rw [Int.zero_add]), e8, hg3.mono e7, e7 _ _ hta3, (by rw [hgm2.ht]; exact hws.1), (by rw [hgm2.hz]; exact hws.1), hz1.1, hgm2.n, hzl, fun a2 B5 H5 s5 ha2 => ?_⟩
      have hcp5 := s5.fr cp _ (fun h => nomatch h) hci
      refine ⟨_, rfl, _, rfl, _, rfl, _, rfl, ?_⟩
      refine ⟨g, a2, cp, vv', .ref b2, B5, zs, _, vw', pd', S0, S', ci, m, xs, rfl, s5.in_, s5.off bp1 hci, hcp5, (hg3.mono e7).mono s5.base, ha2, (hvv3.mono e7).mono s5.base, dp_mono s5.base (dp_mono e7 hbk3), gm_part hgm2 hws.1 (by omega), hzl, by omega, by omega, by omega, ?_⟩
      exact h.next nLp hj hci hx (fun hc => if_pos (by omega)) s5.nil (fun v B2 H2 hL2 h2 => ⟨L, vs, v, rfl, rfl, hL2, by rw [h.len]; omega, B2, _, _, _, h2, rfl⟩)
    · obtain ⟨B', vs, u12, u13, h, rfl⟩ := z
      obtain ⟨s4, cn, hcn, hx⟩ := h.done s3.in_ nL
      have sx2 := ex_t s4.in_ (ex_t s4.base h2)
      refine ⟨_, rfl, r, _, _, _, rfl, rfl, sx2, rfl, rfl, _, rfl, ifs (fun _ => ?_) fun z => absurd rfl (of_decide_eq_false z)⟩
      refine ⟨_, rfl, (show 2 ≤ sizeLine by omega), fun q nq => ?_⟩
      have s5 := Stp.new (ms := []) (o := .tup [.str "lot", .ref L]) s4.in_ nq
      have s6 := s3.trans (s4.trans s5.nil)
      have hcn5 := s5.fr cp _ (fun h => nomatch h) hcn
      rcases hx with ⟨tr, h1, h3⟩ | ⟨h1, h3⟩
      · refine k.1 (.lot tr) cn _ _ _ ?_ s6 hcn5 (.lot (st_of upd_same) (s5.base _ _ upd_same) (h3.mono s5.base))
        rw [← hgo]
        show (partsF (fun i c => nodeT zs m (LL.tPut t' x (i % LL.tGet zs x)) vw' pd' S' c) n 0 (c + 1)).map _ = _
        rw [h1]
        rfl
      · refine k.2 ?_ _ _ _ cn h3 s6 hcn5
        rw [← hgo]
        show (partsF (fun i c => nodeT zs m (LL.tPut t' x (i % LL.tGet zs x)) vw' pd' S' c) n 0 (c + 1)).map _ = _
        rw [h1]
        rfl
  | move b x n kk =>
    obtain ⟨r, vs, rfl, h2, h3⟩ := dp_tupK (show Dp K B3 rv (.tuple [.str (if b then "come" else "choose"), .str x, .int (n : Nat), .int (kk : Nat)]) from hrv3)
    obtain ⟨_, rfl, h4⟩ := dpa_s h3
    obtain ⟨_, rfl, h5⟩ := dpa_s h4
    obtain ⟨_, rfl, h6⟩ := dpa_i h5
    obtain ⟨_, rfl, h7⟩ := dpa_i h6
    cases dpa_n h7
    have sx := ex_t s3.in_ h2
    rw [wfS] at hws
    rw [nbS] at hn2
    have hz1 := hgm2.z1 x hws.1
    have hn := hws.2
    have hs1 : szS (.move b x n kk) = 1 := rfl
    cases d with
    | zero => omega
    | succ d =>
    have hpl : (if decide (V.str (if b then "come" else "choose") = V.str "come") = true then (1 : Int) else 0) = (if b then 1 else 0) := by cases b <;> rfl
    have hnd : decide (V.str (if b then "come" else "choose") = V.str "draw") = false := by cases b <;> rfl
    refine ⟨_, rfl, r, _, _, _, rfl, rfl, sx, rfl, rfl, _, rfl, ifs (fun z => absurd (V.str.inj (of_decide_eq_true z)) (by cases b <;> decide)) fun _ => ?_⟩
    refine ⟨_, rfl, r, _, _, _, rfl, rfl, sx, rfl, rfl, _, rfl, ifs (fun z => absurd (V.str.inj (of_decide_eq_true z)) (by cases b <;> decide)) fun _ => ?_⟩
    refine ⟨_, rfl, r, _, _, _, rfl, rfl, sx, rfl, rfl, _, rfl, ifs (fun z => absurd (V.str.inj (of_decide_eq_true z)) (by cases b <;> decide)) fun _ => ?_⟩
    refine ⟨_, rfl, r, _, _, _, rfl, rfl, sx, rfl, rfl, _, rfl, ifs (fun z => absurd (V.str.inj (of_decide_eq_true z)) (by cases b <;> decide)) fun _ => ?_⟩
    refine ⟨_, rfl, r, _, _, _, rfl, rfl, sx, rfl, rfl, _, rfl, ifs (fun z => absurd (V.str.inj (of_decide_eq_true z)) (by cases b <;> decide)) fun _ => ?_⟩
    refine ⟨_, rfl, r, _, _, _, rfl, rfl, sx, rfl, rfl, .inr ⟨_, rfl, ?_⟩⟩
    rw [hpl]
    refine ⟨_, rfl, ?_⟩
    refine ⟨_, rfl, r, _, _, _, rfl, rfl, sx, rfl, rfl, _, rfl, ?_⟩
    rw [hnd]
    refine iteT ?_
    have hvw2 : (vAdd b ("asked", [kk, n]) vw').1.length + (vAdd b ("asked", [kk, n]) vw').2.length = _ := vw_add
    refine gs_vadd (K := K) (b := b) (vw := vw') (ed := ("asked", [kk, n])) rfl rfl hvv3 (fun B1 H1 e1 e2 Q q => ?_) (by omega) _ _ (Ex.refl _) s3.in_ _ fun v10 B4 H4 s4 hv10 => ?_
    · refine ⟨_, rfl, r, _, _, _, rfl, rfl, ex_t e2 (ex_t e1 h2), rfl, _, rfl, r, _, _, _, rfl, rfl, ex_t e2 (ex_t e1 h2), rfl, (show 3 ≤ sizeLine by omega), fun q5 nq5 => ?_⟩
      have t4 := Stp.new (ms := []) (o := .tup [.str "asked", .int (kk : Nat), .int (n : Nat)]) e2 nq5
      exact q _ _ _ t4 ⟨q5, rfl, st_of upd_same⟩
    refine ⟨(show 0 ≤ sizeLine by omega), fun L nL => ?_⟩
    have hcp4 := s4.fr cp _ (fun h => nomatch h) hcp3
    have bp4 := s4.off bp3 hcp3
    have nLp : L ≠ cp := fun z => by subst z; rw [hcp4] at nL; cases nL
    have eL : Ex B4 (upd H4 L (.lst [])) := Ex.mut s4.in_ (ex_none s4.in_ nL)
    have h24 := ex_t s4.base h2
    refine ⟨_, rfl, r, _, _, _, rfl, rfl, ex_t eL h24, rfl, n, rfl, by omega, by omega, for_range (lo := 0) (n := n) (fun j σ H' => ∃ (B' : Hp) (vs : List V) (u12 u13 : Option V), LPt K L cp (fun i c => nodeT zs m (LL.tPut t' x (i % LL.tGet zs x)) (vAdd b ("did", [i]) (vAdd b ("asked", [kk, n]) vw')) pd' S' c) n (c + 1) j B4 H4 B' H' vs ∧
      σ = [some g, some (.ref ta'), some vv', some (.int pd'), some (.ref b2), some (.ref cp), some (.int ((0 : Int) + (i : Nat))), some (.ref r), some (.int (if b then 1 else 0)), u9, some v10, some (.ref L), u12, u13]) ⟨B4, [], u12, u13, LPt.zero s4.in_ nL hcp4, rfl⟩ (fun j σ H' hj z => ?_) (fun σ H' z => ?_)⟩
    · obtain ⟨B', vs, u12, u13, h, rfl⟩ := z
      obtain ⟨ci, hci, hx⟩ := h.ex
      have e7 := h.st.base
      have e8 := h.st.in_
      have e47 := s4.base.trans e7
      have sx2 := ex_t e8 (ex_t e7 h24)
      have bp1 : B' cp = none := h.st.off bp4 (show upd H4 L (.lst []) cp = some _ by rw [upd_ne (Ne.symm nLp)]; exact hcp4)
      have hvw3 : (vAdd b ("did", [j]) (vAdd b ("asked", [kk, n]) vw')).1.length + (vAdd b ("did", [j]) (vAdd b ("asked", [kk, n]) vw')).2.length = _ := vw_add
      refine ⟨_, rfl, ?_⟩
      refine ⟨_, rfl, r, _, _, _, rfl, rfl, sx2, rfl, rfl, _, rfl, ?_⟩
      rw [hnd]
      refine iteT ?_
      refine gs_vadd (K := K) (b := b) (vw := vAdd b ("asked", [kk, n]) vw') (ed := ("did", [j])) rfl rfl (hv10.mono e7) (fun B1 H1 e1 e2 Q q => ?_) (by omega) _ _ (Ex.refl _) e8 _ fun v13 B5 H5 s5 hv13 => ?_
      · refine ⟨_, rfl, (show 2 ≤ sizeLine by omega), fun q5 nq5 => ?_⟩
        have t4 := Stp.new (ms := []) (o := .tup [.str "did", .int ((0 : Int) + (j : Nat))]) e2 nq5
        exact q _ _ _ t4 ⟨q5, rfl, st_of (by rw [upd_same, Int.zero_add]; rfl)⟩
      have hL5 := s5.fr L _ (fun h => nomatch h) h.hL
      have hci5 := s5.fr cp _ (fun h => nomatch h) hci
      have bp5 := s5.off bp1 hci
      have e57 := e47.trans s5.base
      refine ⟨_, rfl, .inl ⟨rfl, vs, sq_of hL5⟩, _, rfl, _, rfl, _, rfl, _, rfl, r, _, _, _, rfl, rfl, ex_t s5.in_ (ex_t e57 h2), rfl, _, rfl, ?_⟩
      refine ⟨g, ta', x, j, B5, zs, t', S0, (by rw [Int.zero_add]), s5.in_, hg3.mono e57, e57 _ _ hta3, (by rw [hgm2.ht]; exact hws.1), (by rw [hgm2.hz]; exact hws.1), hz1.1, hgm2.n, hzl, fun a2 B6 H6 s6 ha2 => ?_⟩
      have hcp6 := s6.fr cp _ (fun h => nomatch h) hci5
      have s56 := s5.trans s6
      refine ⟨_, rfl, _, rfl, _, rfl, _, rfl, ?_⟩
      refine ⟨g, a2, cp, v13, .ref b2, B6, zs, _, _, pd', S0, S', ci, m, xs, rfl, s6.in_, s6.off bp5 hci5, hcp6, (hg3.mono e57).mono s6.base, ha2, hv13.mono s6.base, dp_mono s6.base (dp_mono e57 hbk3), gm_part hgm2 hws.1 (by omega), hzl, by omega, by omega, by omega, ?_⟩
      exact h.next nLp hj hci hx (fun hc => if_pos (by omega)) s56.nil (fun v B2 H2 hL2 h2 => ⟨L, vs, v, rfl, rfl, hL2, by rw [h.len]; omega, B2, _, _, _, h2, rfl⟩)
    · obtain ⟨B', vs, u12, u13, h, rfl⟩ := z
      obtain ⟨s5, cn, hcn, hx⟩ := h.done s4.in_ nL
      have e5 := s5.base
      have sx2 := ex_t s5.in_ (ex_t e5 h24)
      refine ⟨_, rfl, r, _, _, _, rfl, rfl, sx2, rfl, rfl, _, rfl, ?_⟩
      rw [hnd]
      refine iteF ?_
      obtain ⟨av, bv1, bv2, rfl, hav, hbv1, hbv2⟩ := hv10
      refine ⟨(show 2 ≤ sizeLine by omega), fun q6 nq6 => ?_⟩
      have t6 := Stp.new (ms := []) (o := .tup [.str "chooser", .str "comer"]) s5.in_ nq6
      refine ⟨_, rfl, q6, _, _, _, rfl, rfl, st_of upd_same, (show atI [V.str "chooser", V.str "comer"] (if b then 1 else 0) = some (.str (seatS b)) by cases b <;> rfl), ?_⟩
      refine ⟨_, rfl, _, rfl, av, _, _, _, rfl, rfl, ex_t t6.in_ (ex_t t6.base (ex_t e5 hav)), (show atI [V.ref bv1, V.ref bv2] (if b then 1 else 0) = some (.ref (if b then bv2 else bv1)) by cases b <;> rfl), _, rfl, (show 4 ≤ sizeLine by omega), fun q7 nq7 => ?_⟩
      have t7 := t6.trans (Stp.new (ms := []) (o := .tup [.str "move", .str (seatS b), .ref (if b then bv2 else bv1), .ref L]) t6.in_ nq7)
      have s8 := s3.trans ((s4.nil.trans s5).trans t7.nil)
      have hcn7 := t7.fr cp _ (fun h => nomatch h) hcn
      rcases hx with ⟨tr, h1, h3⟩ | ⟨h1, h3⟩
      · refine k.1 (.mov b (vGet b (vAdd b ("asked", [kk, n]) vw')) tr) cn _ _ _ ?_ s8 hcn7 (.mov (st_of upd_same) ?_ (t7.base _ _ upd_same) (h3.mono t7.base))
        · rw [← hgo]
          show (partsF (fun i c => nodeT zs m (LL.tPut t' x (i % LL.tGet zs x)) (vAdd b ("did", [i]) (vAdd b ("asked", [kk, n]) vw')) pd' S' c) n 0 (c + 1)).map _ = _
          rw [h1]
          rfl
        · cases b with
          | false => exact hbv1.mono (e5.trans t7.base)
          | true => exact hbv2.mono (e5.trans t7.base)
      · refine k.2 ?_ _ _ _ cn h3 s8 hcn7
        rw [← hgo]
        show (partsF (fun i c => nodeT zs m (LL.tPut t' x (i % LL.tGet zs x)) (vAdd b ("did", [i]) (vAdd b ("asked", [kk, n]) vw')) pd' S' c) n 0 (c + 1)).map _ = _
        rw [h1]
        rfl
theorem fn_lnP (T : Txt K mg) : ∀ d, Fn P w K mg base (12 + d) (ga K "_law_node") (spLNodeP K d)
  | 0 => fun _ _ _ _ _ _ _ _ _ _ _ h => h.elim
  | d + 1 => fn_ln1 T d (fn_lnP T d)
theorem fn_l_node (T : Txt K mg) : Fn P w K mg base 30 (ga K "_law_node") (spLNode K 14) := (fn_lnP T 15).mono (by decide)
end
end LL
/-! t[::-1], t a tuple -/
namespace RvT
open PySem PySem.Spec PyProof.Rows L2 HT
section
variable {prog : Program} {w : World} {A : Around} {E : Value → Shared → Prop} {s : Shared}
theorem sliceApplied_rev {sl : Addr} {vl vu vs : Value} {n : Nat} {Q : Int × Int × Nat → Shared → Prop} (hs : s.heap.IsSliceOf sl vl vu vs) (pl : IsPart vl none) (pu : IsPart vu none) (ps : IsPart vs (some (-1)))
    (h : Q ((n : Int) - 1, -1, n) s) : wpAny (model prog w) A (Builtin.Slice.sliceApplied (.ref sl) (pure (n : Int))) Q E s := by
  obtain ⟨os, hos, hcs, hds⟩ := id hs
  unfold Builtin.Slice.sliceApplied Builtin.Slice.sliceFields
  refine wpAny_bind (wpAny_bind (wpAny_field hos hds (x := vl) rfl (wpAny_bind (wpAny_field hos hds (x := vu) rfl (wpAny_bind (wpAny_field hos hds (x := vs) rfl (wpAny_pure ?_)))))))
  refine wpAny_bind (slicePart_ ps ?_)
  show wpAny _ _ (if ((-1 : Int) == 0) = true then _ else _) _ _ s
  rw [if_neg (by decide)]
  refine wpAny_bind (slicePart_ pl (wpAny_bind (slicePart_ pu (wpAny_bind (wpAny_pure ?_)))))
  show wpAny _ _ (match Builtin.Slice.sliceAdjust none none (-1) (n : Int) with | (lo, hi) => pure (lo, (-1 : Int), Builtin.Slice.slicePlaces lo hi (-1))) _ _ s
  have e1 : Builtin.Slice.sliceAdjust none none (-1) (n : Int) = ((n : Int) - 1, -1) := rfl
  have e2 : Builtin.Slice.slicePlaces ((n : Int) - 1) (-1) (-1) = n := by
    unfold Builtin.Slice.slicePlaces
    have h1 : ¬ ((-1 : Int) > 0) := by decide
    rw [if_neg h1, show (- -1 : Int) = 1 from rfl, Int.ediv_one]
    split <;> omega
  rw [e1]
  show wpAny _ _ (pure ((n : Int) - 1, (-1 : Int), Builtin.Slice.slicePlaces ((n : Int) - 1) (-1) (-1))) _ _ s
  rw [e2]
  exact wpAny_pure h
theorem pick_rev (xs : Array Value) : ((List.range xs.size).filterMap fun (k : Nat) => xs[(((xs.size : Nat) : Int) - 1 + (k : Int) * -1).toNat]?).toArray = xs.toList.reverse.toArray := by
  congr 1
  have h := PySem.W.krv_all xs
  rw [← h, ← List.filterMap_reverse, ← PySem.W.krv_range, List.filterMap_map]
  have fc : ∀ (l : List Nat) (f g : Nat → Option Value), (∀ k ∈ l, f k = g k) → l.filterMap f = l.filterMap g := fun l f g h => by
    induction l with
    | nil => rfl
    | cons a l ih => rw [List.filterMap_cons, List.filterMap_cons, h a (.head _), ih fun k hk => h k (.tail _ hk)]
  refine fc _ _ _ fun k hk => ?_
  have := List.mem_range.mp hk
  show xs[_]? = xs[xs.size - 1 - k]?
  congr 1
  omega
theorem getItem_tuple_rev {t sl : Addr} {items : Array Value} {vl vu vs : Value} {Q : Value → Shared → Prop} (ht : IsTup s.heap t items) (hs : s.heap.IsSliceOf sl vl vu vs) (pl : IsPart vl none) (pu : IsPart vu none) (ps : IsPart vs (some (-1)))
    (h : Q (.ref s.heap.objs.size) { s with heap := s.heap.push { cls := .type "tuple", data := .seq items.toList.reverse.toArray } })
    (hsz : items.size ≤ sizeLine) : wpAny (model prog w) A (getItem (.ref t) (.ref sl)) Q E s := by
  have htake : sizeOk (.seq items.toList.reverse.toArray) := by
    show items.toList.reverse.toArray.size ≤ sizeLine
    rw [List.size_toArray, List.length_reverse, Array.length_toList]
    exact hsz
  obtain ⟨os, hos, hcs, hds⟩ := id hs
  have hTs : s.TypeIs (.ref sl) "slice" := ⟨os, hos, hcs⟩
  unfold getItem
  try with_reducible refine wpAny_holding ?_
  first | refine wpAny_bind (wpAny_pure ?_) | skip
  refine wpAny_bind (wpAny_sequenceKey ht.typeIs (by decide) ?_)
  refine wpAny_bind (wpAny_callSpecial?_slot (name := Str.ofString "__getitem__") ht.typeIs PyProof.Rows.slot_tuple_getitem
    (wpAny_call_entry PyProof.Rows.slot_tuple_getitem ht.typeIs entry_tuple_getitem ?_ (args_tuple_getitem _ _)))
  show wpAny _ _ (Builtin.Tuple.tupleItemsOf (.ref t) >>= _) _ _ s
  refine wpAny_bind (tupleItemsOf_ ht ?_)
  refine wpAny_bind (wpAny_typeOf hTs ?_)
  rw [if_pos (by decide)]
  refine wpAny_bind (sliceApplied_rev hs pl pu ps ?_)
  have hno : ¬ ((((items.size : Nat) : Int) - 1 == 0 && (-1 : Int) == 1 && items.size == items.size) = true) := by
    rw [show ((-1 : Int) == 1) = false from rfl, Bool.and_false, Bool.false_and]
    exact Bool.false_ne_true
  show wpAny _ _ (if (((items.size : Nat) : Int) - 1 == 0 && (-1 : Int) == 1 && items.size == items.size) = true then _ else _) _ _ s
  rw [if_neg hno, pick_rev]
  first
    | exact wpAny_bind (m := Builtin.Tuple.tupleExact _) (wpAny_newObj_type (wpAny_pure ⟨_, rfl, wpAny_pure h⟩) htake)
    | exact wpAny_bind (m := Builtin.Tuple.tupleExact _) (wpAny_newObj_type (wpAny_bind (wpAny_pure (wpAny_pure ⟨_, rfl, wpAny_pure h⟩))) htake)
    | exact wpAny_bind (wpAny_bind (m := Builtin.Tuple.tupleExact _) (wpAny_newObj_type (wpAny_pure (wpAny_pure ⟨_, rfl, wpAny_pure h⟩)) htake))
    | exact wpAny_bind (wpAny_bind (m := Builtin.Tuple.tupleExact _) (wpAny_newObj_type (wpAny_pure ⟨_, rfl, wpAny_pure h⟩) htake))
end
section
variable {X : Cx}
def tRevT (K : PySem.W.Frag) (te : TE) : TE := fun σ H Q => te σ H fun x H1 => ∃ a xs, x = .ref a ∧ SqT K H1 a xs ∧ ∀ p, H1 p = none → Q (.ref p) (upd H1 p (.tup xs.reverse))
theorem pe_revT {e : Expr} {te : TE} {k : Nat} {p1 p2 p3 pos : Pos} (he : L2.PE X e te) : L2.PE X (.Subscript e (.Slice none none (some (.UnaryOp .USub (.Constant (.int 1) k p1) p2)) p3) pos) (tRevT X.K te) := by
  refine ⟨fun pins s σ H Q I h => ?_⟩
  refine Subscript_ (thn (he.run pins s σ H _ I h) fun v s1 ⟨x, H1, I1, r1, q1⟩ => ?_)
  obtain ⟨a, xs, ex, hx, q⟩ := q1
  subst ex
  cases r1
  have hst : PO X (some (.UnaryOp .USub (.Constant (.int 1) k p1) p2)) (tPart (tUn (rU fun i => .int (-i)) (tC (.int 1)))) := po_some (pe_un un_neg pe_int)
  refine wpAny_Slice (thn (po_none.run pins s1 σ H1 (fun o H2 => o = none ∧ H2 = H1) I1 ⟨rfl, rfl⟩) fun vl s2 ⟨l, H2, I2, pl, el, e2⟩ => ?_)
  subst el e2
  refine thn (po_none.run pins s2 σ H2 (fun o H3 => o = none ∧ H3 = H2) I2 ⟨rfl, rfl⟩) fun vu s3 ⟨u, H3, I3, pu, eu, e3⟩ => ?_
  subst eu e3
  refine thn (hst.run pins s3 σ H3 (fun o H4 => o = some (-1) ∧ H4 = H3) I3 ⟨1, rfl, -1, rfl, rfl, rfl⟩) fun vs s4 ⟨o, H4, I4, ps, eo, e4⟩ => ?_
  subst eo e4
  have I5 : Inv X pins σ H4 { s4 with heap := s4.heap.push { cls := .type "slice", data := .fields #[vl, vu, vs] } } := I4.kept (t' := s4.toks) fun b ob q => Heap.get?_push_of_some _ q
  obtain ⟨its, r, ht, hz⟩ := I5.tuple hx
  have hlen := r.length
  show wpAny (model X.prog X.w) X.A (subscriptTail e (.Slice none none (some (.UnaryOp .USub (.Constant (.int 1) k p1) p2)) p3) (.ref a) (.ref s4.heap.objs.size)) (EP X pins σ Q) X.xe { s4 with heap := s4.heap.push { cls := .type "slice", data := .fields #[vl, vu, vs] } }
  refine tail_any (ops := [.ref a, .ref s4.heap.objs.size]) ht.typeIs (PyProof.Rows.slot_tuple_getitem.lookup) ?_ (by with_unfolding_all rfl)
  refine getItem_tuple_rev ht (Heap.IsSliceOf.new _ vl vu vs) pl pu ps ?_ (by rw [List.size_toArray]; omega)
  refine ⟨.ref _, _, I5.laid (t' := s4.toks) (o := .tup xs.reverse) (fun b ob q => Heap.get?_push_of_some _ q) (Nat.le_refl _) ?_, rfl, q _ (I5.hok.fresh (Nat.le_refl _))⟩
  exact ⟨by rw [List.length_reverse]; exact hz, _, r.reverse, IsTup.new _ _⟩
end
end RvT
/-! t[::-1] of a tuple, its object known; l.extend(t) of a tuple whose object is known -/
namespace RvT
open PySem PySem.Spec PyProof.Rows L2 HT
def PlS (o : Obj) : Prop := ∃ its n, o = { cls := .type "tuple", dict := none, data := .seq its n, slots := #[] }
section
variable {X : Cx}
def tRevF (K : PySem.W.Frag) (te : TE) : TE := fun σ H Q => te σ H fun x H1 => ∃ a xs, x = .ref a ∧ SqT K H1 a xs ∧ ∀ p o, H1 p = none → PlS o → Q (.ref p) (upd H1 p (.frz o (.tup xs.reverse)))
theorem pe_revF {e : Expr} {te : TE} {k : Nat} {p1 p2 p3 pos : Pos} (he : L2.PE X e te) : L2.PE X (.Subscript e (.Slice none none (some (.UnaryOp .USub (.Constant (.int 1) k p1) p2)) p3) pos) (tRevF X.K te) := by
  refine ⟨fun pins s σ H Q I h => ?_⟩
  refine Subscript_ (thn (he.run pins s σ H _ I h) fun v s1 ⟨x, H1, I1, r1, q1⟩ => ?_)
  obtain ⟨a, xs, ex, hx, q⟩ := q1
  subst ex
  cases r1
  have hst : PO X (some (.UnaryOp .USub (.Constant (.int 1) k p1) p2)) (tPart (tUn (rU fun i => .int (-i)) (tC (.int 1)))) := po_some (pe_un un_neg pe_int)
  refine wpAny_Slice (thn (po_none.run pins s1 σ H1 (fun o H2 => o = none ∧ H2 = H1) I1 ⟨rfl, rfl⟩) fun vl s2 ⟨l, H2, I2, pl, el, e2⟩ => ?_)
  subst el e2
  refine thn (po_none.run pins s2 σ H2 (fun o H3 => o = none ∧ H3 = H2) I2 ⟨rfl, rfl⟩) fun vu s3 ⟨u, H3, I3, pu, eu, e3⟩ => ?_
  subst eu e3
  refine thn (hst.run pins s3 σ H3 (fun o H4 => o = some (-1) ∧ H4 = H3) I3 ⟨1, rfl, -1, rfl, rfl, rfl⟩) fun vs s4 ⟨o, H4, I4, ps, eo, e4⟩ => ?_
  subst eo e4
  have I5 : Inv X pins σ H4 { s4 with heap := s4.heap.push { cls := .type "slice", data := .fields #[vl, vu, vs] } } := I4.kept (t' := s4.toks) fun b ob q => Heap.get?_push_of_some _ q
  obtain ⟨its, r, ht, hz⟩ := I5.tuple hx
  have hlen := r.length
  show wpAny (model X.prog X.w) X.A (subscriptTail e (.Slice none none (some (.UnaryOp .USub (.Constant (.int 1) k p1) p2)) p3) (.ref a) (.ref s4.heap.objs.size)) (EP X pins σ Q) X.xe { s4 with heap := s4.heap.push { cls := .type "slice", data := .fields #[vl, vu, vs] } }
  refine tail_any (ops := [.ref a, .ref s4.heap.objs.size]) ht.typeIs (PyProof.Rows.slot_tuple_getitem.lookup) ?_ (by with_unfolding_all rfl)
  refine getItem_tuple_rev ht (Heap.IsSliceOf.new _ vl vu vs) pl pu ps ?_ (by rw [List.size_toArray]; omega)
  refine ⟨.ref _, _, I5.laid (t' := s4.toks) (o := .frz { cls := .type "tuple", data := .seq its.toArray.toList.reverse.toArray } (.tup xs.reverse)) (fun b ob q => Heap.get?_push_of_some _ q) (Nat.le_refl _) ?_, rfl, q _ _ (I5.hok.fresh (Nat.le_refl _)) ⟨_, _, rfl⟩⟩
  exact ⟨Heap.get?_push_size _ rfl, by rw [List.length_reverse]; exact hz, _, r.reverse, IsTup.new _ _⟩
def rExtendF : V → List V → Hp → VK → Prop := fun x vs H Q => ∃ l b o xs zs, x = .ref l ∧ vs = [.ref b] ∧ H l = some (.lst xs) ∧ H b = some (.frz o (.tup zs)) ∧ PlS o ∧ xs.length + zs.length ≤ sizeLine ∧ Q .non (upd H l (.lst (xs ++ zs)))
theorem mt_extendF : MtM X "list.extend" rExtendF := by
  intro pins s σ H x vs v us Q I rx rv h
  obtain ⟨l, b, o, xs, zs, rfl, rfl, hH, hB, ⟨its2, n2, ho⟩, hz, q⟩ := h
  cases rx
  obtain ⟨u, rfl, ru⟩ := rv.one
  cases ru
  obtain ⟨z, its, n, r, hl, e⟩ := I.lstM hH
  obtain ⟨e2, hz0, itsT, rT, ⟨oT, hoT, hcT, nT, hdT⟩⟩ := (show ObjOk X.prog X.w H s.heap b (.frz o (.tup zs)) from I.hok b _ hB)
  rw [e2] at hoT
  cases hoT
  subst ho
  have hd2 : its2 = itsT.toArray := by
    injection hdT with d1 _
  have hlT := rT.length
  have hsz : its.toArray.size + its2.size ≤ sizeLine := by rw [hd2, List.size_toArray, List.size_toArray]; omega
  have hlong : ¬ (!its.toArray.isEmpty && Builtin.List.listTooLong (its.toArray.size + its2.size)) = true := by
    rw [notLongL hsz, Bool.and_false]
    exact Bool.false_ne_true
  refine call_meets F.slot_list_extend ⟨_, e, rfl⟩ F.entry_list_extend (F.args_list_extend_2 _ _)
    (AutoSeq1.list_extend_list_tuple_0 l its.toArray n b its2 n2 hlong (by rw [List.size_toArray]; omega) (by omega)) ⟨e, e2, ?_⟩
  refine ⟨.non, _, I.lset (its' := its ++ itsT) hH e (by rw [hd2]; simp) (r.append rT) ?_, rfl, q⟩
  rw [List.length_append]
  omega
end
end RvT
namespace LL
open PySem PySem.Spec PyProof.Rows L2 He Evl ND
/-! ### Game, ends_of -/
mutual
def endsT : Tr → List Int
  | .fin pd => [pd]
  | .lot ps => endsTs ps
  | .mov _ _ ps => endsTs ps
def endsTs : List Tr → List Int
  | [] => []
  | t :: r => endsT t ++ endsTs r
end
mutual
def dpT : Tr → Nat
  | .fin _ => 0
  | .lot ps => 1 + dpTs ps
  | .mov _ _ ps => 1 + dpTs ps
def dpTs : List Tr → Nat
  | [] => 0
  | t :: r => max (dpT t) (dpTs r)
end
theorem endsTs_app : ∀ a b : List Tr, endsTs (a ++ b) = endsTs a ++ endsTs b
  | [], b => by rw [List.nil_append, endsTs, List.nil_append]
  | t :: a, b => by rw [List.cons_append, endsTs, endsTs, endsTs_app a b, List.append_assoc]
theorem dpTs_mem : ∀ {ts : List Tr} {t : Tr}, t ∈ ts → dpT t ≤ dpTs ts
  | s :: ts, t, h => by
    rw [dpTs]
    rcases List.mem_cons.mp h with rfl | h
    · omega
    · have := dpTs_mem h
      omega
section
variable {w : World} {K : PySem.W.Frag} {mg : Str → Option Value} {base : Heap}
def spGmI (K : PySem.W.Frag) : Sp := fun us H Q _ => ∃ (x dx va ba : Addr) (xs ys : List V), us = [.ref x, .ref va, .ref ba] ∧ H x = some (.ins (ga K "Game") dx []) ∧ SqT K H va xs ∧ SqT K H ba ys ∧ Q .non (upd H x (.ins (ga K "Game") dx (gmFs va ba)))
theorem fn_Game_init (T : Txt K mg) : Fn P w K mg base 1 (ma K (ga K "Game") "__init__") (spGmI K) := by
  refine fn_def T.d_Game_init sc_Game_init (fun _ _ _ _ _ _ us hl => match us, hl with | [_, _, _], _ => rfl) (fun vs H Q E h => ?_) (fun cdv A outer s H vs Q E hr h => ?_)
  · obtain ⟨_, _, _, _, _, _, rfl, _⟩ := h
    rfl
  obtain ⟨x, dx, va, ba, xs, ys, rfl, hx, hva, hba, k⟩ := h
  have nd := sc_Game_init.nd
  refine ⟨_, pss_cons (ps_fld (pv 0) (pe_callTy call_tuple_of (by rfl) T.f_tuple (by decide +kernel) (pa_cons (pv 1) pa_nil)) rfl)
      (pss_one (ps_fld (pv 0) (pe_callTy call_tuple_of (by rfl) T.f_tuple (by decide +kernel) (pa_cons (pv 2) pa_nil)) rfl)), ?_⟩
  have hba2 : SqT K (upd H x (.ins (ga K "Game") dx [("variables", .ref va)])) ba ys := by
    rcases hba with (h | ⟨o, h⟩) | h
    · exact .inl (.inl ((upd_ne (fun z => by subst z; rw [hx] at h; cases h)).trans h))
    · exact .inl (.inr ⟨o, (upd_ne (fun z => by subst z; rw [hx] at h; cases h)).trans h⟩)
    · exact .inr h
  refine ⟨_, rfl, va, xs, rfl, .inr ⟨hva, _, rfl, x, _, dx, _, rfl, hx, T.c_Game, T.a_Game_variables, (show 0 < 1000 by decide), ?_⟩⟩
  refine ⟨_, rfl, ba, ys, rfl, .inr ⟨hba2, _, rfl, x, _, dx, _, rfl, upd_same, T.c_Game, T.a_Game_block, (show 1 < 1000 by decide), ?_⟩⟩
  rw [upd_twice]
  exact k
theorem TrsAt.get {B : Hp} : ∀ {vs : List V} {ts : List Tr} {i : Nat} {v : V}, TrsAt K B vs ts → vs[i]? = some v → ∃ t, ts[i]? = some t ∧ TrAt K B v t
  | u :: vs, ts, i, v, h, e => by
    cases h with
    | cons h1 h2 =>
      cases i with
      | zero => cases e; exact ⟨_, rfl, h1⟩
      | succ i => exact TrsAt.get (vs := vs) (i := i) h2 (by simpa using e)
def isFin : Tr → Prop
  | .fin _ => True
  | _ => False
def partsT : Tr → List Tr
  | .fin _ => []
  | .lot ps => ps
  | .mov _ _ ps => ps
/-- a node that is no end -/
theorem node_of (T : Txt K mg) {H : Hp} {v : V} {t : Tr} (h : TrAt K H v t) (hn : ¬ isFin t) : ∃ (x dx C a : Addr) (fs : List (Str × V)) (vs : List V), v = .ref x ∧ H x = some (.ins C dx fs) ∧ Cls K C ∧ NoAttr K C "parts" ∧ List.lookup ("parts" : Str) fs = some (.ref a) ∧ SqT K H a vs ∧ TrsAt K H vs (partsT t) ∧
    TyX K H (.ref x) (.ref C) ∧ PySem.W.kitOne K (.ref C) (.ref (ga K "End")) = some false := by
  cases h with
  | fin _ => exact absurd trivial hn
  | lot h ha hp => exact ⟨_, _, _, _, _, _, rfl, h, T.c_Lot, T.a_Lot_parts, rfl, ha, hp, TyX.base (TyOf.ins h T.c_Lot T.oc_Lot T.og T.ot T.om_Lot), T.ki_Lot_End⟩
  | mov h hb ha hp => exact ⟨_, _, _, _, _, _, rfl, h, T.c_Move, T.a_Move_parts, rfl, ha, hp, TyX.base (TyOf.ins h T.c_Move T.oc_Move T.og T.ot T.om_Move), T.ki_Move_End⟩
theorem ends_parts {t : Tr} (hn : ¬ isFin t) : endsT t = endsTs (partsT t) := by
  cases t with
  | fin _ => exact absurd trivial hn
  | lot _ => rw [endsT]; rfl
  | mov _ _ _ => rw [endsT]; rfl
theorem dp_parts {t : Tr} (hn : ¬ isFin t) : dpT t = 1 + dpTs (partsT t) := by
  cases t with
  | fin _ => exact absurd trivial hn
  | lot _ => rw [dpT]; rfl
  | mov _ _ _ => rw [dpT]; rfl
def spEnds (K : PySem.W.Frag) (d : Nat) : Sp := fun us H Q _ => ∃ (v : V) (t : Tr), us = [v] ∧ TrAt K H v t ∧ dpT t ≤ d ∧ (endsT t).length ≤ 1000 ∧ ∀ l H2, H l = none → Ex H H2 → H2 l = some (.lst ((endsT t).map V.int)) → Q (.ref l) H2
def spEndsP (K : PySem.W.Frag) : Nat → Sp
  | 0 => fun _ _ _ _ => False
  | n + 1 => spEnds K n
theorem fn_ends1 (T : Txt K mg) (d : Nat) (IH : Fn P w K mg base d (ga K "ends_of") (spEndsP K d)) : Fn P w K mg base (d + 1) (ga K "ends_of") (spEnds K d) := by
  refine fn_def T.d_ends_of sc_ends_of (fun _ _ _ _ _ _ us hl => match us, hl with | [_], _ => rfl) (fun vs H Q E h => ?_) (fun cdv A outer s H vs Q E hr h => ?_)
  · obtain ⟨_, _, rfl, _⟩ := h
    rfl
  obtain ⟨v, t, rfl, ht, hd, hl, k⟩ := h
  have nd := sc_ends_of.nd
  refine ⟨_, pss_cons (ps_if (pt_val (pe_callB call_isi (by rfl) T.f_isinstance (by decide +kernel) (pa_cons (pv 0) (pa_cons (pe_gr T.g_End) pa_nil)))) (pss_one (ps_ret (pe_lst (pa_cons (pe_fld (pv 0) rfl) pa_nil)))) (pss_nil))
      (pss_cons (ps_set (i := 1) nd rfl (by first | exact Or.inl rfl | exact Or.inr rfl) (pe_lst pa_nil))
      (pss_cons (ps_for (passes_of rfl) rfl (pi_tup (pe_fld (pv 0) rfl)) (pg_name (i := 2) nd rfl (by first | exact Or.inl rfl | exact Or.inr rfl)) (pss_one (ps_expr (pe_bm PySem.F.plainAttrs_list PySem.F.slot_list_extend PySem.F.type_list_extend mt_extend (pv 1) (pa_cons (pe_fn T.d_ends_of IH hr T.g_ends_of pc (pa_cons (pv 2) pa_nil)) pa_nil)))))
      (pss_one (ps_ret (pv 1))))), ?_⟩
  have hbig : (100000 : Nat) ≤ sizeLine := by decide
  by_cases hf : isFin t
  · cases ht with
    | lot _ _ _ => exact hf.elim
    | mov _ _ _ _ => exact hf.elim
    | @fin x dx pd hx =>
      refine ⟨_, rfl, _, _, _, _, _, rfl, ClsV.own _, TyX.base (TyOf.ins hx T.c_End T.oc_End T.og T.ot T.om_End), T.ki_End_End, true, rfl, iteT ?_⟩
      refine ⟨_, rfl, x, _, _, _, _, rfl, hx, T.c_End, T.a_End_paid, rfl, (show 1 ≤ sizeLine by omega), fun l nl => k l _ nl (Ex.new nl) ?_⟩
      rw [upd_same, endsT]
      rfl
  · rw [ends_parts hf] at k hl
    rw [dp_parts hf] at hd
    obtain ⟨x, dx, C, a, fs, vs, rfl, hx, hC, hA, hlk, ha, hp, hty, hki⟩ := node_of T ht hf
    refine ⟨_, rfl, _, _, _, _, _, rfl, ClsV.own _, hty, hki, false, rfl, iteF ?_⟩
    refine ⟨(show 0 ≤ sizeLine by omega), fun L nL => ?_⟩
    have e1 : Ex H (upd H L (.lst [])) := Ex.new nL
    have hlv : vs.length = (partsT t).length := hp.len
    refine ⟨_, rfl, x, _, _, _, _, rfl, e1 _ _ hx, hC, hA, hlk, a, rfl, ⟨vs, ex_t e1 ha⟩, for_tup (xs := vs) (fun i σ H' => ∃ u2 : Option V, Ex H H' ∧ H' L = some (.lst ((endsTs ((partsT t).take i)).map V.int)) ∧ σ = [some (.ref x), some (.ref L), u2]) ⟨none, e1, upd_same, rfl⟩ ?_ ?_ ?_⟩
    · rintro i σ H' _ ⟨_, e, _, _⟩
      exact ex_t e ha
    · rintro i y σ H' hy ⟨u2, e, hL, rfl⟩
      obtain ⟨s, hs, hys⟩ := hp.get hy
      have hm := List.mem_of_getElem? hs
      have htk : endsTs ((partsT t).take (i + 1)) = endsTs ((partsT t).take i) ++ endsT s := by
        rw [List.take_add_one, hs, endsTs_app]
        show _ ++ endsTs [s] = _
        rw [endsTs, endsTs, List.append_nil]
      have hle : (endsTs ((partsT t).take (i + 1))).length ≤ (endsTs (partsT t)).length := by
        conv => rhs; rw [← List.take_append_drop (i + 1) (partsT t), endsTs_app, List.length_append]
        omega
      have hds := dpTs_mem hm
      cases d with
      | zero => omega
      | succ n =>
      refine ⟨_, rfl, .inl ⟨rfl, _, sq_of hL⟩, _, rfl, y, s, rfl, hys.mono e, by omega, ?_, fun l H2 nl e2 hl2 => ?_⟩
      · rw [htk, List.length_append] at hle
        omega
      · refine ⟨L, l, _, _, rfl, rfl, e2 _ _ hL, hl2, ?_, some y, Ex.mut (e.trans e2) nL, ?_, rfl⟩
        · rw [← List.length_append, ← List.map_append, ← htk, List.length_map]
          omega
        · rw [upd_same, ← List.map_append, ← htk]
    · rintro σ H' ⟨u2, e, hL, rfl⟩
      rw [hlv, List.take_length] at hL
      exact ⟨_, rfl, k L H' nL e hL⟩
theorem fn_endsP (T : Txt K mg) : ∀ d, Fn P w K mg base d (ga K "ends_of") (spEndsP K d)
  | 0 => fun _ _ _ _ _ _ _ _ _ _ _ h => h.elim
  | d + 1 => fn_ends1 T d (fn_endsP T d)
theorem fn_ends_of (T : Txt K mg) : Fn P w K mg base 20 (ga K "ends_of") (spEnds K 19) := fn_endsP T 20
end
end LL
namespace LL
open PySem PySem.Spec PyProof.Rows L2 He Evl ND
/-! ### views_of -/
abbrev VN := List Evt × Nat
def vput (acc : List VN) (v : List Evt) (n : Nat) : List VN := if v ∈ acc.map (·.1) then acc else acc ++ [(v, n)]
mutual
def viewsT (c : Bool) (acc : List VN) : Tr → List VN
  | .fin _ => acc
  | .lot ps => viewsTs c acc ps
  | .mov b v ps => viewsTs c (if b = c then vput acc v ps.length else acc) ps
def viewsTs (c : Bool) (acc : List VN) : List Tr → List VN
  | [] => acc
  | t :: r => viewsTs c (viewsT c acc t) r
end
mutual
def ndT : Tr → Nat
  | .fin _ => 1
  | .lot ps => 1 + ndTs ps
  | .mov _ _ ps => 1 + ndTs ps
def ndTs : List Tr → Nat
  | [] => 0
  | t :: r => ndT t + ndTs r
end
theorem ndTs_app : ∀ a b : List Tr, ndTs (a ++ b) = ndTs a + ndTs b
  | [], b => by rw [List.nil_append, ndTs, Nat.zero_add]
  | t :: a, b => by rw [List.cons_append, ndTs, ndTs, ndTs_app a b, Nat.add_assoc]
theorem ndTs_rev : ∀ a : List Tr, ndTs a.reverse = ndTs a
  | [] => rfl
  | t :: a => by rw [List.reverse_cons, ndTs_app, ndTs_rev a, ndTs, ndTs, ndTs]; omega
theorem ndT_pos (t : Tr) : 1 ≤ ndT t := by
  cases t with
  | fin _ => rw [ndT]; omega
  | lot _ => rw [ndT]; omega
  | mov _ _ _ => rw [ndT]; omega
theorem len_ndTs : ∀ ts : List Tr, ts.length ≤ ndTs ts
  | [] => Nat.le_refl _
  | t :: r => by
    have := len_ndTs r
    have := ndT_pos t
    rw [ndTs, List.length_cons]; omega
theorem nd_parts (t : Tr) : ndT t = 1 + ndTs (partsT t) := by
  cases t with
  | fin _ => rw [ndT]; rfl
  | lot _ => rw [ndT]; rfl
  | mov _ _ _ => rw [ndT]; rfl
theorem viewsTs_app (c : Bool) : ∀ (a : List Tr) (acc : List VN) (b : List Tr), viewsTs c acc (a ++ b) = viewsTs c (viewsTs c acc a) b
  | [], acc, b => by rw [List.nil_append, viewsTs]
  | t :: a, acc, b => by rw [List.cons_append, viewsTs, viewsTs, viewsTs_app c a]
theorem vput_le (acc : List VN) (v : List Evt) (n : Nat) : acc.length ≤ (vput acc v n).length := by
  unfold vput
  split
  · exact Nat.le_refl _
  · rw [List.length_append]; exact Nat.le_add_right _ _
mutual
theorem viewsT_le (c : Bool) : ∀ (t : Tr) (acc : List VN), acc.length ≤ (viewsT c acc t).length
  | .fin _, acc => by rw [viewsT]; exact Nat.le_refl _
  | .lot ps, acc => by rw [viewsT]; exact viewsTs_le c ps acc
  | .mov b v ps, acc => by
    rw [viewsT]
    refine Nat.le_trans ?_ (viewsTs_le c ps _)
    split
    · exact vput_le acc v ps.length
    · exact Nat.le_refl _
theorem viewsTs_le (c : Bool) : ∀ (ts : List Tr) (acc : List VN), acc.length ≤ (viewsTs c acc ts).length
  | [], acc => by rw [viewsTs]; exact Nat.le_refl _
  | t :: r, acc => by rw [viewsTs]; exact Nat.le_trans (viewsT_le c t acc) (viewsTs_le c r _)
end
/-- what a node itself adds -/
def vadd (c : Bool) (acc : List VN) : Tr → List VN
  | .mov b v ps => if b = c then vput acc v ps.length else acc
  | _ => acc
theorem viewsT_parts (c : Bool) (acc : List VN) (t : Tr) : viewsT c acc t = viewsTs c (vadd c acc t) (partsT t) := by
  cases t with
  | fin _ => rw [viewsT, partsT, viewsTs]; rfl
  | lot _ => rw [viewsT]; rfl
  | mov _ _ _ => rw [viewsT]; rfl
section
variable {w : World} {K : PySem.W.Frag} {mg : Str → Option Value} {base : Heap}
def VkAt (K : PySem.W.Frag) (H : Hp) (kvs : List NE) (acc : List VN) : Prop := Paired (fun (e : NE) (p : VN) => e.1 = viewK p.1 ∧ e.2.2 = .int (p.2 : Nat) ∧ KeyAt K H e.2.1 e.1) kvs acc
theorem VkAt.ks {H : Hp} : ∀ {kvs : List NE} {acc : List VN}, VkAt K H kvs acc → KsAt K H kvs
  | _, _, .nil => fun _ h => nomatch h
  | _, _, .cons h t => fun e he => by
    rcases List.mem_cons.mp he with rfl | he
    · exact h.2.2
    · exact VkAt.ks t e he
theorem key_mono {H H' : Hp} {b : Addr} {k : NestedKey} (h : KeyAt K H b k) (e : Ex H H') : KeyAt K H' b k := ⟨h.1, h.2.1, dp_mono e h.2.2⟩
theorem VkAt.mono {H H' : Hp} {kvs : List NE} {acc : List VN} (h : VkAt K H kvs acc) (e : Ex H H') : VkAt K H' kvs acc := L2.Paired.mapP h fun _ _ z => ⟨z.1, z.2.1, key_mono z.2.2 e⟩
theorem VkAt.get {H : Hp} {v : List Evt} : ∀ {kvs : List NE} {acc : List VN}, VkAt K H kvs acc → ((nGet kvs (viewK v)).isSome = true ↔ v ∈ acc.map (·.1))
  | _, _, .nil => by
    constructor
    · intro h; cases h
    · intro h; cases h
  | _, _, .cons (a := e) (b := p) (l₁ := kvs) (l₂ := acc) h t => by
    have ih := VkAt.get (v := v) t
    rw [List.map_cons, List.mem_cons]
    show (valV ((e.1, e.2.2) :: nP kvs) (viewK v)).isSome = true ↔ _
    by_cases c : e.1 = viewK v
    · rw [valV_pos (p := (e.1, e.2.2)) c]
      exact ⟨fun _ => .inl (viewK_inj (c.symm.trans h.1)), fun _ => rfl⟩
    · rw [valV_neg (p := (e.1, e.2.2)) c]
      constructor
      · exact fun z => .inr (ih.mp z)
      · rintro (z | z)
        · exact absurd (by rw [h.1, z]) c
        · exact ih.mpr z
theorem TrsAt.unsnoc {B : Hp} : ∀ {vs : List V} {v : V} {ts : List Tr}, TrsAt K B (vs ++ [v]) ts → ∃ ts' t, ts = ts' ++ [t] ∧ TrsAt K B vs ts' ∧ TrAt K B v t
  | [], v, ts, h => by
    cases h with
    | cons h1 h2 => cases h2; exact ⟨[], _, rfl, .nil, h1⟩
  | u :: vs, v, ts, h => by
    cases h with
    | cons h1 h2 =>
      obtain ⟨ts', t, rfl, h3, h4⟩ := TrsAt.unsnoc (vs := vs) h2
      exact ⟨_ :: ts', t, rfl, .cons h1 h3, h4⟩
/-- the pairs of a list of views -/
def PvAt (K : PySem.W.Frag) (H : Hp) (Ts : List V) (acc : List VN) : Prop := Paired (fun (x : V) (p : VN) => ∃ T b, x = .ref T ∧ H T = some (.tup [.ref b, .int (p.2 : Nat)]) ∧ KeyAt K H b (viewK p.1)) Ts acc
theorem TrsAt.app {B : Hp} : ∀ {vs us : List V} {ts ss : List Tr}, TrsAt K B vs ts → TrsAt K B us ss → TrsAt K B (vs ++ us) (ts ++ ss)
  | _, _, _, _, .nil, h => h
  | _, _, _, _, .cons h1 h2, h => .cons h1 (TrsAt.app h2 h)
theorem TrsAt.rev {B : Hp} : ∀ {vs : List V} {ts : List Tr}, TrsAt K B vs ts → TrsAt K B vs.reverse ts.reverse
  | _, _, .nil => .nil
  | _, _, .cons h1 h2 => by
    rw [List.reverse_cons, List.reverse_cons]
    exact (TrsAt.rev h2).snoc h1
theorem pv_of {H : Hp} : ∀ {kvs : List NE} {acc : List VN} {Ts : List Addr}, VkAt K H kvs acc → PrsAt H Ts kvs → PvAt K H (Ts.map V.ref) acc
  | [], _, [], h, _ => by cases h; exact .nil
  | [], _, _ :: _, _, p => nomatch p
  | _ :: _, _, [], _, p => nomatch p
  | e :: kvs, _, T :: Ts, h, p => by
    cases h with
    | cons h1 h2 =>
      cases p with
      | cons p1 p2 =>
        refine .cons ⟨T, e.2.1, rfl, ?_, by rw [← h1.1]; exact h1.2.2⟩ (pv_of h2 p2)
        rw [p1, h1.2.1]
def spViews (K : PySem.W.Frag) : Sp := fun us H Q _ => ∃ (v : V) (t : Tr) (c : Bool), us = [v, .str (seatS c)] ∧ TrAt K H v t ∧ ndT t ≤ 1000 ∧ (viewsT c [] t).length ≤ 1000 ∧ ∀ l vs H2, H l = none → Ex H H2 → H2 l = some (.lst vs) → PvAt K H2 vs (viewsT c [] t) → Q (.ref l) H2
theorem fn_views_of (T : Txt K mg) : Fn P w K mg base 1 (ga K "views_of") (spViews K) := by
  refine fn_def T.d_views_of sc_views_of (fun _ _ _ _ _ _ us hl => match us, hl with | [_, _], _ => rfl) (fun vs H Q E h => ?_) (fun cdv A outer s H vs Q E hr h => ?_)
  · obtain ⟨_, _, _, rfl, _⟩ := h
    rfl
  obtain ⟨v, t, c, rfl, ht, hn, hl, k⟩ := h
  have nd := sc_views_of.nd
  refine ⟨_, pss_cons (ps_set (i := 2) nd rfl (by first | exact Or.inl rfl | exact Or.inr rfl) (ND.pe_new))
      (pss_cons (ps_set (i := 3) nd rfl (by first | exact Or.inl rfl | exact Or.inr rfl) (pe_lst (pa_cons (pv 0) pa_nil)))
      (pss_cons (ps_while (passes_of rfl) (pt_truth (pv 3) (by intro _; rfl)) (pss_cons (ps_set (i := 4) nd rfl (by first | exact Or.inl rfl | exact Or.inr rfl) (pe_bm0 PySem.F.plainAttrs_list PySem.F.slot_list_pop PySem.F.type_list_pop mt_pop (pv 3)))
      (pss_cons (ps_if (pt_val (pe_callB call_isi (by rfl) T.f_isinstance (by decide +kernel) (pa_cons (pv 4) (pa_cons (pe_gr T.g_End) pa_nil)))) (pss_one (ps_continue)) (pss_nil))
      (Evl.pss_cut (ps_if (PW.pt (pw_and (pt_val (pe_callB call_isi (by rfl) T.f_isinstance (by decide +kernel) (pa_cons (pv 4) (pa_cons (pe_gr T.g_Move) pa_nil)))) (pw_and1 (pt_cmpR op_eq (pe_fld (pv 4) rfl) (pv 1) (nomark _))))) (pss_one (ps_expr (ND.pe_setd hr.units (pv 2) (pe_fld (pv 4) rfl) (pe_callB call_len_seq (by rfl) T.f_len PySem.boot_len (pa_cons (pe_fld (pv 4) rfl) pa_nil)) ⟨rfl, rfl, rfl, rfl⟩))) (pss_nil))
      (pss_one (ps_expr (pe_bm PySem.F.plainAttrs_list PySem.F.slot_list_extend PySem.F.type_list_extend RvT.mt_extendF (pv 3) (pa_cons (RvT.pe_revF (pe_fld (pv 4) rfl)) pa_nil))))))))
      (pss_one (ps_ret (pe_callTy (ND.call_list_items rfl) (by rfl) T.f_list (by decide +kernel) (pa_cons (ND.pe_items (pv 2)) pa_nil)))))), ?_⟩
  have hbig : (100000 : Nat) ≤ sizeLine := by decide
  refine fun F nF => ⟨_, rfl, (show 1 ≤ sizeLine by omega), fun N nN => ?_⟩
  have e0 : Ex H (upd H F (NDo P w F [])) := Ex.new nF
  have nFN : N ≠ F := fun z => by subst z; rw [upd_same] at nN; cases nN
  have nNH : H N = none := fresh_back e0 nN
  refine ⟨fun m σ H' => ∃ (stk : List V) (ts : List Tr) (kvs : List NE) (acc : List VN) (u4 : Option V), m = ndTs ts ∧ Ex H H' ∧ H' N = some (.lst stk) ∧ TrsAt K H stk ts ∧ H' F = some (NDo P w F kvs) ∧ VkAt K H kvs acc ∧ viewsTs c acc ts.reverse = viewsT c [] t ∧ ndTs ts ≤ 1000 ∧
    σ = [some v, some (.str (seatS c)), some (.ref F), some (.ref N), u4], ⟨_, [v], [t], [], [], none, rfl, Ex.mut e0 nNH, upd_same, .cons ht .nil, (upd_ne (Ne.symm nFN)).trans upd_same, .nil, ?_, ?_, rfl⟩, ?_⟩
  · rw [List.reverse_singleton, viewsTs, viewsTs]
  · rw [ndTs, ndTs]; omega
  rintro m σ H' ⟨stk, ts, kvs, acc, u4, rfl, e, hN, hts, hF, hkv, hvw, hnd, rfl⟩
  have hsl : stk.length = ts.length := hts.len
  refine ⟨_, rfl, !stk.isEmpty, .inl ⟨stk, sq_of hN, rfl⟩, ifs (fun hb => ?_) fun hb => ?_⟩
  · obtain ⟨hd, t1, rfl⟩ : ∃ hd t1, stk = hd ++ [t1] := by
      cases h : stk.reverse with
      | nil =>
        have : stk = [] := by rw [← List.reverse_reverse stk, h]; rfl
        subst this
        cases hb
      | cons y r => exact ⟨r.reverse, y, by rw [← List.reverse_reverse stk, h, List.reverse_cons]⟩
    obtain ⟨ts', s1, rfl, hts', hs1⟩ := TrsAt.unsnoc hts
    rw [ndTs_app, ndTs, ndTs, Nat.add_zero] at hnd
    rw [ndTs_app, ndTs, ndTs, Nat.add_zero]
    rw [List.reverse_append, List.reverse_singleton, List.singleton_append, viewsTs, viewsT_parts, ← viewsTs_app] at hvw
    refine ⟨fun σ2 H2 => ∃ m', m' < ndTs ts' + ndT s1 ∧ ∃ (stk : List V) (ts : List Tr) (kvs : List NE) (acc : List VN) (u4 : Option V), m' = ndTs ts ∧ Ex H H2 ∧ H2 N = some (.lst stk) ∧ TrsAt K H stk ts ∧ H2 F = some (NDo P w F kvs) ∧ VkAt K H kvs acc ∧ viewsTs c acc ts.reverse = viewsT c [] t ∧ ndTs ts ≤ 1000 ∧
      σ2 = [some v, some (.str (seatS c)), some (.ref F), some (.ref N), u4], fun _ _ h => h, ?_⟩
    refine ⟨_, rfl, .inl ⟨rfl, _, sq_of hN⟩, N, _, t1, rfl, rfl, hN, by simp, ?_⟩
    rw [List.dropLast_concat]
    have e1 : Ex H (upd H' N (.lst hd)) := Ex.mut e nNH
    have hF1 : upd H' N (.lst hd) F = some (NDo P w F kvs) := (upd_ne (Ne.symm nFN)).trans hF
    have hN1 : upd H' N (.lst hd) N = some (.lst hd) := upd_same
    generalize upd H' N (.lst hd) = H1 at e1 hF1 hN1 ⊢
    clear hN hF e
    by_cases hf : isFin s1
    · cases s1 with
      | lot _ => exact hf.elim
      | mov _ _ _ => exact hf.elim
      | fin pd =>
      cases hs1 with
      | @fin x dx pd hx =>
        refine ⟨_, rfl, _, _, _, _, _, rfl, ClsV.own _, TyX.base (TyOf.ins (e1 _ _ hx) T.c_End T.oc_End T.og T.ot T.om_End), T.ki_End_End, true, rfl, iteT ?_⟩
        refine ⟨ndTs ts', by have := ndT_pos (.fin pd); omega, hd, ts', kvs, acc, some (.ref x), rfl, e1, hN1, hts', hF1, hkv, ?_, by omega, rfl⟩
        exact hvw
    obtain ⟨x, dx, C, a, fs, vs, rfl, hx, hC, hA, hlk, ha, hp, hty, hki⟩ := node_of T hs1 hf
    have hty1 : TyX K H1 (.ref x) (.ref C) := by
      cases hs1 with
      | fin _ => exact absurd trivial hf
      | lot h _ _ => rw [h] at hx; cases hx; exact TyX.base (TyOf.ins (e1 _ _ h) T.c_Lot T.oc_Lot T.og T.ot T.om_Lot)
      | mov h _ _ _ => rw [h] at hx; cases hx; exact TyX.base (TyOf.ins (e1 _ _ h) T.c_Move T.oc_Move T.og T.ot T.om_Move)
    refine ⟨_, rfl, _, _, _, _, _, rfl, ClsV.own _, hty1, hki, false, rfl, iteF ?_⟩
    have hle : acc.length ≤ 1000 ∧ (vadd c acc s1).length ≤ 1000 := by
      have h1 := viewsTs_le c (partsT s1 ++ ts'.reverse) (vadd c acc s1)
      rw [hvw] at h1
      have h2 : acc.length ≤ (vadd c acc s1).length := by
        cases s1 with
        | fin _ => exact Nat.le_refl _
        | lot _ => exact Nat.le_refl _
        | mov b v ps =>
          show _ ≤ (if b = c then vput acc v ps.length else acc).length
          split
          · exact vput_le _ _ _
          · exact Nat.le_refl _
      omega
    have hkl : kvs.length = acc.length := Paired.length hkv
    refine ⟨fun σ2 H2 => ∃ (kvs : List NE), Ex H H2 ∧ H2 N = some (.lst hd) ∧ H2 F = some (NDo P w F kvs) ∧ VkAt K H kvs (vadd c acc s1) ∧ σ2 = [some v, some (.str (seatS c)), some (.ref F), some (.ref N), some (.ref x)], ?_, ?_⟩
    · cases hs1 with
      | fin _ => exact absurd trivial hf
      | lot h _ _ =>
        refine ⟨_, rfl, _, _, _, _, _, rfl, ClsV.own _, TyX.base (TyOf.ins (e1 _ _ h) T.c_Lot T.oc_Lot T.og T.ot T.om_Lot), T.ki_Lot_Move, false, rfl, ?_⟩
        exact iteF (iteF ⟨kvs, e1, hN1, hF1, hkv, rfl⟩)
      | @mov _ dxm am bm cm vm vsm psm h hb2 ha2 hp2 =>
        refine ⟨_, rfl, _, _, _, _, _, rfl, ClsV.own _, TyX.base (TyOf.ins (e1 _ _ h) T.c_Move T.oc_Move T.og T.ot T.om_Move), T.ki_Move_Move, true, rfl, ?_⟩
        refine iteT ⟨_, rfl, x, _, _, _, _, rfl, e1 _ _ h, T.c_Move, T.a_Move_seat, rfl, _, rfl, rfl, _, rfl, ifs (fun hc => ?_) fun hc => ?_⟩
        · have hcc : cm = c := by
            have := V.str.inj (of_decide_eq_true hc)
            cases cm <;> cases c <;> first | rfl | exact absurd this (by decide)
          have hva : vadd c acc (.mov cm vm psm) = vput acc vm psm.length := if_pos hcc
          obtain ⟨xsv, hxsv, hpv⟩ := hb2
          refine ⟨_, rfl, F, kvs, rfl, .inl hF1, _, rfl, x, _, _, _, _, rfl, e1 _ _ h, T.c_Move, T.a_Move_view, rfl, _, rfl, x, _, _, _, _, rfl, e1 _ _ h, T.c_Move, T.a_Move_parts, rfl, am, vsm, rfl, .inr (ex_t e1 ha2), bm, viewK vm, kvs, rfl, hF1, (hkv.mono e1).ks, key_mono (view_key hxsv hpv) e1, by omega, fun u hu => ?_, fun hno => ?_⟩
          · have hm := (VkAt.get hkv).mp (show (nGet kvs (viewK vm)).isSome = true by rw [hu]; rfl)
            refine ⟨kvs, e1, hN1, hF1, ?_, rfl⟩
            rw [hva]
            unfold vput
            rw [if_pos hm]
            exact hkv
          · have hm : ¬ vm ∈ acc.map (·.1) := fun z => by
              have := (VkAt.get hkv).mpr z
              rw [hno] at this
              cases this
            refine ⟨_, Ex.mut e1 nF, (upd_ne nFN).trans hN1, upd_same, ?_, rfl⟩
            rw [hva]
            unfold vput
            rw [if_neg hm]
            exact Paired.snoc hkv ⟨rfl, by rw [hp2.len], view_key hxsv hpv⟩
        · have hcc : ¬ cm = c := fun z => of_decide_eq_false hc (by rw [z])
          refine ⟨kvs, e1, hN1, hF1, ?_, rfl⟩
          rw [show vadd c acc (.mov cm vm psm) = acc from if_neg hcc]
          exact hkv
    · rintro σ2 H2 ⟨kvs2, e2, hN2, hF2, hkv2, rfl⟩
      refine ⟨_, rfl, .inl ⟨rfl, _, sq_of hN2⟩, _, rfl, x, _, _, _, _, rfl, e2 _ _ hx, hC, hA, hlk, a, vs, rfl, ex_t e2 ha, fun p o np ho => ?_⟩
      have hNp : N ≠ p := fun z => by subst z; rw [hN2] at np; cases np
      have hFp : F ≠ p := fun z => by subst z; rw [hF2] at np; cases np
      refine ⟨N, p, o, hd, vs.reverse, rfl, rfl, (upd_ne hNp).trans hN2, upd_same, ho, ?_, ?_⟩
      · have h1 := hts'.len
        have h2 := len_ndTs ts'
        have h3 := hp.len
        have h4 := len_ndTs (partsT s1)
        have h5 := nd_parts s1
        rw [List.length_reverse]
        omega
      · have h5 := nd_parts s1
        have h6 : ndTs (ts' ++ (partsT s1).reverse) = ndTs ts' + ndTs (partsT s1) := by rw [ndTs_app, ndTs_rev]
        refine ⟨ndTs (ts' ++ (partsT s1).reverse), by omega, _, ts' ++ (partsT s1).reverse, kvs2, vadd c acc s1, some (.ref x), rfl, Ex.mut (Ex.mut e2 (fresh_back e2 np)) nNH, upd_same, hts'.app hp.rev, ?_, hkv2, ?_, by omega, rfl⟩
        · rw [upd_ne (Ne.symm nFN), upd_ne hFp]; exact hF2
        · rw [List.reverse_append, List.reverse_reverse]
          exact hvw
  · have hs0 : stk = [] := by
      cases stk with
      | nil => rfl
      | cons _ _ => cases hb
    subst hs0
    cases hts
    rw [List.reverse_nil, viewsTs] at hvw
    refine ⟨_, rfl, F, kvs, rfl, .inl hF, fun p np => ?_⟩
    have hFp : F ≠ p := fun z => by subst z; rw [hF] at np; cases np
    refine ⟨p, F, kvs, rfl, upd_same, .inl ((upd_ne hFp).trans hF), fun H2 l Ts x2 nl hl2 hfresh hnd2 hprs => ?_⟩
    have e3 : Ex H' (upd H' p (DX.itemsO p F)) := Ex.new np
    have e4 := e.trans (e3.trans x2)
    subst hvw
    refine k l _ H2 (fresh_back (e.trans e3) nl) e4 hl2 (pv_of (hkv.mono e4) hprs)
end
end LL
namespace LL
open PySem PySem.Spec PyProof.Rows L2 He Evl ND
/-! ### sizes of trees -/
theorem partsF_nd {F : Nat → Nat → Option (Tr × Nat)} {D : Nat} (h : ∀ i c tr c2, F i c = some (tr, c2) → c2 = c + ndT tr ∧ c2 ≤ 400 ∧ dpT tr ≤ D) : ∀ (n i c : Nat) (ts : List Tr) (c2 : Nat), partsF F n i c = some (ts, c2) → c2 = c + ndTs ts ∧ (c ≤ 400 → c2 ≤ 400) ∧ dpTs ts ≤ D
  | 0, i, c, ts, c2, e => by
    rw [partsF] at e
    cases e
    exact ⟨by rw [ndTs]; rfl, fun h => h, by rw [dpTs]; exact Nat.zero_le _⟩
  | n + 1, i, c, ts, c2, e => by
    rw [partsF] at e
    cases hF : F i c with
    | none => rw [hF] at e; cases e
    | some p =>
      obtain ⟨t, c1⟩ := p
      rw [hF] at e
      have e : (match partsF F n (i + 1) c1 with | none => none | some (ts, c2) => some (t :: ts, c2)) = some (ts, c2) := e
      cases hP : partsF F n (i + 1) c1 with
      | none => rw [hP] at e; cases e
      | some q =>
        obtain ⟨ts', c3⟩ := q
        rw [hP] at e
        cases e
        obtain ⟨a1, a2, a3⟩ := h i c t c1 hF
        obtain ⟨b1, b2, b3⟩ := partsF_nd h n (i + 1) c1 ts' _ hP
        refine ⟨by rw [ndTs]; omega, fun _ => b2 a2, by rw [dpTs]; omega⟩
theorem goT_nd (zs : Tbl) : ∀ (f : Nat) (t : Tbl) (vw : Vws) (pd : Int) (S : List Stm) (c : Nat) (tr : Tr) (c2 : Nat), goT zs f t vw pd S c = some (tr, c2) → c2 + 1 = c + ndT tr ∧ (c ≤ 400 → c2 ≤ 400) ∧ dpT tr ≤ nbB S
  | 0, _, _, _, _, _, _, _, h => by rw [goT] at h; cases h
  | f + 1, t, vw, pd, [], c, tr, c2, h => by
    rw [goT] at h
    cases h
    exact ⟨by rw [ndT], fun h => h, by rw [dpT]; exact Nat.zero_le _⟩
  | f + 1, t, vw, pd, .set x e :: S, c, tr, c2, h => by
    have := goT_nd zs f _ _ _ S c tr c2 (show goT zs f _ _ _ S c = _ from h)
    simp only [nbB, nbS, Nat.zero_add]; exact this
  | f + 1, t, vw, pd, .shw b e :: S, c, tr, c2, h => by
    have := goT_nd zs f _ _ _ S c tr c2 (show goT zs f _ _ _ S c = _ from h)
    simp only [nbB, nbS, Nat.zero_add]; exact this
  | f + 1, t, vw, pd, .pay b e :: S, c, tr, c2, h => by
    have := goT_nd zs f _ _ _ S c tr c2 (show goT zs f _ _ _ S c = _ from h)
    simp only [nbB, nbS, Nat.zero_add]; exact this
  | f + 1, t, vw, pd, .ite e A B :: S, c, tr, c2, h => by
    have := goT_nd zs f _ _ _ ((if exV t e ≠ 0 then A else B) ++ S) c tr c2 (show goT zs f _ _ _ ((if exV t e ≠ 0 then A else B) ++ S) c = _ from h)
    refine ⟨this.1, this.2.1, Nat.le_trans this.2.2 ?_⟩
    rw [nbB_app, nbB, nbS]
    split <;> omega
  | f + 1, t, vw, pd, .draw x n :: S, c, tr, c2, h => by
    have h : (partsF (fun i c => if c + 1 > 400 then none else goT zs f (LL.tPut t x (i % LL.tGet zs x)) vw pd S (c + 1)) n 0 c).map (fun p => (Tr.lot p.1, p.2)) = some (tr, c2) := h
    obtain ⟨p, hp, e⟩ := Option.map_eq_some_iff.mp h
    obtain ⟨ts, c3⟩ := p
    cases e
    obtain ⟨a1, a2, a3⟩ := partsF_nd (D := nbB S) (fun i c tr c2 hF => by
      have hF : (if c + 1 > 400 then none else goT zs f (LL.tPut t x (i % LL.tGet zs x)) vw pd S (c + 1)) = some (tr, c2) := hF
      by_cases hc : c + 1 > 400
      · rw [if_pos hc] at hF; cases hF
      · rw [if_neg hc] at hF
        obtain ⟨b1, b2, b3⟩ := goT_nd zs f _ _ _ S (c + 1) tr c2 hF
        exact ⟨by omega, b2 (by omega), b3⟩) n 0 c ts _ hp
    refine ⟨(by rw [ndT]; show _ = c + (1 + ndTs ts); omega), a2, (by simp only [dpT, nbB, nbS]; omega)⟩
  | f + 1, t, vw, pd, .move b x n kk :: S, c, tr, c2, h => by
    have h : (partsF (fun i c => if c + 1 > 400 then none else goT zs f (LL.tPut t x (i % LL.tGet zs x)) (vAdd b ("did", [i]) (vAdd b ("asked", [kk, n]) vw)) pd S (c + 1)) n 0 c).map (fun p => (Tr.mov b (vGet b (vAdd b ("asked", [kk, n]) vw)) p.1, p.2)) = some (tr, c2) := h
    obtain ⟨p, hp, e⟩ := Option.map_eq_some_iff.mp h
    obtain ⟨ts, c3⟩ := p
    cases e
    obtain ⟨a1, a2, a3⟩ := partsF_nd (D := nbB S) (fun i c tr c2 hF => by
      have hF : (if c + 1 > 400 then none else goT zs f (LL.tPut t x (i % LL.tGet zs x)) (vAdd b ("did", [i]) (vAdd b ("asked", [kk, n]) vw)) pd S (c + 1)) = some (tr, c2) := hF
      by_cases hc : c + 1 > 400
      · rw [if_pos hc] at hF; cases hF
      · rw [if_neg hc] at hF
        obtain ⟨b1, b2, b3⟩ := goT_nd zs f _ _ _ S (c + 1) tr c2 hF
        exact ⟨by omega, b2 (by omega), b3⟩) n 0 c ts _ hp
    refine ⟨(by rw [ndT]; show _ = c + (1 + ndTs ts); omega), a2, (by simp only [dpT, nbB, nbS]; omega)⟩
mutual
theorem ends_nd : ∀ t : Tr, (endsT t).length ≤ ndT t
  | .fin _ => by rw [endsT, ndT]; exact Nat.le_refl _
  | .lot ps => by have := endss_nd ps; rw [endsT, ndT]; omega
  | .mov _ _ ps => by have := endss_nd ps; rw [endsT, ndT]; omega
theorem endss_nd : ∀ ts : List Tr, (endsTs ts).length ≤ ndTs ts
  | [] => by rw [endsTs, ndTs]; exact Nat.le_refl _
  | t :: r => by
    have := ends_nd t
    have := endss_nd r
    rw [endsTs, ndTs, List.length_append]; omega
end
theorem vput_len (acc : List VN) (v : List Evt) (n : Nat) : (vput acc v n).length ≤ acc.length + 1 := by
  unfold vput
  split
  · omega
  · rw [List.length_append]; exact Nat.le_refl _
mutual
theorem views_nd (c : Bool) : ∀ (t : Tr) (acc : List VN), (viewsT c acc t).length ≤ acc.length + ndT t
  | .fin _, acc => by rw [viewsT]; omega
  | .lot ps, acc => by have := viewss_nd c ps acc; rw [viewsT, ndT]; omega
  | .mov b v ps, acc => by
    rw [viewsT, ndT]
    have := viewss_nd c ps (if b = c then vput acc v ps.length else acc)
    have h2 : (if b = c then vput acc v ps.length else acc).length ≤ acc.length + 1 := by
      split
      · exact vput_len _ _ _
      · omega
    omega
theorem viewss_nd (c : Bool) : ∀ (ts : List Tr) (acc : List VN), (viewsTs c acc ts).length ≤ acc.length + ndTs ts
  | [], acc => by rw [viewsTs]; omega
  | t :: r, acc => by
    have := views_nd c t acc
    have := viewss_nd c r (viewsT c acc t)
    rw [viewsTs, ndTs]; omega
end
/-- what is known of a game's tree -/
structure TrOk (tr : Tr) : Prop where
  nd : ndT tr ≤ 400
  dp : dpT tr ≤ 14
theorem TrOk.ends {tr : Tr} (h : TrOk tr) : (endsT tr).length ≤ 400 := Nat.le_trans (ends_nd tr) h.nd
theorem TrOk.views {tr : Tr} (h : TrOk tr) (c : Bool) : (viewsT c [] tr).length ≤ 400 := by
  have := views_nd c tr []
  have := h.nd
  simp at *
  omega
theorem treeT_ok {zs : Tbl} {S : List Stm} {tr : Tr} {c : Nat} (ho : GOk zs S) (h : treeT zs S = some (tr, c)) : TrOk tr ∧ c ≤ 400 := by
  have h : (if 0 + 1 > 400 then none else goT zs (szB S + 1) (zT zs) ([], []) 0 S (0 + 1)) = some (tr, c) := h
  rw [if_neg (by decide)] at h
  obtain ⟨h1, h2, h3⟩ := goT_nd zs _ _ _ _ _ _ _ _ h
  have := h2 (by decide)
  exact ⟨⟨by omega, Nat.le_trans h3 ho.nb⟩, this⟩
end LL
namespace LL
open PySem PySem.Spec PyProof.Rows L2 He Evl ND
section
variable {w : World} {K : PySem.W.Frag} {mg : Str → Option Value} {base : Heap}
theorem DtsAt.get {B : Hp} : ∀ {vs : List V} {ts : List Tr} {i : Nat} {v : V}, DtsAt K B vs ts → vs[i]? = some v → ∃ t, ts[i]? = some t ∧ DtAt K B v t
  | u :: vs, ts, i, v, h, e => by
    cases h with
    | cons h1 h2 =>
      cases i with
      | zero => cases e; exact ⟨_, rfl, h1⟩
      | succ i => exact DtsAt.get (vs := vs) (i := i) h2 (by simpa using e)
def spParts (K : PySem.W.Frag) : Sp := fun us H Q _ => ∃ (v : V) (t : Tr) (B : Hp), us = [v] ∧ Ex B H ∧ DtAt K B v t ∧ ∀ l vs H2, Ex H H2 → H2 l = some (.lst vs) → DtsAt K B vs (partsT t) → Q (.ref l) H2
theorem fn_l_parts (T : Txt K mg) : Fn P w K mg base 1 (ga K "_law_parts") (spParts K) := by
  refine fn_def T.d_l_parts sc_l_parts (fun _ _ _ _ _ _ us hl => match us, hl with | [_], _ => rfl) (fun vs H Q E h => ?_) (fun cdv A outer s H vs Q E hr h => ?_)
  · obtain ⟨_, _, _, rfl, _⟩ := h
    rfl
  obtain ⟨v, t, B, rfl, e, ht, k⟩ := h
  have nd := sc_l_parts.nd
  refine ⟨_, pss_cons (ps_if (pt_cmpR op_eq (pe_ix ix_tup (pv 0) (pe_int) (fun _ _ => rfl)) (pe_str) (nomark _)) (pss_one (ps_ret (pe_lst pa_nil))) (pss_nil))
      (pss_one (ps_ret (pe_ix ix_tup (pv 0) (pe_un un_neg (pe_int)) (fun _ _ => rfl)))), ?_⟩
  cases ht with
  | fin h =>
    refine ⟨_, rfl, _, _, _, _, rfl, rfl, ex_t e h, rfl, rfl, _, rfl, ifs (fun _ => ?_) fun z => absurd rfl (of_decide_eq_false z)⟩
    exact ⟨(show 0 ≤ sizeLine by decide), fun l nl => k l [] _ (Ex.new nl) upd_same .nil⟩
  | lot h hl hp =>
    refine ⟨_, rfl, _, _, _, _, rfl, rfl, ex_t e h, rfl, rfl, _, rfl, ifs (fun z => absurd (V.str.inj (of_decide_eq_true z)) (by decide)) fun _ => ?_⟩
    exact ⟨_, rfl, _, rfl, _, _, _, _, rfl, rfl, ex_t e h, rfl, k _ _ _ (Ex.refl _) (e _ _ hl) hp⟩
  | mov h hb hl hp =>
    refine ⟨_, rfl, _, _, _, _, rfl, rfl, ex_t e h, rfl, rfl, _, rfl, ifs (fun z => absurd (V.str.inj (of_decide_eq_true z)) (by decide)) fun _ => ?_⟩
    exact ⟨_, rfl, _, rfl, _, _, _, _, rfl, rfl, ex_t e h, rfl, k _ _ _ (Ex.refl _) (e _ _ hl) hp⟩
def MadeLT (K : PySem.W.Frag) (B H : Hp) (r : Option (Tr × Nat)) (Q : VK) : Prop :=
  (∀ tr c2 v B2 H2, r = some (tr, c2) → Stp [] B H B2 H2 → DtAt K B2 v tr → Q v H2) ∧ (r = none → ∀ B2 H2, Stp [] B H B2 H2 → Q .non H2)
def spLTree (K : PySem.W.Frag) : Sp := fun us H Q _ => ∃ (g : V) (B : Hp) (zs : Tbl) (S : List Stm), us = [g] ∧ Ex B H ∧ LGm K B g zs S ∧ GOk zs S ∧ MadeLT K B H (treeT zs S) Q
theorem fn_l_tree (T : Txt K mg) : Fn P w K mg base 31 (ga K "_law_tree") (spLTree K) := by
  refine fn_def T.d_l_tree sc_l_tree (fun _ _ _ _ _ _ us hl => match us, hl with | [_], _ => rfl) (fun vs H Q E h => ?_) (fun cdv A outer s H vs Q E hr h => ?_)
  · obtain ⟨_, _, _, _, rfl, _⟩ := h
    rfl
  obtain ⟨g, B, zs, S, rfl, e, hg, ho, k⟩ := h
  have nd := sc_l_tree.nd
  refine ⟨_, pss_cons (ps_set (i := 1) nd rfl (by first | exact Or.inl rfl | exact Or.inr rfl) (pe_dnewK))
      (pss_cons (ps_for (passes_of rfl) rfl (pi_tup (pe_ix ix_tup (pv 0) (pe_int) (fun _ _ => rfl))) (pg_tup rfl (pgs_cons (pg_name (i := 2) nd rfl (by first | exact Or.inl rfl | exact Or.inr rfl)) (pgs_cons (pg_name (i := 3) nd rfl (by first | exact Or.inl rfl | exact Or.inr rfl)) pgs_nil))) (pss_one (ps_dput (hu_of hr) (pv 1) (pv 2) (pe_int) rfl)))
      (pss_cons (ps_set (i := 4) nd rfl (by first | exact Or.inl rfl | exact Or.inr rfl) (pe_lst (pa_cons (pe_int) pa_nil)))
      (pss_cons (ps_set (i := 5) nd rfl (by first | exact Or.inl rfl | exact Or.inr rfl) (pe_fn T.d_l_node (fn_l_node T) (hr.mono (by decide)) T.g_l_node pc (pa_cons (pv 0) (pa_cons (pv 1) (pa_cons (pe_tup (pa_cons (pe_tup pa_nil) (pa_cons (pe_tup pa_nil) pa_nil))) (pa_cons (pe_int) (pa_cons (pe_ix ix_tup (pv 0) (pe_int) (fun _ _ => rfl)) (pa_cons (pv 4) pa_nil))))))))
      (pss_cons (ps_if (pt_cmpR op_gt (pe_ix ix_list (pv 4) (pe_int) (fun _ _ => rfl)) (pe_int) (nomark _)) (pss_one (ps_ret (pe_non))) (pss_nil))
      (pss_one (ps_ret (pv 5))))))), ?_⟩
  obtain ⟨gg, va, ba, o, ps, rfl, hgg, hva, hob, hps, hbl⟩ := id hg
  have hbig : (100000 : Nat) ≤ sizeLine := by decide
  refine fun p np => ?_
  have hlp : ps.length = zs.length := Paired.length hps
  have e1 : Ex B (upd H p (.dK [])) := Ex.mut e (ex_none e np)
  refine ⟨_, rfl, gg, _, _, _, rfl, rfl, ex_t e1 hgg, rfl, va, rfl, ⟨ps.map V.ref, .inl (.inr ⟨o, e1 _ _ hva⟩)⟩, for_tup (xs := ps.map V.ref) (fun i σ H' => ∃ (u2 u3 : Option V), H' = upd H p (.dK (tK (zT (zs.take i)))) ∧ σ = [some (.ref gg), some (.ref p), u2, u3, none, none]) ⟨none, none, rfl, rfl⟩ ?_ ?_ ?_⟩
  · rintro i σ H' _ ⟨_, _, rfl, rfl⟩
    exact .inl (.inr ⟨o, by rw [upd_ne (fun z => by subst z; rw [e _ _ hva] at np; cases np)]; exact e _ _ hva⟩)
  · rintro i x σ H' hx ⟨u2, u3, rfl, rfl⟩
    obtain ⟨q, hq, rfl⟩ : ∃ q, ps[i]? = some q ∧ x = .ref q := by
      rw [List.getElem?_map] at hx
      obtain ⟨q, h1, h2⟩ := Option.map_eq_some_iff.mp hx
      exact ⟨q, h1, h2.symm⟩
    obtain ⟨kv, hkv, hqt⟩ := paired_get hps hq
    have hi : i < zs.length := (List.getElem?_eq_some_iff.mp hkv).1
    have eT : Ex B (upd H p (.dK (tK (zT (zs.take i))))) := Ex.mut e (ex_none e np)
    refine ⟨q, _, rfl, ex_t eT hqt, rfl, _, _, rfl, _, _, rfl, rfl, ?_⟩
    have htk : zT (zs.take (i + 1)) = zT (zs.take i) ++ [(kv.1, 0)] := by
      unfold zT
      rw [List.take_add_one, hkv, List.map_append]
      rfl
    refine ⟨_, rfl, _, rfl, p, _, rfl, DPut.k (k := .inr kv.1) (v := .int 0) upd_same ?_, some (.str kv.1), some (.int (kv.2 : Nat)), ?_, rfl⟩
    · have := ho.n
      show (List.map _ (zT (zs.take i))).length < _
      unfold zT
      rw [List.length_map, List.length_map, List.length_take]
      omega
    · rw [upd_twice, htk, putK_new]
      · unfold tK
        rw [List.map_append]
        rfl
      · refine valV_none ?_
        rw [tK_names]
        intro hm
        obtain ⟨y, hy, e1⟩ := List.mem_map.mp hm
        cases Sum.inr.inj e1
        have h2 : kv.1 ∈ (zs.take i).map (·.1) := by
          rw [← zT_names]; exact hy
        have h3 := ho.nd
        rw [← List.take_append_drop i zs, List.map_append] at h3
        refine (List.nodup_append.mp h3).2.2 _ h2 _ ?_ rfl
        refine List.mem_map.mpr ⟨kv, ?_, rfl⟩
        rw [List.drop_eq_getElem_cons hi]
        rw [List.getElem?_eq_getElem hi] at hkv
        cases hkv
        exact List.mem_cons_self ..
  · rintro σ H' ⟨u2, u3, rfl, rfl⟩
    rw [List.length_map, hlp, List.take_length]
    have s1 := Stp.new (ms := []) (o := .dK (tK (zT zs))) e np
    refine ⟨(show 1 ≤ sizeLine by omega), fun cp ncp => ?_⟩
    have s2 := s1.nil.trans (Stp.cell (ms := [cp]) (o := .lst [.int 0]) s1.in_ ncp)
    have hcp : upd (upd H p (.dK (tK (zT zs)))) cp (.lst [.int 0]) cp = some (.lst [.int ((0 : Nat) : Int)]) := upd_same
    have bcp := ex_none s1.in_ ncp
    refine ⟨_, rfl, _, rfl, (show 0 ≤ sizeLine by omega), fun q1 nq1 => ⟨(show 0 ≤ sizeLine by omega), fun q2 nq2 => ⟨(show 2 ≤ sizeLine by omega), fun q3 nq3 => ?_⟩⟩⟩
    have t1 := Stp.new (ms := []) (o := .tup []) s2.in_ nq1
    have t2 := t1.trans (Stp.new (ms := []) (o := .tup []) t1.in_ nq2)
    have t3 := t2.trans (Stp.new (ms := []) (o := .tup [.ref q1, .ref q2]) t2.in_ nq3)
    have hq2 := (Stp.new (ms := []) (o := .tup [.ref q1, .ref q2]) t2.in_ nq3).base _ _ (upd_same (H := upd (upd B p (.dK (tK (zT zs)))) q1 (.tup [])) (a := q2) (o := .tup []))
    have hq1 := ((Stp.new (ms := []) (o := .tup []) t1.in_ nq2).trans (Stp.new (ms := []) (o := .tup [.ref q1, .ref q2]) t2.in_ nq3)).base _ _ (upd_same (H := upd B p (.dK (tK (zT zs)))) (a := q1) (o := .tup []))
    have s3 := s2.trans t3.nil
    have hcp3 := t3.fr cp _ (fun h => nomatch h) hcp
    have bcp3 := t3.off bcp hcp
    refine ⟨_, rfl, gg, _, _, _, rfl, rfl, ex_t s3.in_ (ex_t s3.base hgg), rfl, _, rfl, ?_⟩
    have hcH : H cp = none := fresh_back (Ex.new np) ncp
    have fin : ∀ (v : V) (B2 H2 : Hp) (cn : Nat), Stp [cp] B H B2 H2 → H2 cp = some (.lst [.int (cn : Nat)]) → True := fun _ _ _ _ _ _ => trivial
    refine ⟨.ref gg, p, cp, .ref q3, .ref ba, _, zs, zT zs, ([], []), 0, S, S, 0, szB S + 1, zs.map (·.1), rfl, s3.in_, bcp3, hcp3, hg.mono s3.base, t3.base _ _ upd_same, ⟨q3, q1, q2, rfl, st_of upd_same, ⟨[], st_of hq1, .nil⟩, ⟨[], st_of hq2, .nil⟩⟩, dp_mono s3.base hbl, ⟨rfl, zT_names zs, zT_ok zs, fun y hy => tGet_mem ho.z1 hy, ho.wf, (show 0 + 0 + 2 * szB S ≤ 900 by have := ho.sz; omega), (by unfold zT; rw [List.length_map]; exact ho.n)⟩, ho.n, ho.nb, Nat.lt_succ_self _, (by have := ho.sz; omega), fun tr c2 v B2 H2 h1 h2 h3 h4 => ?_, fun h1 v B2 H2 c2 h2 h3 h4 => ?_⟩
    · have hle := (treeT_ok ho h1).2
      refine ⟨_, rfl, cp, _, _, _, rfl, rfl, sq_of h3, rfl, _, _, rfl, rfl, _, rfl, ifs (fun z => absurd (of_decide_eq_true z) (by omega)) fun _ => ?_⟩
      exact ⟨_, rfl, k.1 tr c2 v B2 H2 h1 ((s3.trans h2).drop hcH) h4⟩
    · refine ⟨_, rfl, cp, _, _, _, rfl, rfl, sq_of h4, rfl, _, _, rfl, rfl, _, rfl, ifs (fun _ => ?_) fun z => absurd z (by rw [decide_eq_true (by omega)]; exact fun z => nomatch z)⟩
      exact k.2 h1 B2 H2 ((s3.trans h3).drop hcH)
end
end LL
namespace LL
open PySem PySem.Spec PyProof.Rows L2 He Evl ND
mutual
theorem nb_szS : ∀ s : Stm, nbS s ≤ szS s
  | .set _ _ => by simp [nbS, szS]
  | .draw _ _ => by simp [nbS, szS]
  | .move _ _ _ _ => by simp [nbS, szS]
  | .shw _ _ => by simp [nbS, szS]
  | .pay _ _ => by simp [nbS, szS]
  | .ite _ a b => by
    have := nb_sz a
    have := nb_sz b
    simp only [nbS, szS]
    omega
theorem nb_sz : ∀ S : List Stm, nbB S ≤ szB S
  | [] => by simp [nbB, szB]
  | s :: r => by
    have := nb_szS s
    have := nb_sz r
    simp only [nbB, szB]
    omega
end
section
variable {w : World} {K : PySem.W.Frag} {mg : Str → Option Value} {base : Heap}
theorem op_ne3 {x y z : Str} {n : Nat} (h1 : x ≠ y) (h2 : x ≠ z) (h3 : y ≠ z) : (([x, y, z] : List Str).take n).Nodup := by
  have h : ([x, y, z] : List Str).Nodup := by simp [h1, h2, h3]
  exact h.sublist (List.take_sublist _ _)
def spGame (K : PySem.W.Frag) : Sp := fun us H Q _ => ∃ (B : Hp) (p : Addr) (u mo : Int), us = [.ref p, .int 3, .int mo] ∧ Ex B H ∧ B p = none ∧ PoolN u p B H ∧ 1 ≤ mo ∧ mo ≤ 8 ∧
  ∀ (v : V) (B2 H2 : Hp) (zs : Tbl) (S : List Stm) (u2 : Int), Stp [p] B H B2 H2 → PoolN u2 p B2 H2 → LGm K B2 v zs S → GOk zs S → Q v H2
theorem fn_l_game (T : Txt K mg) : Fn P w K mg base 29 (ga K "_law_game") (spGame K) := by
  refine fn_def T.d_l_game sc_l_game (fun _ _ _ _ _ _ us hl => match us, hl with | [_, _, _], _ => rfl) (fun vs H Q E h => ?_) (fun cdv A outer s H vs Q E hr h => ?_)
  · obtain ⟨_, _, _, _, rfl, _⟩ := h
    rfl
  obtain ⟨B, p, u, mo, rfl, e, hb, hP, hm1, hm8, k⟩ := h
  have nd := sc_l_game.nd
  have hbig : (100000 : Nat) ≤ sizeLine := by decide
  refine ⟨_, pss_cons (ps_set (i := 3) nd rfl (by first | exact Or.inl rfl | exact Or.inr rfl) (pe_tup (pa_cons (pe_tup (pa_cons (pe_str) (pa_cons (pe_str) (pa_cons (pe_str) pa_nil)))) (pa_cons (pe_tup (pa_cons (pe_str) (pa_cons (pe_str) (pa_cons (pe_str) pa_nil)))) (pa_cons (pe_tup (pa_cons (pe_str) (pa_cons (pe_str) (pa_cons (pe_str) pa_nil)))) (pa_cons (pe_tup (pa_cons (pe_str) (pa_cons (pe_str) (pa_cons (pe_str) pa_nil)))) pa_nil))))))
      (pss_cons (ps_set (i := 4) nd rfl (by first | exact Or.inl rfl | exact Or.inr rfl) (pe_ix ix_tup (pv 3) (pe_fn T.d_l_draw (fn_l_draw T) (hr.mono (by decide)) T.g_l_draw pc (pa_cons (pv 0) (pa_cons (pe_int) pa_nil))) (fun _ _ => rfl)))
      (Evl.pss_cut (ps_if (pt_cmpR op_eq (pe_fn T.d_l_draw (fn_l_draw T) (hr.mono (by decide)) T.g_l_draw pc (pa_cons (pv 0) (pa_cons (pe_int) pa_nil))) (pe_int) (nomark _)) (pss_one (ps_set (i := 4) nd rfl (by first | exact Or.inl rfl | exact Or.inr rfl) (pe_fn T.d_l_alike (fn_l_alike T) (hr.mono (by decide)) T.g_l_alike pc (pa_cons (pv 0) pa_nil)))) (pss_nil))
      (pss_cons (ps_set (i := 5) nd rfl (by first | exact Or.inl rfl | exact Or.inr rfl) (pe_lst pa_nil))
      (pss_cons (ps_for (passes_of rfl) rfl (pi_range1 rfl T.f_range (pa_cons (pe_fn T.d_l_draw (fn_l_draw T) (hr.mono (by decide)) T.g_l_draw pc (pa_cons (pv 0) (pa_cons (pe_int) pa_nil))) pa_nil)) (pg_name (i := 6) nd rfl (by first | exact Or.inl rfl | exact Or.inr rfl)) (pss_cons (ps_set (i := 7) nd rfl (by first | exact Or.inl rfl | exact Or.inr rfl) (pe_ix ix_tup (pe_tup (pa_cons (pe_op op_fdivW (pe_fn T.d_l_number (fn_l_number T) (hr.mono (by decide)) T.g_l_number pc (pa_cons (pv 0) pa_nil)) (pe_int)) (pa_cons (pe_int) pa_nil))) (pe_callTy call_int1 (by rfl) T.f_int (by decide +kernel) (pa_cons (pe_cmpR op_eq (pe_fn T.d_l_draw (fn_l_draw T) (hr.mono (by decide)) T.g_l_draw pc (pa_cons (pv 0) (pa_cons (pe_int) pa_nil))) (pe_int) (nomark _)) pa_nil)) (fun _ _ => rfl)))
      (pss_one (ps_expr (pe_bm PySem.F.plainAttrs_list PySem.F.slot_list_append PySem.F.type_list_append mt_append (pv 5) (pa_cons (pe_tup (pa_cons (pe_ix ix_tup (pv 4) (pv 6) (fun _ _ => rfl)) (pa_cons (pe_op op_add (pe_int) (pe_ix ix_tup (pe_tup (pa_cons (pe_fn T.d_l_draw (fn_l_draw T) (hr.mono (by decide)) T.g_l_draw pc (pa_cons (pv 0) (pa_cons (pe_int) pa_nil))) (pa_cons (pe_fn T.d_l_draw (fn_l_draw T) (hr.mono (by decide)) T.g_l_draw pc (pa_cons (pv 0) (pa_cons (pe_int) pa_nil))) (pa_cons (pv 7) pa_nil)))) (pe_fn T.d_l_draw (fn_l_draw T) (hr.mono (by decide)) T.g_l_draw pc (pa_cons (pv 0) (pa_cons (pe_int) pa_nil))) (fun _ _ => rfl))) pa_nil))) pa_nil))))))
      (pss_cons (ps_set (i := 9) nd rfl (by first | exact Or.inl rfl | exact Or.inr rfl) (pe_disp (pps_cons (pe_str) (pe_lc (own := [("_law_row", 8)]) (g := gName 8) (tt := tYes) rfl nd (pi_list (pv 5)) (blkOk_by (N := n_l_game) (sc := defScope s_l_game) (by decide +kernel)) (fun _ _ _ _ _ => pg_name (i := 8) nd rfl (by first | exact Or.inl rfl | exact Or.inr rfl)) (fun _ _ _ _ _ => pts_nil) (fun _ _ _ _ _ => pe_ix (ixk_tup K) (pv 8) (pe_int) (fun _ _ => rfl))) (pps_cons (pe_str) (pv 1) (pps_cons (pe_str) (pv 1) (pps_cons (pe_str) (pe_op op_add (pe_int) (pe_op op_fdivW (pv 1) (pe_int))) (pps_cons (pe_str) (pv 2) (pps_cons (pe_str) (pe_int) pps_nil)))))) rfl rfl (by intro h; cases h) (by decide)))
      (pss_cons (ps_asg (pe_int) (pg_sub (pv 0) (pe_int) set_list))
      (pss_one (ps_ret (pe_tup (pa_cons (pe_callTy DTp.call_tuple_frz (by rfl) T.f_tuple (by decide +kernel) (pa_cons (pv 5) pa_nil)) (pa_cons (pe_fn T.d_l_block (fn_l_block T 4) (hr.mono (by decide)) T.g_l_block pc (pa_cons (pv 0) (pa_cons (pv 9) (pa_cons (pe_int) (pa_cons (pe_int) pa_nil))))) pa_nil))))))))))), ?_⟩
  refine ⟨(show 3 ≤ sizeLine by omega), fun a1 n1 => ⟨(show 3 ≤ sizeLine by omega), fun a2 n2 => ⟨(show 3 ≤ sizeLine by omega), fun a3 n3 => ⟨(show 3 ≤ sizeLine by omega), fun a4 n4 => ⟨(show 4 ≤ sizeLine by omega), fun a5 n5 => ?_⟩⟩⟩⟩⟩
  have t1 := Stp.new (ms := [p]) (o := .tup [V.str "x", V.str "y", V.str "z"]) e n1
  have t2 := Stp.new (ms := [p]) (o := .tup [V.str "ab", V.str "ac", V.str "abc"]) t1.in_ n2
  have t3 := Stp.new (ms := [p]) (o := .tup [V.str "secretza", V.str "secretzb", V.str "secret"]) t2.in_ n3
  have t4 := Stp.new (ms := [p]) (o := .tup [V.str "ended", V.str "payed", V.str "sets"]) t3.in_ n4
  have t5 := Stp.new (ms := [p]) (o := .tup [V.ref a1, V.ref a2, V.ref a3, V.ref a4]) t4.in_ n5
  have hP5 := PoolN.n2 (o := .tup [V.ref a1, V.ref a2, V.ref a3, V.ref a4]) (PoolN.n2 (o := .tup [V.str "ended", V.str "payed", V.str "sets"]) (PoolN.n2 (o := .tup [V.str "secretza", V.str "secretzb", V.str "secret"]) (PoolN.n2 (o := .tup [V.str "ab", V.str "ac", V.str "abc"]) (PoolN.n2 (o := .tup [V.str "x", V.str "y", V.str "z"]) hP e n1) t1.in_ n2) t2.in_ n3) t3.in_ n4) t4.in_ n5
  have h1 := (t2.trans (t3.trans (t4.trans t5))).base _ _ (upd_same (H := B) (a := a1) (o := .tup [V.str "x", V.str "y", V.str "z"]))
  have h2 := (t3.trans (t4.trans t5)).base _ _ (upd_same (a := a2) (o := .tup [V.str "ab", V.str "ac", V.str "abc"]))
  have h3 := (t4.trans t5).base _ _ (upd_same (a := a3) (o := .tup [V.str "secretza", V.str "secretzb", V.str "secret"]))
  have h4 := t5.base _ _ (upd_same (a := a4) (o := .tup [V.str "ended", V.str "payed", V.str "sets"]))
  have s5 := t1.trans (t2.trans (t3.trans (t4.trans t5)))
  have b5 := s5.off hb hP.at.choose_spec
  obtain ⟨B5, s5, b5, hP5, h1, h2, h3, h4, h5⟩ : ∃ B5 : Hp, Stp [p] B H B5 _ ∧ B5 p = none ∧ PoolN u p B5 _ ∧ B5 a1 = some (.tup [V.str "x", V.str "y", V.str "z"]) ∧ B5 a2 = some (.tup [V.str "ab", V.str "ac", V.str "abc"]) ∧ B5 a3 = some (.tup [V.str "secretza", V.str "secretzb", V.str "secret"]) ∧ B5 a4 = some (.tup [V.str "ended", V.str "payed", V.str "sets"]) ∧ B5 a5 = some (.tup [V.ref a1, V.ref a2, V.ref a3, V.ref a4]) := ⟨_, s5, b5, hP5, h1, h2, h3, h4, upd_same⟩
  refine ⟨_, rfl, _, rfl, ?_⟩
  dsimp only [tCons, tNil, tC]
  refine draw_n s5.in_ b5 hP5 (by decide) (by decide) fun r0 H6 c0 c1 s6 hP6 => ?_
  obtain ⟨na, x, y, z, hat, hna, hxy, hxz, hyz⟩ : ∃ (na : Addr) (x y z : Str), atI [V.ref a1, V.ref a2, V.ref a3, V.ref a4] r0 = some (.ref na) ∧ B5 na = some (HO.tup [V.str x, V.str y, V.str z]) ∧ x ≠ y ∧ x ≠ z ∧ y ≠ z := by
    obtain ⟨y, ey, my, _⟩ := at_get (xs := [V.ref a1, V.ref a2, V.ref a3, V.ref a4]) c0 c1
    simp only [List.mem_cons, List.not_mem_nil, or_false] at my
    rcases my with rfl | rfl | rfl | rfl
    · exact ⟨_, _, _, _, ey, h1, by decide, by decide, by decide⟩
    · exact ⟨_, _, _, _, ey, h2, by decide, by decide, by decide⟩
    · exact ⟨_, _, _, _, ey, h3, by decide, by decide, by decide⟩
    · exact ⟨_, _, _, _, ey, h4, by decide, by decide, by decide⟩
  have s56 := s5.trans s6
  refine ⟨a5, _, _, _, rfl, rfl, ex_t s6.in_ (st_of h5), hat, ?_⟩
  refine ⟨fun σ H' => ∃ (B' : Hp) (na : Addr) (x y z : Str), Stp [p] B H B' H' ∧ PoolN u p B' H' ∧ B' na = some (.tup [.str x, .str y, .str z]) ∧ x ≠ y ∧ x ≠ z ∧ y ≠ z ∧ B' p = none ∧ σ = [some (.ref p), some (.int 3), some (.int mo), some (.ref a5), some (.ref na), none, none, none, none, none], ?_, ?_⟩
  · refine ⟨_, rfl, ?_⟩
    dsimp only [tCons, tNil, tC]
    refine draw_n s56.in_ b5 hP6 (by decide) (by decide) fun r1 H7 d0 d1 s7 hP7 => ?_
    have s57 := s56.trans s7
    refine ⟨rfl, _, rfl, ite2 (fun _ => ?_) fun _ => ⟨_, na, x, y, z, s57, hP7, hna, hxy, hxz, hyz, b5, rfl⟩⟩
    refine ⟨_, rfl, _, p, u, rfl, s57.in_, b5, hP7, fun a B8 H8 x y z s8 hP8 ha h1 h2 h3 => ?_⟩
    exact ⟨B8, a, x, y, z, s57.trans s8, hP8, ha, h1, h2, h3, s8.off b5 hP7.at.choose_spec, rfl⟩
  clear hP5 hP6 h1 h2 h3 h4 h5 s5 s6 s56 t1 t2 t3 t4 t5 hna b5 hxy hxz hyz hat
  rintro σ H1 ⟨B1, na, x, y, z, s1, hP1, hna, hxy, hxz, hyz, hb1, rfl⟩
  refine ⟨(show 0 ≤ sizeLine by omega), fun c nc => ?_⟩
  have hcp : c ≠ p := hP1.ne nc
  have t2 := Stp.cell (ms := [c, p]) (o := .lst []) s1.in_ nc
  have hP2 := hP1.n1 (o := .lst []) nc
  refine ⟨_, rfl, ?_⟩
  dsimp only [tCons, tNil, tC]
  refine draw_n t2.in_ hb1 hP2 (by decide) (by decide) fun n H3 a0 a01 s3 hP3 => ?_
  obtain ⟨n, rfl⟩ : ∃ m : Nat, n = m := ⟨n.toNat, by omega⟩
  refine ⟨_, rfl, by omega, by omega, for_range (D := ⟨_, _, fun _ _ => False, fun _ _ => False⟩) (lo := 0) (n := ((n : Nat) : Int).toNat) (fun i σ H' => ∃ (B' : Hp) (ps : List Addr) (zs : Tbl) (u6 u7 : Option V), Stp [c, p] B1 (upd H1 c (.lst [])) B' H' ∧ PoolN u p B' H' ∧ B' p = none ∧ H' c = some (.lst (ps.map V.ref)) ∧ PairsAt K B' ps zs ∧ zs.map (·.1) = ([x, y, z] : List Str).take i ∧ (∀ q ∈ zs, 1 ≤ q.2 ∧ q.2 ≤ 65535) ∧
    σ = [some (.ref p), some (.int 3), some (.int mo), some (.ref a5), some (.ref na), some (.ref c), u6, u7, none, none]) ⟨B1, [], [], none, none, s3.wk (by simp), hP3, hb1, s3.fr c _ (by simpa using hcp) upd_same, .nil, rfl, fun _ h => absurd h (List.not_mem_nil), rfl⟩ ?_ ?_⟩
  · rintro i σ H4 hi ⟨B4, ps, zs, u6, u7, s4, hP4, hb4, hc4, hps, hzn, hz1, rfl⟩
    have hi3 : i < 3 := by omega
    obtain ⟨nmS, hnm⟩ : ∃ s, ([x, y, z] : List Str)[i]? = some s := ⟨_, List.getElem?_eq_getElem (by simpa using hi3)⟩
    have hcn : c ∉ [p] := by simpa using hcp
    refine ⟨_, rfl, B4, p, u, rfl, s4.in_, hb4, hP4, fun r1 H5 d0 d1 t5 hP5 => ?_⟩
    have s5 := s4.trans (t5.wk (ns := [c, p]) (by simp))
    have hc5 := t5.fr c _ hcn hc4
    refine ⟨_, _, rfl, rfl, ⟨by decide, by decide +kernel⟩, (show 2 ≤ sizeLine by omega), fun t nt => ?_⟩
    have t6 := Stp.cell (ms := []) (o := .tup [V.int (r1 / 2), V.int 65534]) s5.in_ nt
    have hP6 := hP5.stp t6 (by simp)
    have s6 := s5.trans t6.nil
    have hc6 := t6.fr c _ (by simp) hc5
    have htp : t ≠ p := hP5.ne nt
    refine ⟨_, rfl, ?_⟩
    dsimp only [tCons, tNil, tC]
    refine draw_n s6.in_ hb4 hP6 (by decide) (by decide) fun r2 H7 e0 e1 t7 hP7 => ?_
    have s7 := s6.trans (t7.wk (ns := [c, p]) (by simp))
    have hc7 := t7.fr c _ hcn hc6
    have htt := t7.fr t _ (by simpa using htp) upd_same
    refine ⟨rfl, .inr ⟨_, rfl, ?_⟩⟩
    obtain ⟨lg, hlg, l0, l1⟩ : ∃ lg : Int, atI [V.int (r1 / 2), V.int 65534] (if decide (V.int r2 = V.int 0) = true then 1 else 0) = some (.int lg) ∧ 0 ≤ lg ∧ lg ≤ 65534 := by
      cases decide (V.int r2 = V.int 0) with
      | true => exact ⟨65534, rfl, by omega, by omega⟩
      | false => exact ⟨r1 / 2, rfl, by omega, by omega⟩
    refine ⟨t, _, _, _, rfl, rfl, st_of htt, hlg, ?_⟩
    have sna := ex_t (K := K) s7.in_ (ex_t s7.base (st_of hna))
    refine ⟨_, rfl, .inl ⟨rfl, _, sq_of hc7⟩, _, rfl, _, rfl, na, _, _, .str nmS, rfl, rfl, sna, ?_, ?_⟩
    · show atI [V.str x, V.str y, V.str z] ((0 : Int) + (i : Nat)) = _
      rw [Int.zero_add]
      unfold atI
      rw [ixN_nat (by show i < 3; exact hi3)]
      have : ([V.str x, V.str y, V.str z] : List V) = ([x, y, z] : List Str).map V.str := rfl
      show ([V.str x, V.str y, V.str z] : List V)[i]? = _
      rw [this, List.getElem?_map, hnm]
      rfl
    refine ⟨_, rfl, ?_⟩
    dsimp only [tCons, tNil, tC]
    refine draw_n s7.in_ hb4 hP7 (by decide) (by decide) fun r3 H8 f0 f1 t8 hP8 => ?_
    have s8 := s7.trans (t8.wk (ns := [c, p]) (by simp))
    have hc8 := t8.fr c _ hcn hc7
    refine ⟨_, rfl, ?_⟩
    refine draw_n s8.in_ hb4 hP8 (by decide) (by decide) fun r4 H9 g0 g1 t9 hP9 => ?_
    have s9 := s8.trans (t9.wk (ns := [c, p]) (by simp))
    have hc9 := t9.fr c _ hcn hc8
    refine ⟨_, rfl, (show 3 ≤ sizeLine by omega), fun t' nt' => ?_⟩
    have t10 := Stp.cell (ms := []) (o := .tup [V.int r3, V.int r4, V.int lg]) s9.in_ nt'
    have hP10 := hP9.stp t10 (by simp)
    have s10 := s9.trans t10.nil
    have hc10 := t10.fr c _ (by simp) hc9
    have htp' : t' ≠ p := hP9.ne nt'
    refine ⟨_, rfl, ?_⟩
    refine draw_n s10.in_ hb4 hP10 (by decide) (by decide) fun r5 H11 h0 h1 t11 hP11 => ?_
    have s11 := s10.trans (t11.wk (ns := [c, p]) (by simp))
    have hc11 := t11.fr c _ hcn hc10
    have htt' := t11.fr t' _ (by simpa using htp') upd_same
    obtain ⟨j, hj, j0, j1⟩ : ∃ j : Nat, atI [V.int r3, V.int r4, V.int lg] r5 = some (.int (j : Nat)) ∧ 0 ≤ j ∧ j ≤ 65534 := by
      obtain ⟨y', ey, my⟩ := at3 (a := .int r3) (b := .int r4) (c := .int lg) h0 h1
      rcases my with rfl | rfl | rfl
      · exact ⟨r3.toNat, by rw [ey, Int.toNat_of_nonneg f0], by omega, by omega⟩
      · exact ⟨r4.toNat, by rw [ey, Int.toNat_of_nonneg g0], by omega, by omega⟩
      · exact ⟨lg.toNat, by rw [ey, Int.toNat_of_nonneg l0], by omega, by omega⟩
    refine ⟨t', _, _, _, rfl, rfl, st_of htt', hj, _, _, rfl, rfl, (show 2 ≤ sizeLine by omega), fun q nq => ?_⟩
    have t12 := Stp.new (ms := []) (o := .tup [V.str nmS, V.int ((1 : Int) + (j : Nat))]) s11.in_ nq
    have hP12 := hP11.stp t12 (by simp)
    have s12 := s11.trans t12.nil
    have hc12 := t12.fr c _ (by simp) hc11
    have hcb : _ = none := s12.off (ex_none s1.in_ nc) upd_same
    have hpl : ps.length = zs.length := Paired.length hps
    have hzl : zs.length ≤ 3 := by
      have := congrArg List.length hzn
      rw [List.length_map, List.length_take] at this
      omega
    refine ⟨c, _, _, rfl, rfl, hc12, by rw [List.length_map]; omega, _, ps ++ [q], zs ++ [(nmS, 1 + j)], some (.int ((0 : Int) + (i : Nat))), some (.int lg), s12.trans (Stp.put s12.in_ hcb (.head _)), hP12.p1 hcp, t12.off hb4 hP11.at.choose_spec, ?_, ?_, ?_, ?_, rfl⟩
    · rw [upd_same, List.map_append]; rfl
    · exact Paired.snoc (hps.mono t12.base) (st_of (by rw [upd_same]; congr 3))
    · rw [List.map_append, hzn, List.take_add_one, hnm]; rfl
    · intro q' hq'
      rcases List.mem_append.mp hq' with h | h
      · exact hz1 q' h
      · rw [List.mem_singleton.mp h]; exact ⟨by show 1 ≤ 1 + j; omega, by show 1 + j ≤ 65535; omega⟩
  · rintro σ H4 ⟨B4, ps, zs, u6, u7, s4, hP4, hb4, hc4, hps, hzn, hz1, rfl⟩
    have hpl : ps.length = zs.length := Paired.length hps
    have hzl : zs.length ≤ 3 := by
      have := congrArg List.length hzn
      rw [List.length_map, List.length_take] at this
      simp at this
      omega
    have hndz : (zs.map (·.1)).Nodup := by rw [hzn]; exact op_ne3 hxy hxz hyz
    have hcb : B4 c = none := s4.off (ex_none s1.in_ nc) upd_same
    refine fun q nq => ?_
    have hqp : q ≠ p := hP4.ne nq
    have hqc : q ≠ c := fun z => by subst z; rw [hc4] at nq; cases nq
    have hqB := ex_none s4.in_ nq
    have t5 := Stp.cell (ms := []) (o := .dK []) s4.in_ nq
    have hP5 := hP4.stp t5 (by simp)
    have hc5 := t5.fr c _ (by simp) hc4
    refine ⟨_, rfl, c, rfl, ⟨_, sq_of hc5⟩, fun D2 nD2 => lc_list (xs := ps.map V.ref) (fun i H' => upd (upd H4 q (.dK [])) D2 (.lst (((zs.map (·.1)).take i).map V.str)) = H') rfl ?_ ?_ ?_⟩
    · rintro i H' _ rfl
      exact sq_of ((upd_ne (fun z => by subst z; rw [hc5] at nD2; cases nD2)).trans hc5)
    · rintro i xx H' hx rfl
      obtain ⟨qq, hq, rfl⟩ : ∃ qq, ps[i]? = some qq ∧ xx = .ref qq := by
        rw [List.getElem?_map] at hx
        obtain ⟨q, h1, h2⟩ := Option.map_eq_some_iff.mp hx
        exact ⟨q, h1, h2.symm⟩
      obtain ⟨kv, hkv, hqt⟩ := paired_get hps hq
      have exx : Ex B4 (upd (upd H4 q (.dK [])) D2 (.lst (((zs.map (·.1)).take i).map V.str))) := t5.in_.trans (Ex.new nD2)
      refine ⟨rfl, yes_if ?_⟩
      refine ⟨_, rfl, qq, _, _, _, rfl, rfl, ex_t exx hqt, rfl, _, upd_same, (by rw [List.length_map, List.length_take, List.length_map]; omega), ?_⟩
      rw [upd_twice, List.take_add_one, List.getElem?_map, hkv, List.map_append]
      rfl
    rintro H5 rfl
    rw [List.length_map, hpl, show zs.length = (zs.map (·.1)).length by rw [List.length_map], List.take_length]
    have hD2q : D2 ≠ q := fun z => by subst z; rw [upd_same] at nD2; cases nD2
    have t6 := Stp.new (ms := []) (o := .lst ((zs.map (·.1)).map V.str)) t5.in_ nD2
    have hP6 := hP5.stp t6 (by simp)
    have hc6 := t6.fr c _ (by simp) hc5
    have hb5 : B4 p = none := hb4
    have hb6 := t6.off hb5 hP5.at.choose_spec
    have hq6 : (upd (upd H4 q (.dK [])) D2 (.lst ((zs.map (·.1)).map V.str))) q = some (.dK []) := by rw [upd_ne hD2q.symm]; exact upd_same
    have hqB6 := t6.off hqB upd_same
    refine ⟨_, rfl, _, rfl, _, rfl, _, _, rfl, rfl, ⟨by decide, by decide +kernel⟩, _, _, rfl, rfl, _, rfl, hq6, [(.inr "names", .ref D2), (.inr "choose", .int 3), (.inr "come", .int 3), (.inr "draw", .int (1 + 3 / 3)), (.inr "most", .int mo), (.inr "next", .int 0)], rfl, (by show 6 ≤ 15; decide), ?_⟩
    rw [show mergeK [] [(.inr "names", .ref D2), (.inr "choose", .int 3), (.inr "come", .int 3), (.inr "draw", .int (1 + 3 / 3)), (.inr "most", .int mo), (.inr "next", .int 0)] = scL D2 3 3 2 mo 0 from rfl]
    have t7 := Stp.put (ms := [q]) (o := .dK (scL D2 3 3 2 mo 0)) t6.in_ hqB6 (.head _)
    have hP7 := hP6.stp t7 (by simpa using hqp.symm)
    have hc7 := t7.fr c _ (by simpa using hqc.symm) hc6
    have hD27 : _ = some (HO.lst ((zs.map (·.1)).map V.str)) := t7.base _ _ (upd_same (H := B4) (a := D2) (o := .lst ((zs.map (·.1)).map V.str)))
    have hS7 : Scp q D2 (zs.map (·.1)) mo _ (upd (upd (upd H4 q (.dK [])) D2 (.lst ((zs.map (·.1)).map V.str))) q (.dK (scL D2 3 3 2 mo 0))) := ⟨3, 3, 2, 0, upd_same, hD27, hqB6, hm1, hm8⟩
    obtain ⟨⟨cells, at_, ix, big, st, run, bud⟩, hl7, hc7', hz7, _⟩ := hP7
    refine ⟨_, rfl, p, _, _, _, rfl, rfl, hl7, rfl, ?_⟩
    have t8 := Stp.put (ms := [p]) (o := .lst (Pl.l ⟨cells, at_, ix, big, st, run, 14⟩)) t7.in_ hb6 (.head _)
    have hP8 : PoolN 14 p _ (upd (upd (upd (upd H4 q (.dK [])) D2 (.lst ((zs.map (·.1)).map V.str))) q (.dK (scL D2 3 3 2 mo 0))) p (.lst (Pl.l ⟨cells, at_, ix, big, st, run, 14⟩))) := ⟨⟨cells, at_, ix, big, st, run, 14⟩, upd_same, hc7', hz7, rfl⟩
    have hS8 := hS7.stp t8 (by simpa using hqp)
    have hc8 := t8.fr c _ (by simpa using hcp) hc7
    refine ⟨_, rfl, c, _, rfl, sq_of hc8, fun l o nl ho => ?_⟩
    have t9 := Stp.new (ms := []) (o := .frz o (.tup (ps.map V.ref))) t8.in_ nl
    have hP9 := hP8.stp t9 (by simp)
    have hS9 := hS8.stp t9 (by simp)
    have hb9 := t9.off hb6 hP8.at.choose_spec
    have hc9 := t9.fr c _ (by simp) hc8
    refine ⟨_, rfl, _, rfl, _, p, q, D2, zs.map (·.1), mo, 14, 9, rfl, t9.in_, hb9, hP9, hS9, (by rw [List.length_map]; omega), by decide, by decide, fun v B10 H10 ds u10 t10 hP10 hS10 hd10 ⟨S, eS, wfS_, szS_⟩ => ?_⟩
    subst eS
    refine ⟨(show 2 ≤ sizeLine by omega), fun g ng => ?_⟩
    have t11 := Stp.new (ms := []) (o := .tup [.ref l, v]) t10.in_ ng
    have hP11 := hP10.stp t11 (by simp)
    -- the whole way
    have hqH : (upd H1 c (.lst [])) q = none := by
      cases hh : (upd H1 c (.lst [])) q with
      | none => rfl
      | some o => exact absurd nq (s4.al q (by rw [hh]; exact fun z => nomatch z))
    have wt := (s4.wk (ns := [q, c, p]) (by simp)).trans (t5.nil.trans (t6.nil.trans ((t7.wk (ns := [q, c, p]) (by simp)).trans ((t8.wk (ns := [q, c, p]) (by simp)).trans (t9.nil.trans ((t10.wk (ns := [q, c, p]) (by simp)).trans t11.nil))))))
    have wf := s1.trans (Stp.with nc (wt.drop hqH))
    have e9 := (t5.base.trans (t6.base.trans (t7.base.trans t8.base)))
    have e911 := t10.base.trans t11.base
    have hl9 := e911 _ _ (upd_same (a := l) (o := .frz o (.tup (ps.map V.ref))))
    have hps9 := hps.mono (e9.trans (t9.base.trans e911))
    have hsb : szB S ≤ 14 := by
      have : (14 : Int).toNat = 14 := rfl
      omega
    refine k (.ref g) _ _ zs S u10 wf hP11 ?_ ⟨hndz, wfS_, hz1, Nat.le_trans (nb_sz S) hsb, by omega, by omega⟩
    obtain ⟨ba, bxs, rfl, _⟩ := dp_tupK hd10
    exact ⟨g, l, ba, o, ps, rfl, st_of upd_same, hl9, ho, hps9, dp_mono t11.base hd10⟩
end
end LL
namespace LL
open PySem PySem.Spec PyProof.Rows L2 He Evl ND
section
variable {w : World} {K : PySem.W.Frag} {mg : Str → Option Value} {base : Heap}
/-- a node of the law's tree that is no end -/
theorem data_of {B : Hp} {v : V} {t : Tr} (h : DtAt K B v t) (hn : ¬ isFin t) : ∃ (a : Addr) (hd : Str) (r : List V), v = .ref a ∧ SqT K B a (.str hd :: r) ∧ hd ≠ "end" := by
  cases h with
  | fin _ => exact absurd trivial hn
  | lot h _ _ => exact ⟨_, _, _, rfl, h, by decide⟩
  | mov h _ _ _ => exact ⟨_, _, _, rfl, h, by decide⟩
theorem dpT_part {t s : Tr} {d i : Nat} (hf : ¬ isFin t) (hd : dpT t ≤ d) (hs : (partsT t)[i]? = some s) : ∃ n, d = n + 1 ∧ dpT s ≤ n := by
  rw [dp_parts hf] at hd
  have := dpTs_mem (List.mem_of_getElem? hs)
  exact ⟨d - 1, by omega, by omega⟩
theorem ends_take {ps : List Tr} {i : Nat} {s : Tr} (hs : ps[i]? = some s) : endsTs (ps.take (i + 1)) = endsTs (ps.take i) ++ endsT s ∧ (endsTs (ps.take (i + 1))).length ≤ (endsTs ps).length := by
  constructor
  · rw [List.take_add_one, hs, endsTs_app]
    show _ ++ endsTs [s] = _
    rw [endsTs, endsTs, List.append_nil]
  · conv => rhs; rw [← List.take_append_drop (i + 1) ps, endsTs_app, List.length_append]
    omega
def spAll (K : PySem.W.Frag) (d : Nat) : Sp := fun us H Q _ => ∃ (v : V) (t : Tr), us = [v] ∧ DtAt K H v t ∧ dpT t ≤ d ∧ (endsT t).length ≤ 1000 ∧ ∀ l H2, H l = none → Ex H H2 → H2 l = some (.lst ((endsT t).map V.int)) → Q (.ref l) H2
def spAllP (K : PySem.W.Frag) : Nat → Sp
  | 0 => fun _ _ _ _ => False
  | n + 1 => spAll K n
theorem fn_all1 (T : Txt K mg) (d : Nat) (IH : Fn P w K mg base (2 + d) (ga K "_law_all") (spAllP K d)) : Fn P w K mg base (2 + d + 1) (ga K "_law_all") (spAll K d) := by
  refine fn_def T.d_l_all sc_l_all (fun _ _ _ _ _ _ us hl => match us, hl with | [_], _ => rfl) (fun vs H Q E h => ?_) (fun cdv A outer s H vs Q E hr h => ?_)
  · obtain ⟨_, _, rfl, _⟩ := h
    rfl
  obtain ⟨v, t, rfl, ht, hd, hl, k⟩ := h
  have nd := sc_l_all.nd
  have hr1 : Room 1 _ := hr.mono (by omega)
  have hbig : (100000 : Nat) ≤ sizeLine := by decide
  refine ⟨_, pss_cons (ps_if (pt_cmpR op_eq (pe_ix ix_tup (pv 0) (pe_int) (fun _ _ => rfl)) (pe_str) (nomark _)) (pss_one (ps_ret (pe_lst (pa_cons (pe_ix ix_tup (pv 0) (pe_int) (fun _ _ => rfl)) pa_nil)))) (pss_nil))
      (pss_cons (ps_set (i := 1) nd rfl (by first | exact Or.inl rfl | exact Or.inr rfl) (pe_lst pa_nil))
      (pss_cons (ps_for (passes_of rfl) rfl (pi_list (pe_fn T.d_l_parts (fn_l_parts T) hr1 T.g_l_parts pc (pa_cons (pv 0) pa_nil))) (pg_name (i := 2) nd rfl (by first | exact Or.inl rfl | exact Or.inr rfl)) (pss_one (ps_set (i := 1) nd rfl (by first | exact Or.inl rfl | exact Or.inr rfl) (pe_op op_cat (pv 1) (pe_fn T.d_l_all IH hr T.g_l_all pc (pa_cons (pv 2) pa_nil))))))
      (pss_one (ps_ret (pv 1))))), ?_⟩
  by_cases hf : isFin t
  · cases ht with
    | lot _ _ _ => exact hf.elim
    | mov _ _ _ _ => exact hf.elim
    | @fin a pd h =>
      refine ⟨_, rfl, _, _, _, _, rfl, rfl, h, rfl, rfl, _, rfl, ifs (fun _ => ?_) fun z => absurd rfl (of_decide_eq_false z)⟩
      refine ⟨_, rfl, _, _, _, _, rfl, rfl, h, rfl, (show 1 ≤ sizeLine by omega), fun l nl => k l _ nl (Ex.new nl) ?_⟩
      rw [upd_same, endsT]
      rfl
  obtain ⟨a, hd0, rr, rfl, ha, hne⟩ := data_of ht hf
  rw [ends_parts hf] at k hl
  refine ⟨_, rfl, _, _, _, _, rfl, rfl, ha, at0, rfl, _, rfl, ifs (fun z => absurd (V.str.inj (of_decide_eq_true z)) hne) fun _ => ?_⟩
  refine ⟨(show 0 ≤ sizeLine by omega), fun L nL => ?_⟩
  have e1 : Ex H (upd H L (.lst [])) := Ex.new nL
  refine ⟨_, rfl, .ref a, t, H, rfl, e1, ht, fun l vs H1 e2 hl1 hvs => ⟨l, rfl, ⟨vs, sq_of hl1⟩, for_list (xs := vs) (fun i σ H' => ∃ (u2 : Option V) (L2 : Addr), Ex H1 H' ∧ H L2 = none ∧ H' L2 = some (.lst ((endsTs ((partsT t).take i)).map V.int)) ∧ σ = [some (.ref a), some (.ref L2), u2]) ⟨none, L, Ex.refl _, nL, e2 _ _ upd_same, rfl⟩ ?_ ?_ ?_⟩⟩
  · rintro i σ H' _ ⟨_, _, e, _⟩
    exact sq_of (e _ _ hl1)
  · rintro i y σ H' hy ⟨u2, L2, e, nL2, hL2, rfl⟩
    obtain ⟨s, hs, hys⟩ := hvs.get hy
    obtain ⟨n, rfl, hdn⟩ := dpT_part hf hd hs
    obtain ⟨htk, hle⟩ := ends_take hs
    have e0 := (e1.trans e2).trans e
    refine ⟨_, rfl, _, rfl, y, s, rfl, hys.mono e0, hdn, ?_, fun l3 H3 nl3 e3 hl3 => ?_⟩
    · rw [htk, List.length_append] at hle
      omega
    · refine ⟨L2, l3, _, _, rfl, rfl, e3 _ _ hL2, hl3, ?_, fun p np => ?_⟩
      · rw [← List.length_append, ← List.map_append, ← htk, List.length_map]
        omega
      · refine ⟨some y, p, e.trans (e3.trans (Ex.new np)), fresh_back (e0.trans e3) np, ?_, rfl⟩
        rw [upd_same, ← List.map_append, ← htk]
  · rintro σ H' ⟨u2, L2, e, nL2, hL2, rfl⟩
    rw [hvs.len, List.take_length] at hL2
    exact ⟨_, rfl, k L2 H' nL2 ((e1.trans e2).trans e) hL2⟩
theorem fn_allP (T : Txt K mg) : ∀ d, Fn P w K mg base (2 + d) (ga K "_law_all") (spAllP K d)
  | 0 => fun _ _ _ _ _ _ _ _ _ _ _ h => h.elim
  | d + 1 => fn_all1 T d (fn_allP T d)
theorem fn_l_all (T : Txt K mg) : Fn P w K mg base 22 (ga K "_law_all") (spAll K 14) := (fn_allP T 15).mono (by decide)
end
end LL
namespace LL
open PySem PySem.Spec PyProof.Rows L2 He Evl ND
section
variable {w : World} {K : PySem.W.Frag} {mg : Str → Option Value} {base : Heap}
theorem views_take {c : Bool} {acc : List VN} {ps : List Tr} {i : Nat} {s : Tr} (hs : ps[i]? = some s) : viewsTs c acc (ps.take (i + 1)) = viewsT c (viewsTs c acc (ps.take i)) s ∧ (viewsTs c acc (ps.take (i + 1))).length ≤ (viewsTs c acc ps).length := by
  constructor
  · rw [List.take_add_one, hs, viewsTs_app]
    show viewsTs c _ [s] = _
    rw [viewsTs, viewsTs]
  · conv => rhs; rw [← List.take_append_drop (i + 1) ps, viewsTs_app]
    exact viewsTs_le _ _ _
theorem lst_nd {H : Hp} {l F : Addr} {vs : List V} {kvs : List NE} {P : Program} {w : World} {a : Addr} (h1 : H l = some (.lst vs)) (h2 : H F = some (NDo P w a kvs)) : l ≠ F := fun z => by
  subst z
  rw [h1] at h2
  have h2 : HO.lst vs = HO.ext _ := Option.some.inj h2
  cases h2
def spLViews (w : World) (K : PySem.W.Frag) (d : Nat) : Sp := fun us H Q _ => ∃ (v : V) (c : Bool) (F : Addr) (B : Hp) (t : Tr) (acc : List VN) (kvs : List NE), us = [v, .str (seatS c), .ref F] ∧ Ex B H ∧ B F = none ∧ H F = some (NDo P w F kvs) ∧ VkAt K B kvs acc ∧ DtAt K B v t ∧ dpT t ≤ d ∧ (viewsT c acc t).length ≤ 1000 ∧
  ∀ B2 H2 kvs2, Stp [F] B H B2 H2 → H2 F = some (NDo P w F kvs2) → VkAt K B2 kvs2 (viewsT c acc t) → Q (.ref F) H2
def spLViewsP (w : World) (K : PySem.W.Frag) : Nat → Sp
  | 0 => fun _ _ _ _ => False
  | n + 1 => spLViews w K n
theorem fn_lv1 (T : Txt K mg) (d : Nat) (IH : Fn P w K mg base (2 + d) (ga K "_law_views") (spLViewsP w K d)) : Fn P w K mg base (2 + d + 1) (ga K "_law_views") (spLViews w K d) := by
  refine fn_def T.d_l_views sc_l_views (fun _ _ _ _ _ _ us hl => match us, hl with | [_, _, _], _ => rfl) (fun vs H Q E h => ?_) (fun cdv A outer s H vs Q E hr h => ?_)
  · obtain ⟨_, _, _, _, _, _, _, rfl, _⟩ := h
    rfl
  obtain ⟨v, c, F, B, t, acc, kvs, rfl, e, bF, hF, hkv, ht, hd, hl, k⟩ := h
  have nd := sc_l_views.nd
  have hr1 : Room 1 _ := hr.mono (by omega)
  have hbig : (100000 : Nat) ≤ sizeLine := by decide
  refine ⟨_, Evl.pss_cut (ps_if (PW.pt (pw_and (pt_cmpR op_eq (pe_ix ix_tup (pv 0) (pe_int) (fun _ _ => rfl)) (pe_str) (nomark _)) (pw_and (pt_cmpR op_eq (pe_ix ix_tup (pv 0) (pe_int) (fun _ _ => rfl)) (pv 1) (nomark _)) (pw_and1 (pt_cmpR (ND.op_notIn hr.units) (pe_ix ix_tup (pv 0) (pe_int) (fun _ _ => rfl)) (pv 2) rfl))))) (pss_one (ND.ps_put hr.units (pv 2) (pe_ix ix_tup (pv 0) (pe_int) (fun _ _ => rfl)) (pe_callB call_len_seq (by rfl) T.f_len PySem.boot_len (pa_cons (pe_ix ix_tup (pv 0) (pe_int) (fun _ _ => rfl)) pa_nil)) rfl)) (pss_nil))
      (pss_cons (ps_for (passes_of rfl) rfl (pi_list (pe_fn T.d_l_parts (fn_l_parts T) hr1 T.g_l_parts pc (pa_cons (pv 0) pa_nil))) (pg_name (i := 3) nd rfl (by first | exact Or.inl rfl | exact Or.inr rfl)) (pss_one (ps_expr (pe_fn T.d_l_views IH hr T.g_l_views pc (pa_cons (pv 3) (pa_cons (pv 1) (pa_cons (pv 2) pa_nil)))))))
      (pss_one (ps_ret (pv 2)))), ?_⟩
  rw [viewsT_parts] at hl k
  have hkl : kvs.length = acc.length := Paired.length hkv
  have hle : (vadd c acc t).length ≤ 1000 := Nat.le_trans (viewsTs_le c (partsT t) _) hl
  have hla : acc.length ≤ (vadd c acc t).length := by
    cases t with
    | fin _ => exact Nat.le_refl _
    | lot _ => exact Nat.le_refl _
    | mov b v ps =>
      show _ ≤ (if b = c then vput acc v ps.length else acc).length
      split
      · exact vput_le _ _ _
      · exact Nat.le_refl _
  refine ⟨fun σ H' => ∃ kvs2, Stp [F] B H B H' ∧ H' F = some (NDo P w F kvs2) ∧ VkAt K B kvs2 (vadd c acc t) ∧ σ = [some v, some (.str (seatS c)), some (.ref F), none], ?_, ?_⟩
  · cases ht with
    | fin h =>
      refine ⟨_, rfl, _, _, _, _, rfl, rfl, ex_t e h, rfl, rfl, _, rfl, ifs (fun z => absurd (V.str.inj (of_decide_eq_true z)) (by decide)) fun _ => ?_⟩
      exact iteF ⟨kvs, Stp.refl e, hF, hkv, rfl⟩
    | lot h _ _ =>
      refine ⟨_, rfl, _, _, _, _, rfl, rfl, ex_t e h, rfl, rfl, _, rfl, ifs (fun z => absurd (V.str.inj (of_decide_eq_true z)) (by decide)) fun _ => ?_⟩
      exact iteF ⟨kvs, Stp.refl e, hF, hkv, rfl⟩
    | @mov a bm lm cm vm vsm psm h hb2 hlm hp2 =>
      have sx := ex_t e h
      refine ⟨_, rfl, _, _, _, _, rfl, rfl, sx, rfl, rfl, _, rfl, ifs (fun _ => ?_) fun z => absurd rfl (of_decide_eq_false z)⟩
      refine ⟨_, rfl, _, _, _, _, rfl, rfl, sx, rfl, _, rfl, rfl, _, rfl, ifs (fun hc => ?_) fun hc => ?_⟩
      · have hcc : cm = c := by
          have := V.str.inj (of_decide_eq_true hc)
          cases cm <;> cases c <;> first | rfl | exact absurd this (by decide)
        have hva : vadd c acc (.mov cm vm psm) = vput acc vm psm.length := if_pos hcc
        obtain ⟨xsv, hxsv, hpv⟩ := hb2
        have hkey := view_key hxsv hpv
        refine ⟨_, rfl, _, _, _, _, rfl, rfl, sx, rfl, _, rfl, F, bm, viewK vm, kvs, rfl, rfl, .inl hF, (hkv.mono e).ks, key_mono hkey e, _, rfl, ?_⟩
        cases hg : (nGet kvs (viewK vm)).isSome with
        | true =>
          have hm := (VkAt.get hkv).mp hg
          refine iteF ⟨kvs, Stp.refl e, hF, ?_, rfl⟩
          rw [hva]
          unfold vput
          rw [if_pos hm]
          exact hkv
        | false =>
          have hm : ¬ vm ∈ acc.map (·.1) := fun z => by
            have := (VkAt.get hkv).mpr z
            rw [hg] at this
            cases this
          have hno : nGet kvs (viewK vm) = none := by
            cases hx : nGet kvs (viewK vm) with
            | none => rfl
            | some u => rw [hx] at hg; cases hg
          refine iteT ⟨_, rfl, _, _, _, _, rfl, rfl, sx, rfl, lm, vsm, rfl, .inl (sq_of (e _ _ hlm)), _, rfl, _, rfl, _, _, _, _, rfl, rfl, sx, rfl, F, bm, viewK vm, kvs, rfl, rfl, hF, (hkv.mono e).ks, key_mono hkey e, by omega, ?_⟩
          refine ⟨_, Stp.put e bF (.head _), upd_same, ?_, rfl⟩
          rw [nPut_new hno, hva]
          unfold vput
          rw [if_neg hm]
          exact Paired.snoc hkv ⟨rfl, by rw [hp2.len], hkey⟩
      · have hcc : ¬ cm = c := fun z => of_decide_eq_false hc (by rw [z])
        refine iteF ⟨kvs, Stp.refl e, hF, ?_, rfl⟩
        rw [show vadd c acc (.mov cm vm psm) = acc from if_neg hcc]
        exact hkv
  · rintro σ H' ⟨kvs2, s1, hF1, hkv1, rfl⟩
    refine ⟨_, rfl, v, t, B, rfl, s1.in_, ht, fun l vs H1 e2 hl1 hvs => ⟨l, rfl, ⟨vs, sq_of hl1⟩, for_list (xs := vs) (fun i σ H' => ∃ (B2 : Hp) (kvs : List NE) (u3 : Option V), Stp [F] B H B2 H' ∧ H' l = some (.lst vs) ∧ H' F = some (NDo P w F kvs) ∧ VkAt K B2 kvs (viewsTs c (vadd c acc t) ((partsT t).take i)) ∧ σ = [some v, some (.str (seatS c)), some (.ref F), u3]) ⟨B, kvs2, none, s1.trans (Stp.ofEx s1.in_ e2), hl1, e2 _ _ hF1, hkv1, rfl⟩ ?_ ?_ ?_⟩⟩
    · rintro i σ H' _ ⟨_, _, _, _, h, _⟩
      exact sq_of h
    · rintro i y σ H' hy ⟨B2, kvs3, u3, s2, hl2, hF2, hkv2, rfl⟩
      obtain ⟨s, hs, hys⟩ := hvs.get hy
      have hf : ¬ isFin t := fun hf => by
        cases t with
        | fin _ => cases hs
        | lot _ => exact hf
        | mov _ _ _ => exact hf
      obtain ⟨n, rfl, hdn⟩ := dpT_part hf hd hs
      obtain ⟨htk, hle2⟩ := views_take (c := c) (acc := vadd c acc t) hs
      refine ⟨_, rfl, _, rfl, _, rfl, y, c, F, B2, s, _, kvs3, rfl, s2.in_, s2.off bF hF, hF2, hkv2, hys.mono s2.base, hdn, (by rw [← htk]; omega), fun B3 H3 kvs4 s3 hF3 hkv3 => ?_⟩
      refine ⟨B3, kvs4, some y, s2.trans s3, s3.fr l _ (by simpa using lst_nd hl2 hF2) hl2, hF3, ?_, rfl⟩
      rw [htk]
      exact hkv3
    · rintro σ H' ⟨B2, kvs3, u3, s2, hl2, hF2, hkv2, rfl⟩
      rw [hvs.len, List.take_length] at hkv2
      exact ⟨_, rfl, k B2 H' kvs3 s2 hF2 hkv2⟩
theorem fn_lvP (T : Txt K mg) : ∀ d, Fn P w K mg base (2 + d) (ga K "_law_views") (spLViewsP w K d)
  | 0 => fun _ _ _ _ _ _ _ _ _ _ _ h => h.elim
  | d + 1 => fn_lv1 T d (fn_lvP T d)
theorem fn_l_views (T : Txt K mg) : Fn P w K mg base 22 (ga K "_law_views") (spLViews w K 14) := (fn_lvP T 15).mono (by decide)
end
end LL
namespace LL
open PySem PySem.Spec PyProof.Rows L2 He Evl ND
/-! ### views of trees are short -/
def EvsOk (v : List Evt) : Prop := v.length ≤ 1000 ∧ ∀ e ∈ v, e.2.length ≤ 10
mutual
def TrWf : Tr → Prop
  | .fin _ => True
  | .lot ps => TrsWf ps
  | .mov _ v ps => EvsOk v ∧ TrsWf ps
def TrsWf : List Tr → Prop
  | [] => True
  | t :: r => TrWf t ∧ TrsWf r
end
theorem TrsWf.mem : ∀ {ts : List Tr} {t : Tr}, TrsWf ts → t ∈ ts → TrWf t
  | s :: ts, t, h, hm => by
    rw [TrsWf] at h
    rcases List.mem_cons.mp hm with rfl | hm
    · exact h.1
    · exact TrsWf.mem h.2 hm
theorem TrWf.parts {t : Tr} (h : TrWf t) : TrsWf (partsT t) := by
  cases t with
  | fin _ => rw [partsT, TrsWf]; trivial
  | lot ps => rw [TrWf] at h; exact h
  | mov b v ps => rw [TrWf] at h; exact h.2
def VwsOk (vw : Vws) : Prop := (∀ e ∈ vw.1, e.2.length ≤ 10) ∧ ∀ e ∈ vw.2, e.2.length ≤ 10
theorem VwsOk.add {vw : Vws} {b : Bool} {e : Evt} (h : VwsOk vw) (he : e.2.length ≤ 10) : VwsOk (vAdd b e vw) := by
  cases b with
  | false => exact ⟨fun x hx => by
      rcases List.mem_append.mp hx with hx | hx
      · exact h.1 x hx
      · rw [List.mem_singleton.mp hx]; exact he, h.2⟩
  | true => exact ⟨h.1, fun x hx => by
      rcases List.mem_append.mp hx with hx | hx
      · exact h.2 x hx
      · rw [List.mem_singleton.mp hx]; exact he⟩
theorem VwsOk.get {vw : Vws} {b : Bool} (h : VwsOk vw) (hl : vw.1.length + vw.2.length ≤ 1000) : EvsOk (vGet b vw) := by
  cases b with
  | false => exact ⟨by show vw.1.length ≤ 1000; omega, h.1⟩
  | true => exact ⟨by show vw.2.length ≤ 1000; omega, h.2⟩
theorem partsF_wf {F : Nat → Nat → Option (Tr × Nat)} (h : ∀ i c tr c2, F i c = some (tr, c2) → TrWf tr) : ∀ (n i c : Nat) (ts : List Tr) (c2 : Nat), partsF F n i c = some (ts, c2) → TrsWf ts
  | 0, i, c, ts, c2, e => by
    rw [partsF] at e
    cases e
    rw [TrsWf]
    trivial
  | n + 1, i, c, ts, c2, e => by
    rw [partsF] at e
    cases hF : F i c with
    | none => rw [hF] at e; cases e
    | some p =>
      obtain ⟨t, c1⟩ := p
      rw [hF] at e
      have e : (match partsF F n (i + 1) c1 with | none => none | some (ts, c2) => some (t :: ts, c2)) = some (ts, c2) := e
      cases hP : partsF F n (i + 1) c1 with
      | none => rw [hP] at e; cases e
      | some q =>
        obtain ⟨ts', c3⟩ := q
        rw [hP] at e
        cases e
        rw [TrsWf]
        exact ⟨h i c t c1 hF, partsF_wf h n (i + 1) c1 ts' _ hP⟩
theorem goT_wf (zs : Tbl) : ∀ (f : Nat) (t : Tbl) (vw : Vws) (pd : Int) (S : List Stm) (c : Nat) (tr : Tr) (c2 : Nat), VwsOk vw → vw.1.length + vw.2.length + 2 * szB S ≤ 900 → goT zs f t vw pd S c = some (tr, c2) → TrWf tr
  | 0, _, _, _, _, _, _, _, _, _, h => by rw [goT] at h; cases h
  | f + 1, t, vw, pd, [], c, tr, c2, ho, hl, h => by
    rw [goT] at h
    cases h
    rw [TrWf]
    trivial
  | f + 1, t, vw, pd, .set x e :: S, c, tr, c2, ho, hl, h => by
    rw [szB] at hl
    exact goT_wf zs f _ _ _ S c tr c2 ho (by omega) (show goT zs f _ _ _ S c = _ from h)
  | f + 1, t, vw, pd, .shw b e :: S, c, tr, c2, ho, hl, h => by
    rw [szB] at hl
    have h1 : szS (.shw b e) = 1 := rfl
    have h2 : (vAdd b ("shown", [exV t e]) vw).1.length + (vAdd b ("shown", [exV t e]) vw).2.length = vw.1.length + vw.2.length + 1 := vw_add
    exact goT_wf zs f _ _ _ S c tr c2 (ho.add (by show 1 ≤ 10; omega)) (by omega) (show goT zs f _ _ _ S c = _ from h)
  | f + 1, t, vw, pd, .pay b e :: S, c, tr, c2, ho, hl, h => by
    rw [szB] at hl
    exact goT_wf zs f _ _ _ S c tr c2 ho (by omega) (show goT zs f _ _ _ S c = _ from h)
  | f + 1, t, vw, pd, .ite e A B :: S, c, tr, c2, ho, hl, h => by
    refine goT_wf zs f _ _ _ ((if exV t e ≠ 0 then A else B) ++ S) c tr c2 ho ?_ (show goT zs f _ _ _ ((if exV t e ≠ 0 then A else B) ++ S) c = _ from h)
    rw [szB, szS] at hl
    rw [szB_app]
    split <;> omega
  | f + 1, t, vw, pd, .draw x n :: S, c, tr, c2, ho, hl, h => by
    have h : (partsF (fun i c => if c + 1 > 400 then none else goT zs f (LL.tPut t x (i % LL.tGet zs x)) vw pd S (c + 1)) n 0 c).map (fun p => (Tr.lot p.1, p.2)) = some (tr, c2) := h
    obtain ⟨p, hp, e⟩ := Option.map_eq_some_iff.mp h
    obtain ⟨ts, c3⟩ := p
    cases e
    rw [szB] at hl
    rw [TrWf]
    exact partsF_wf (fun i c tr c2 hF => by
      have hF : (if c + 1 > 400 then none else goT zs f (LL.tPut t x (i % LL.tGet zs x)) vw pd S (c + 1)) = some (tr, c2) := hF
      by_cases hc : c + 1 > 400
      · rw [if_pos hc] at hF; cases hF
      · rw [if_neg hc] at hF
        exact goT_wf zs f _ _ _ S (c + 1) tr c2 ho (by omega) hF) n 0 c ts _ hp
  | f + 1, t, vw, pd, .move b x n kk :: S, c, tr, c2, ho, hl, h => by
    have h : (partsF (fun i c => if c + 1 > 400 then none else goT zs f (LL.tPut t x (i % LL.tGet zs x)) (vAdd b ("did", [i]) (vAdd b ("asked", [kk, n]) vw)) pd S (c + 1)) n 0 c).map (fun p => (Tr.mov b (vGet b (vAdd b ("asked", [kk, n]) vw)) p.1, p.2)) = some (tr, c2) := h
    obtain ⟨p, hp, e⟩ := Option.map_eq_some_iff.mp h
    obtain ⟨ts, c3⟩ := p
    cases e
    rw [szB] at hl
    have h1 : szS (.move b x n kk) = 1 := rfl
    have va : ∀ (e : Evt) (v : Vws), (vAdd b e v).1.length + (vAdd b e v).2.length = v.1.length + v.2.length + 1 := fun e v => vw_add
    have h2 := va ("asked", [kk, n]) vw
    have ho2 := ho.add (b := b) (e := ("asked", [kk, n])) (by show 2 ≤ 10; omega)
    rw [TrWf]
    refine ⟨ho2.get (by omega), partsF_wf (fun i c tr c2 hF => by
      have hF : (if c + 1 > 400 then none else goT zs f (LL.tPut t x (i % LL.tGet zs x)) (vAdd b ("did", [i]) (vAdd b ("asked", [kk, n]) vw)) pd S (c + 1)) = some (tr, c2) := hF
      have h3 := va ("did", [i]) (vAdd b ("asked", [kk, n]) vw)
      by_cases hc : c + 1 > 400
      · rw [if_pos hc] at hF; cases hF
      · rw [if_neg hc] at hF
        exact goT_wf zs f _ _ _ S (c + 1) tr c2 (ho2.add (by show 1 ≤ 10; omega)) (by omega) hF) n 0 c ts _ hp⟩
theorem treeT_wf {zs : Tbl} {S : List Stm} {tr : Tr} {c : Nat} (ho : GOk zs S) (h : treeT zs S = some (tr, c)) : TrWf tr := by
  have h : (if 0 + 1 > 400 then none else goT zs (szB S + 1) (zT zs) ([], []) 0 S (0 + 1)) = some (tr, c) := h
  rw [if_neg (by decide)] at h
  exact goT_wf zs _ _ _ _ _ _ _ _ (show VwsOk ([], []) from ⟨fun _ h => absurd h (List.not_mem_nil), fun _ h => absurd h (List.not_mem_nil)⟩) (by show 0 + 0 + 2 * szB S ≤ 900; have := ho.sz; omega) h
end LL
namespace LL
open PySem PySem.Spec PyProof.Rows L2 He Evl ND
section
variable {w : World} {K : PySem.W.Frag} {mg : Str → Option Value} {base : Heap}
def spHand (K : PySem.W.Frag) (d : Nat) : Sp := fun us H Q _ => ∃ (v : V) (B : Hp) (t : Tr), us = [v] ∧ Ex B H ∧ DtAt K B v t ∧ dpT t ≤ d ∧ ndT t ≤ 1000 ∧ ∀ v2 B2 H2, Stp [] B H B2 H2 → TrAt K B2 v2 t → Q v2 H2
def spHandP (K : PySem.W.Frag) : Nat → Sp
  | 0 => fun _ _ _ _ => False
  | n + 1 => spHand K n
theorem TrsAt.take {B : Hp} {us : List V} {ps : List Tr} {i : Nat} {s : Tr} {v : V} (h : TrsAt K B us (ps.take i)) (hs : ps[i]? = some s) (hv : TrAt K B v s) : TrsAt K B (us ++ [v]) (ps.take (i + 1)) := by
  rw [List.take_add_one, hs]
  exact h.snoc hv
theorem nd_mem : ∀ {ts : List Tr} {t : Tr}, t ∈ ts → ndT t ≤ ndTs ts
  | s :: ts, t, h => by
    rw [ndTs]
    rcases List.mem_cons.mp h with rfl | h
    · omega
    · have := nd_mem h
      omega
theorem fn_hand1 (T : Txt K mg) (d : Nat) (IH : Fn P w K mg base (3 + d) (ga K "_law_by_hand") (spHandP K d)) : Fn P w K mg base (3 + d + 1) (ga K "_law_by_hand") (spHand K d) := by
  refine fn_def T.d_l_by_hand sc_l_by_hand (fun _ _ _ _ _ _ us hl => match us, hl with | [_], _ => rfl) (fun vs H Q E h => ?_) (fun cdv A outer s H vs Q E hr h => ?_)
  · obtain ⟨_, _, _, rfl, _⟩ := h
    rfl
  obtain ⟨v, B, t, rfl, e, ht, hd, hn, k⟩ := h
  have nd := sc_l_by_hand.nd
  have hr1 : Room 1 _ := hr.mono (by omega)
  have hr2 : Room 2 _ := hr.mono (by omega)
  have hbig : (100000 : Nat) ≤ sizeLine := by decide
  refine ⟨_, pss_cons (ps_if (pt_cmpR op_eq (pe_ix ix_tup (pv 0) (pe_int) (fun _ _ => rfl)) (pe_str) (nomark _)) (pss_one (ps_ret (StX.pe_makeR T.m_End (fn_End_init T) hr2 rfl T.g_End pc (pa_cons (pe_ix ix_tup (pv 0) (pe_int) (fun _ _ => rfl)) pa_nil)))) (pss_nil))
      (pss_cons (ps_set (i := 2) nd rfl (by first | exact Or.inl rfl | exact Or.inr rfl) (pe_callTy call_tuple_of (by rfl) T.f_tuple (by decide +kernel) (pa_cons (pe_lc (own := [("_law_part", 1)]) (g := gName 1) (tt := tYes) rfl nd (pi_list (pe_fn T.d_l_parts (fn_l_parts T) hr1 T.g_l_parts pc (pa_cons (pv 0) pa_nil))) (blkOk_by (N := n_l_by_hand) (sc := defScope s_l_by_hand) (by decide +kernel)) (fun _ _ _ _ _ => pg_name (i := 1) nd rfl (by first | exact Or.inl rfl | exact Or.inr rfl)) (fun _ _ _ _ _ => pts_nil) (fun _ _ _ _ _ => pe_fn T.d_l_by_hand IH hr T.g_l_by_hand pcF (pa_cons (pv 1) pa_nil))) pa_nil)))
      (pss_cons (ps_if (pt_cmpR op_eq (pe_ix ix_tup (pv 0) (pe_int) (fun _ _ => rfl)) (pe_str) (nomark _)) (pss_one (ps_ret (StX.pe_makeR T.m_Lot (fn_Lot_init T) hr2 rfl T.g_Lot pc (pa_cons (pv 2) pa_nil)))) (pss_nil))
      (pss_one (ps_ret (StX.pe_makeR T.m_Move (fn_Move_init T) hr2 rfl T.g_Move pc (pa_cons (pe_ix ix_tup (pv 0) (pe_int) (fun _ _ => rfl)) (pa_cons (pe_ix ix_tup (pv 0) (pe_int) (fun _ _ => rfl)) (pa_cons (pv 2) pa_nil)))))))), ?_⟩
  by_cases hf : isFin t
  · cases ht with
    | lot _ _ _ => exact hf.elim
    | mov _ _ _ _ => exact hf.elim
    | @fin a pd h =>
      refine ⟨_, rfl, _, _, _, _, rfl, rfl, ex_t e h, rfl, rfl, _, rfl, ifs (fun _ => ?_) fun z => absurd rfl (of_decide_eq_false z)⟩
      refine ⟨_, rfl, _, _, _, _, rfl, rfl, ex_t e h, rfl, fun x1 dx1 nx1 ndx1 ne1 => ⟨x1, dx1, pd, rfl, upd_same, rfl, ?_⟩⟩
      rw [upd_twice]
      exact k _ _ _ (Stp.made (ms := []) (C := ga K "End") (fs := [("paid", .int pd)]) e nx1 ndx1 ne1) (.fin upd_same)
  obtain ⟨a, hd0, rr, rfl, ha, hne⟩ := data_of ht hf
  refine ⟨_, rfl, _, _, _, _, rfl, rfl, ex_t e ha, at0, rfl, _, rfl, ifs (fun z => absurd (V.str.inj (of_decide_eq_true z)) hne) fun _ => ?_⟩
  refine ⟨_, rfl, .ref a, t, B, rfl, e, ht, fun l vs H1 e2 hl1 hvs => ⟨l, rfl, ⟨vs, sq_of hl1⟩, fun D nD => ?_⟩⟩
  have s1 := Stp.ofEx (ms := []) e e2
  have eD : Ex B (upd H1 D (.lst [])) := Ex.mut s1.in_ (ex_none s1.in_ nD)
  have hlD : l ≠ D := fun z => by subst z; rw [hl1] at nD; cases nD
  have hnp := nd_parts t
  have hpl := len_ndTs (partsT t)
  refine lc_it (te := fun σ H Q => tCons (tVar 1) tNil σ H fun vs H1 => spHandP K d vs H1 Q fun _ _ _ => False) (walk_list (xs := vs)) (fun i H' => ∃ (B' : Hp) (us : List V), Stp [D] B (upd H1 D (.lst [])) B' H' ∧ H' D = some (.lst us) ∧ B' D = none ∧ TrsAt K B' us ((partsT t).take i)) ⟨B, [], Stp.refl eD, upd_same, ex_none s1.in_ nD, .nil⟩ (fun i H' _ z => ?_) (fun i y H' H'' hi z hy => ?_) (fun H' z => ?_)
  · obtain ⟨B', us, s2, _⟩ := z
    exact sq_of (s2.fr l _ (by simpa using hlD) ((upd_ne hlD).trans hl1))
  · obtain ⟨B', us, s2, hD, bD, htr⟩ := z
    obtain ⟨rfl, hy⟩ := hy
    obtain ⟨s, hs, hys⟩ := hvs.get hy
    obtain ⟨n, rfl, hdn⟩ := dpT_part hf hd hs
    have hsn := nd_mem (List.mem_of_getElem? hs)
    have hul := htr.len
    rw [List.length_take] at hul
    refine ⟨rfl, yes_if ?_⟩
    refine ⟨_, rfl, y, B', s, rfl, s2.in_, hys.mono s2.base, hdn, by omega, fun v2 B2 H2 s3 hv2 => ?_⟩
    have hD2 := s3.fr D _ (fun h => nomatch h) hD
    have bD2 := s3.off bD hD
    exact ⟨us, hD2, by omega, B2, us ++ [v2], (s2.trans s3.nil).trans (Stp.put s3.in_ bD2 (.head _)), upd_same, bD2, (htr.mono s3.base).take hs hv2⟩
  · obtain ⟨B', us, s2, hD, bD, htr⟩ := z
    rw [hvs.len, List.take_length] at htr
    have cl := Stp.close s1.in_ nD s2 hD
    have s3 := s1.trans cl
    have htr := htr.mono (Ex.new (o := .lst us) bD)
    refine ⟨D, us, rfl, .inl ⟨sq_of hD, fun l2 nl2 => ?_⟩⟩
    have s4 := s3.trans (Stp.new (ms := []) (o := .tup us) s3.in_ nl2)
    have t4 := (Stp.new (ms := []) (o := .tup us) s3.in_ nl2)
    cases ht with
    | fin _ => exact absurd trivial hf
    | @lot _ _ _ ps h hl hp =>
      refine ⟨_, rfl, _, _, _, _, rfl, rfl, ex_t s4.in_ (ex_t s4.base h), rfl, rfl, _, rfl, ifs (fun _ => ?_) fun z => absurd rfl (of_decide_eq_false z)⟩
      refine ⟨_, rfl, fun x1 dx1 nx1 ndx1 ne1 => ⟨x1, dx1, l2, rfl, upd_same, rfl, ?_⟩⟩
      rw [upd_twice]
      have s5 := Stp.made (ms := []) (C := ga K "Lot") (fs := [("parts", .ref l2)]) s4.in_ nx1 ndx1 ne1
      exact k _ _ _ (s4.trans s5) (.lot upd_same (st_of (s5.base _ _ upd_same)) ((htr.mono t4.base).mono s5.base))
    | @mov _ bm lm cm vm _ ps h hb hl hp =>
      refine ⟨_, rfl, _, _, _, _, rfl, rfl, ex_t s4.in_ (ex_t s4.base h), rfl, rfl, _, rfl, ifs (fun z => absurd (V.str.inj (of_decide_eq_true z)) (by decide)) fun _ => ?_⟩
      have sx := ex_t s4.in_ (ex_t s4.base h)
      refine ⟨_, rfl, _, _, _, _, rfl, rfl, sx, rfl, _, rfl, _, _, _, _, rfl, rfl, sx, rfl, _, rfl, fun x1 dx1 nx1 ndx1 ne1 => ⟨x1, dx1, bm, l2, seatS cm, rfl, upd_same, rfl, ?_⟩⟩
      rw [upd_twice]
      have s5 := Stp.made (ms := []) (C := ga K "Move") (fs := [("seat", .str (seatS cm)), ("view", .ref bm), ("parts", .ref l2)]) s4.in_ nx1 ndx1 ne1
      exact k _ _ _ (s4.trans s5) (.mov upd_same (hb.mono (s4.trans s5).base) (st_of (s5.base _ _ upd_same)) ((htr.mono t4.base).mono s5.base))
theorem fn_handP (T : Txt K mg) : ∀ d, Fn P w K mg base (3 + d) (ga K "_law_by_hand") (spHandP K d)
  | 0 => fun _ _ _ _ _ _ _ _ _ _ _ h => h.elim
  | d + 1 => fn_hand1 T d (fn_handP T d)
theorem fn_l_by_hand (T : Txt K mg) : Fn P w K mg base 22 (ga K "_law_by_hand") (spHand K 14) := (fn_handP T 15).mono (by decide)
end
end LL
namespace LL
open PySem PySem.Spec PyProof.Rows L2 He Evl ND
section
variable {w : World} {K : PySem.W.Frag} {mg : Str → Option Value} {base : Heap}
def spLike (K : PySem.W.Frag) (d : Nat) : Sp := fun us H Q _ => ∃ (v u : V) (t : Tr), us = [v, u] ∧ TrAt K H v t ∧ DtAt K H u t ∧ dpT t ≤ d ∧ ndT t ≤ 1000 ∧ TrWf t ∧ ∀ H2, Ex H H2 → Q (.bl true) H2
def spLikeP (K : PySem.W.Frag) : Nat → Sp
  | 0 => fun _ _ _ _ => False
  | n + 1 => spLike K n
theorem vw_dp {B : Hp} {b : Addr} {v : List Evt} (h : VwAt K B b v) : Dp K B (.ref b) (viewD v) := by
  obtain ⟨xs, h1, h2⟩ := h
  have := (view_key h1 h2).2.2
  rw [view_data] at this
  exact this
theorem vw_dep {v : List Evt} (h : EvsOk v) : Dep 3 (viewD v) := by
  refine ⟨by rw [List.length_map]; have := h.1; omega, fun d hd => ?_⟩
  obtain ⟨e, he, rfl⟩ := List.mem_map.mp hd
  have := h.2 e he
  refine ⟨by simp; omega, fun x hx => ?_⟩
  rcases List.mem_cons.mp hx with rfl | hx
  · trivial
  · obtain ⟨n, _, rfl⟩ := List.mem_map.mp hx
    trivial
theorem dep_up : ∀ {n : Nat} {d : PyData}, Dep n d → Dep (n + 1) d
  | 0, .list _, h => h.elim
  | 0, .tuple _, h => h.elim
  | n + 1, .list ds, h => ⟨h.1, fun d hd => dep_up (h.2 d hd)⟩
  | n + 1, .tuple ds, h => ⟨h.1, fun d hd => dep_up (h.2 d hd)⟩
  | 0, .dict _, h => h.elim
  | n + 1, .dict _, h => h.elim
  | _, .none, _ => trivial
  | _, .bool _, _ => trivial
  | _, .int _, _ => trivial
  | _, .str _, _ => trivial
theorem fn_like1 (T : Txt K mg) (d : Nat) (IH : Fn P w K mg base (6 + d) (ga K "_law_like") (spLikeP K d)) : Fn P w K mg base (6 + d + 1) (ga K "_law_like") (spLike K d) := by
  refine fn_def T.d_l_like sc_l_like (fun _ _ _ _ _ _ us hl => match us, hl with | [_, _], _ => rfl) (fun vs H Q E h => ?_) (fun cdv A outer s H vs Q E hr h => ?_)
  · obtain ⟨_, _, _, rfl, _⟩ := h
    rfl
  obtain ⟨v, u, t, rfl, hv, ht, hd, hn, hw, k⟩ := h
  have nd := sc_l_like.nd
  have hr1 : Room 1 _ := hr.mono (by omega)
  have hr6 : Room 6 _ := hr.mono (by omega)
  have hbig : (100000 : Nat) ≤ sizeLine := by decide
  refine ⟨_, pss_cons (ps_if (pt_cmpR op_eq (pe_ix ix_tup (pv 1) (pe_int) (fun _ _ => rfl)) (pe_str) (nomark _)) (pss_one (ps_ret (pe_and (pe_callB call_isi (by rfl) T.f_isinstance (by decide +kernel) (pa_cons (pv 0) (pa_cons (pe_gr T.g_End) pa_nil))) (pe_one (pe_fn T.d_l_same (fn_l_same T 5) hr6 T.g_l_same pc (pa_cons (pe_fld (pv 0) rfl) (pa_cons (pe_ix ix_tup (pv 1) (pe_int) (fun _ _ => rfl)) pa_nil))))))) (pss_nil))
      (pss_cons (ps_set (i := 2) nd rfl (by first | exact Or.inl rfl | exact Or.inr rfl) (pe_fn T.d_l_parts (fn_l_parts T) hr1 T.g_l_parts pc (pa_cons (pv 1) pa_nil)))
      (Evl.pss_cut (ps_if (pt_cmpR op_eq (pe_ix ix_tup (pv 1) (pe_int) (fun _ _ => rfl)) (pe_str) (nomark _)) (pss_one (ps_if (pt_not (pt_val (pe_callB call_isi (by rfl) T.f_isinstance (by decide +kernel) (pa_cons (pv 0) (pa_cons (pe_gr T.g_Lot) pa_nil))))) (pss_one (ps_ret (pe_bl))) (pss_nil))) (pss_one (ps_if (PW.pt (pw_or (pt_not (pt_val (pe_callB call_isi (by rfl) T.f_isinstance (by decide +kernel) (pa_cons (pv 0) (pa_cons (pe_gr T.g_Move) pa_nil))))) (pw_or1 (pt_not (pt_val (pe_fn T.d_l_same (fn_l_same T 5) hr6 T.g_l_same pc (pa_cons (pe_lst (pa_cons (pe_fld (pv 0) rfl) (pa_cons (pe_fld (pv 0) rfl) pa_nil))) (pa_cons (pe_lst (pa_cons (pe_ix ix_tup (pv 1) (pe_int) (fun _ _ => rfl)) (pa_cons (pe_ix ix_tup (pv 1) (pe_int) (fun _ _ => rfl)) pa_nil))) pa_nil)))))))) (pss_one (ps_ret (pe_bl))) (pss_nil))))
      (pss_cons (ps_if (PW.pt (pw_or (pt_not (pt_val (pe_callB call_isi (by rfl) T.f_isinstance (by decide +kernel) (pa_cons (pe_fld (pv 0) rfl) (pa_cons (pe_bltn (v := .ty "tuple") rfl T.f_tuple (by decide +kernel) rfl) pa_nil))))) (pw_or1 (pt_cmpR op_ne (pe_callB call_len_seq (by rfl) T.f_len PySem.boot_len (pa_cons (pe_fld (pv 0) rfl) pa_nil)) (pe_callB call_len_seq (by rfl) T.f_len PySem.boot_len (pa_cons (pv 2) pa_nil)) (nomark _))))) (pss_one (ps_ret (pe_bl))) (pss_nil))
      (pss_cons (ps_for (passes_of rfl) rfl (pi_range1 rfl T.f_range (pa_cons (pe_callB call_len_seq (by rfl) T.f_len PySem.boot_len (pa_cons (pv 2) pa_nil)) pa_nil)) (pg_name (i := 3) nd rfl (by first | exact Or.inl rfl | exact Or.inr rfl)) (pss_one (ps_if (pt_not (pt_val (pe_fn T.d_l_like IH hr T.g_l_like pc (pa_cons (pe_ix ix_tup (pe_fld (pv 0) rfl) (pv 3) (fun _ _ => rfl)) (pa_cons (pe_ix ix_list (pv 2) (pv 3) (fun _ _ => rfl)) pa_nil))))) (pss_one (ps_ret (pe_bl))) (pss_nil))))
      (pss_one (ps_ret (pe_bl))))))), ?_⟩
  by_cases hf : isFin t
  · cases ht with
    | lot _ _ _ => exact hf.elim
    | mov _ _ _ _ => exact hf.elim
    | @fin a pd h =>
      cases hv with
      | @fin x dx _ hx =>
      refine ⟨_, rfl, _, _, _, _, rfl, rfl, h, rfl, rfl, _, rfl, ifs (fun _ => ?_) fun z => absurd rfl (of_decide_eq_false z)⟩
      refine ⟨_, rfl, _, _, _, _, _, rfl, ClsV.own _, TyX.base (TyOf.ins hx T.c_End T.oc_End T.og T.ot T.om_End), T.ki_End_End, true, rfl, iteT ?_⟩
      refine ⟨_, rfl, x, _, _, _, _, rfl, hx, T.c_End, T.a_End_paid, rfl, _, rfl, _, _, _, _, rfl, rfl, h, rfl, ?_⟩
      refine ⟨.int pd, .int pd, .int pd, .int pd, rfl, .int _, .int _, trivial, fun H' e' => ?_⟩
      rw [same_t rfl]
      exact k H' e'
  obtain ⟨a, hd0, rr, rfl, ha, hne⟩ := data_of ht hf
  obtain ⟨x, dx, C, pa, fs, vs, rfl, hx, hC, hA, hlk, hpa, hp, hty, hki⟩ := node_of T hv hf
  refine ⟨_, rfl, _, _, _, _, rfl, rfl, ha, at0, rfl, _, rfl, ifs (fun z => absurd (V.str.inj (of_decide_eq_true z)) hne) fun _ => ?_⟩
  refine ⟨_, rfl, .ref a, t, H, rfl, Ex.refl _, ht, fun l us H1 e1 hl1 hus => ?_⟩
  refine ⟨fun σ H' => Ex H H' ∧ H' l = some (.lst us) ∧ σ = [some (.ref x), some (.ref a), some (.ref l), none], ?_, ?_⟩
  · cases ht with
    | fin _ => exact absurd trivial hf
    | @lot _ _ _ ps h hl hp2 =>
      cases hv with
      | @lot x' dx' pa' _ _ hx' ha' hp' =>
        have sx := ex_t e1 h
        refine ⟨_, rfl, _, _, _, _, rfl, rfl, sx, rfl, rfl, _, rfl, ifs (fun _ => ?_) fun z => absurd rfl (of_decide_eq_false z)⟩
        refine ⟨_, rfl, _, _, _, _, _, rfl, ClsV.own _, TyX.base (TyOf.ins (e1 _ _ hx') T.c_Lot T.oc_Lot T.og T.ot T.om_Lot), T.ki_Lot_Lot, true, rfl, ?_⟩
        exact iteF ⟨e1, hl1, rfl⟩
    | @mov _ bm lm cm vm _ ps h hb hl hp2 =>
      cases hv with
      | @mov x' dx' pa' vb' _ _ _ _ hx' hb' ha' hp' =>
        have sx := ex_t e1 h
        rw [TrWf] at hw
        refine ⟨_, rfl, _, _, _, _, rfl, rfl, sx, rfl, rfl, _, rfl, ifs (fun z => absurd (V.str.inj (of_decide_eq_true z)) (by decide)) fun _ => ?_⟩
        refine ⟨_, rfl, _, _, _, _, _, rfl, ClsV.own _, TyX.base (TyOf.ins (e1 _ _ hx') T.c_Move T.oc_Move T.og T.ot T.om_Move), T.ki_Move_Move, true, rfl, iteF ?_⟩
        have hx1 := e1 _ _ hx'
        refine ⟨_, rfl, _, _, _, _, _, rfl, hx1, T.c_Move, T.a_Move_seat, rfl, _, rfl, _, _, _, _, _, rfl, hx1, T.c_Move, T.a_Move_view, rfl, (show 2 ≤ sizeLine by omega), fun q1 nq1 => ?_⟩
        have e2 := e1.trans (Ex.new (o := .lst [.str (seatS cm), .ref vb']) nq1)
        have sx2 := ex_t (Ex.new (o := .lst [.str (seatS cm), .ref vb']) nq1) sx
        refine ⟨_, rfl, _, _, _, _, rfl, rfl, sx2, rfl, _, rfl, _, _, _, _, rfl, rfl, sx2, rfl, (show 2 ≤ sizeLine by omega), fun q2 nq2 => ?_⟩
        have e3 := e2.trans (Ex.new (o := .lst [.str (seatS cm), .ref bm]) nq2)
        refine ⟨.ref q1, .ref q2, .list [.str (seatS cm), viewD vm], .list [.str (seatS cm), viewD vm], rfl, .lst (sq_of ((Ex.new nq2) _ _ upd_same)) (.cons (.str _) (.cons (dp_mono e3 (vw_dp hb')) .nil)), .lst (sq_of upd_same) (.cons (.str _) (.cons (dp_mono e3 (vw_dp hb)) .nil)), ⟨(by show 2 ≤ 100000; omega), fun d hd => ?_⟩, fun H' e' => ?_⟩
        · rcases List.mem_cons.mp hd with rfl | hd
          · trivial
          · rw [List.mem_singleton.mp hd]
            exact dep_up (vw_dep hw.1)
        · rw [same_t rfl]
          refine ⟨true, rfl, ?_⟩
          have e4 := (Ex.new (o := .lst [.str (seatS cm), .ref vb']) nq1).trans ((Ex.new (o := .lst [.str (seatS cm), .ref bm]) nq2).trans e')
          exact iteF ⟨e3.trans e', e4 _ _ hl1, rfl⟩
  · rintro σ H' ⟨e2, hl2, rfl⟩
    have htup : TyX K H' (.ref pa) (.type "tuple") := by
      rcases ex_t e2 hpa with (h | ⟨o, h⟩) | ⟨o, its, n, h, c, _⟩
      · exact .base (.tup h)
      · exact .fTuple h
      · exact .kTuple h c
    have hlu : vs.length = us.length := by rw [hp.len, hus.len]
    refine ⟨_, rfl, x, _, _, _, _, rfl, e2 _ _ hx, hC, hA, hlk, _, _, _, _, _, rfl, ClsV.ty _, htup, kit_tup (.tuple []), true, rfl, iteF ?_⟩
    refine ⟨_, rfl, x, _, _, _, _, rfl, e2 _ _ hx, hC, hA, hlk, pa, vs, rfl, .inr (ex_t e2 hpa), _, rfl, l, us, rfl, .inl (sq_of hl2), rfl, _, rfl, ?_⟩
    rw [hlu, decide_eq_true rfl]
    refine iteF ?_
    have hnp := nd_parts t
    have hpl := len_ndTs (partsT t)
    have hul := hus.len
    refine ⟨_, rfl, l, us, rfl, .inl (sq_of hl2), us.length, rfl, by omega, by omega, for_range (lo := 0) (n := us.length) (fun i σ H' => ∃ u3, Ex H H' ∧ H' l = some (.lst us) ∧ σ = [some (.ref x), some (.ref a), some (.ref l), u3]) ⟨none, e2, hl2, rfl⟩ (fun i σ H2 hi z => ?_) (fun σ H2 z => ?_)⟩
    · obtain ⟨u3, e3, hl3, rfl⟩ := z
      obtain ⟨s, hs, hys⟩ := hus.get (List.getElem?_eq_getElem hi)
      have hiv : i < vs.length := by omega
      obtain ⟨s', hs', hyv⟩ := hp.get (List.getElem?_eq_getElem hiv)
      rw [hs] at hs'
      cases hs'
      obtain ⟨n, rfl, hdn⟩ := dpT_part hf hd hs
      have hm := List.mem_of_getElem? hs
      have hsn := nd_mem hm
      have hat : atI vs ((0 : Int) + (i : Nat)) = some vs[i] := by
        rw [Int.zero_add]
        unfold atI
        rw [ixN_nat hiv]
        simp [hiv]
      have hau : atI us ((0 : Int) + (i : Nat)) = some us[i] := by
        rw [Int.zero_add]
        unfold atI
        rw [ixN_nat hi]
        simp [hi]
      refine ⟨_, rfl, x, _, _, _, _, rfl, e3 _ _ hx, hC, hA, hlk, _, rfl, pa, _, _, _, rfl, rfl, ex_t e3 hpa, hat, _, rfl, _, rfl, l, _, _, _, rfl, rfl, sq_of hl3, hau, ?_⟩
      refine ⟨vs[i], us[i], s, rfl, hyv.mono e3, hys.mono e3, hdn, by omega, hw.parts.mem hm, fun H3 e4 => ⟨true, rfl, iteF ⟨_, e3.trans e4, e4 _ _ hl3, rfl⟩⟩⟩
    · obtain ⟨u3, e3, hl3, rfl⟩ := z
      exact k H2 e3
theorem fn_likeP (T : Txt K mg) : ∀ d, Fn P w K mg base (6 + d) (ga K "_law_like") (spLikeP K d)
  | 0 => fun _ _ _ _ _ _ _ _ _ _ _ h => h.elim
  | d + 1 => fn_like1 T d (fn_likeP T d)
theorem fn_l_like (T : Txt K mg) : Fn P w K mg base 24 (ga K "_law_like") (spLike K 14) := (fn_likeP T 15).mono (by decide)
end
end LL
namespace LL
open PySem PySem.Spec PyProof.Rows L2 He Evl ND
theorem vput_nd {acc : List VN} {v : List Evt} {n : Nat} (h : (acc.map (·.1)).Nodup) : ((vput acc v n).map (·.1)).Nodup := by
  unfold vput
  split
  · exact h
  · rename_i hv
    rw [List.map_append, List.nodup_append]
    exact ⟨h, by simp, fun a ha b hb e => hv (by
      rw [List.map_cons, List.map_nil, List.mem_singleton] at hb
      rw [show v = a from (e.trans hb).symm]; exact ha)⟩
mutual
theorem views_nodup (c : Bool) : ∀ (t : Tr) (acc : List VN), (acc.map (·.1)).Nodup → ((viewsT c acc t).map (·.1)).Nodup
  | .fin _, acc, h => by rw [viewsT]; exact h
  | .lot ps, acc, h => by rw [viewsT]; exact viewss_nodup c ps acc h
  | .mov b v ps, acc, h => by
    rw [viewsT]
    refine viewss_nodup c ps _ ?_
    split
    · exact vput_nd h
    · exact h
theorem viewss_nodup (c : Bool) : ∀ (ts : List Tr) (acc : List VN), (acc.map (·.1)).Nodup → ((viewsTs c acc ts).map (·.1)).Nodup
  | [], acc, h => by rw [viewsTs]; exact h
  | t :: r, acc, h => by rw [viewsTs]; exact viewss_nodup c r _ (views_nodup c t acc h)
end
theorem vput_ok {acc : List VN} {v : List Evt} {n : Nat} (h : ∀ p ∈ acc, EvsOk p.1) (hv : EvsOk v) : ∀ p ∈ vput acc v n, EvsOk p.1 := by
  intro p hp
  unfold vput at hp
  split at hp
  · exact h p hp
  · rcases List.mem_append.mp hp with hp | hp
    · exact h p hp
    · rw [List.mem_singleton.mp hp]; exact hv
mutual
theorem views_ok (c : Bool) : ∀ (t : Tr) (acc : List VN), TrWf t → (∀ p ∈ acc, EvsOk p.1) → ∀ p ∈ viewsT c acc t, EvsOk p.1
  | .fin _, acc, _, h => by rw [viewsT]; exact h
  | .lot ps, acc, w, h => by
    rw [TrWf] at w
    rw [viewsT]
    exact viewss_ok c ps acc w h
  | .mov b v ps, acc, w, h => by
    rw [TrWf] at w
    rw [viewsT]
    refine viewss_ok c ps _ w.2 ?_
    split
    · exact vput_ok h w.1
    · exact h
theorem viewss_ok (c : Bool) : ∀ (ts : List Tr) (acc : List VN), TrsWf ts → (∀ p ∈ acc, EvsOk p.1) → ∀ p ∈ viewsTs c acc ts, EvsOk p.1
  | [], acc, _, h => by rw [viewsTs]; exact h
  | t :: r, acc, w, h => by
    rw [TrsWf] at w
    rw [viewsTs]
    exact viewss_ok c r _ w.2 (views_ok c t acc w.1 h)
end
theorem VkAt.at {K : PySem.W.Frag} {H : Hp} : ∀ {kvs : List NE} {acc : List VN} {i : Nat} {e : NE}, VkAt K H kvs acc → (acc.map (·.1)).Nodup → kvs[i]? = some e → ∃ p, acc[i]? = some p ∧ e.1 = viewK p.1 ∧ e.2.2 = .int (p.2 : Nat) ∧ KeyAt K H e.2.1 e.1 ∧ nGet kvs e.1 = some e.2.2
  | e0 :: kvs, acc, i, e, h, nd, he => by
    cases h with
    | @cons _ p _ acc' h1 h2 =>
      rw [List.map_cons, List.nodup_cons] at nd
      cases i with
      | zero =>
        cases he
        refine ⟨p, rfl, h1.1, h1.2.1, h1.2.2, ?_⟩
        show valV ((e0.1, e0.2.2) :: nP kvs) e0.1 = _
        exact valV_pos rfl
      | succ i =>
        obtain ⟨q, g1, g2, g3, g4, g5⟩ := VkAt.at (kvs := kvs) (i := i) h2 nd.2 (by simpa using he)
        refine ⟨q, by simpa using g1, g2, g3, g4, ?_⟩
        show valV ((e0.1, e0.2.2) :: nP kvs) e.1 = _
        rw [valV_neg (p := (e0.1, e0.2.2)) ?_]
        · exact g5
        · intro z
          refine nd.1 ?_
          have : p.1 = q.1 := viewK_inj (by rw [← h1.1, ← g2]; exact z)
          rw [this]
          exact List.mem_map_of_mem (List.mem_of_getElem? g1)
  | [], _, _, _, _, _, he => by cases he
end LL
/-! defs called within an except suite that raise nothing; isinstance of a caught error that has a dict of its own -/
namespace LL
open PySem PySem.Spec PyProof.Rows L2 He Evl
/-- what a def promises wherever it is called: nothing leaves it but its value -/
def FnRC (P : Program) (w : World) (K : PySem.W.Frag) (mg : Str → Option Value) (base : Heap) (k : Nat) (f : Addr) (sp : Sp) : Prop :=
  ∀ (A : Around) (outer : List Env) (s : Shared) (H : Hp) (us : List Value) (vs : List V) (Q : VK) (E : XK), L2H.RoomH k A → Env0 P w K mg base A outer s H → Vals vs us → sp vs H Q E →
    codeAny (model P w) A (.call (.ref f) ⟨us, []⟩) (CR CX0 outer P w H s Q E) s
def cxC (P : Program) (w : World) (K : PySem.W.Frag) (mg : Str → Option Value) (base : Heap) (N : List Str) (qual : Str) (scope : Scope) (f : Addr) (cd : Value) (A : Around) (outer : List Env) (s : Shared) (H : Hp) (E : XK) : Cx :=
  { cxOf CX0 P w K mg base N qual scope f cd A outer s H E with calm := false }
theorem inv_startC {P : Program} {w : World} {K : PySem.W.Frag} {mg : Str → Option Value} {base : Heap} {N ps : List Str} {qual : Str} {scope : Scope} {f : Addr} {cd : Value} {A : Around} {outer : List Env} {s s1 : Shared} {H : Hp} {E : XK} {us : List Value} {vs : List V}
    (S : FnScope N ps scope) (e0 : Env0 P w K mg base A outer s H) (hl : vs.length = ps.length) (r : Vals vs us)
    (x : InCallC s s.heap.objs.size (bindL (envOfC qual scope s.heap.objs.size f cd).kindOf (ps.zip us) fun _ => none) (cellsFrom (s.heap.objs.size + 1) scope.names []) (bindC (envOfC qual scope s.heap.objs.size f cd).kindOf (ps.zip us) fun _ => none) s1) :
    Inv (cxC P w K mg base N qual scope f cd A outer s H E) [] (L2.start N vs) H s1 := by
  have hpl : ps.length ≤ N.length := by have := congrArg List.length S.pre; rw [List.length_take] at this; omega
  obtain ⟨h1, tk, rfl, hk⟩ := x.done
  have noA : ∀ b : Addr, b ∉ (cxC P w K mg base N qual scope f cd A outer s H E).ex := fun b z => absurd (show b ∈ ([] : List Addr) from z) (by simp)
  refine ⟨⟨e0.mod, S.kind, rfl, rfl, Nat.le_refl _, fun y z c h1 h2 => ?_, fun y hy => ?_, fun y c _ h => ?_, (fun z => Bool.noConfusion (show false = true from z)), Around.frames_deeper e0.frames, .inr ⟨rfl, rfl⟩, fun b z => absurd z (noA b), e0.bs, e0.bsz, fun b _ _ => noA b, fun b z => absurd z (noA b), e0.funs, e0.frf⟩,
    rfl, e0.bare, Un.kept hk, ⟨_, x.toInCall.ns, fun i y v h1 h2 h3 => ?_⟩, fun y c h => ⟨_, x.cell y c h⟩, e0.hok.fresh (Nat.le_refl _), fun y c h => ?_, fun q hq => ?_, e0.hok.kept hk, ?_⟩
  · exact name_of_addr x.apart (PySem.mem_of_lookup h1) (PySem.mem_of_lookup h2)
  · have hy : scope.names.lookup y = some .cell ∨ scope.names.lookup y = some .free := hy
    rcases hy with hy | hy
    · exact cell_has hy
    · exact absurd rfl (S.nofree _ (PySem.mem_of_lookup hy))
  · exact Nat.le_of_lt (x.above y c (PySem.mem_of_lookup h))
  · have hi : i < vs.length := by
      unfold L2.start at h2
      by_cases hi : i < vs.length
      · exact hi
      · rw [List.getElem?_append_right (by simpa using hi)] at h2
        rw [List.getElem?_replicate] at h2
        split at h2 <;> cases h2
    have ha : vs[i]? = some v := by
      unfold L2.start at h2
      rw [List.getElem?_append_left (by simpa using hi), List.getElem?_map] at h2
      cases e : vs[i]? with
      | none => rw [e] at h2; cases h2
      | some a => rw [e] at h2; cases h2; rfl
    obtain ⟨u, hu, rv⟩ := r.get ha
    have hp : ps[i]? = some y := by
      rw [← S.pre, List.getElem?_take_of_lt (by omega)]; exact h1
    have ndP : ps.Nodup := by rw [← S.pre]; exact S.nd.sublist (List.take_sublist _ _)
    refine ⟨u, rv, ?_⟩
    rcases S.par y (List.mem_of_getElem? hp) with k | k
    · exact .inl ⟨k, bindL_get ndP hp hu k⟩
    · obtain ⟨c, e⟩ := cell_has (n := s.heap.objs.size + 1) k
      refine .inr ⟨.inl k, c, e, ?_⟩
      have q := x.cell y c e
      rw [bindC_get ndP hp hu (by show scope.names.lookup y ≠ _; rw [k]; decide)] at q
      exact q
  · exact e0.hok.fresh (Nat.le_of_lt (x.above y c (PySem.mem_of_lookup h)))
  · exact absurd (show q ∈ ([] ++ [] : List (Addr × Obj)) from hq) (by simp)
  · unfold L2.start
    show _ = N.length
    rw [List.length_append, List.length_map, List.length_replicate]
    omega
theorem fn_defC {P : Program} {w : World} {K : PySem.W.Frag} {mg : Str → Option Value} {base : Heap} {x qual : Str} {st : Stmt} {f : Addr} {N ps : List Str} {k : Nat} {sp : Sp} (D : ∃ fd, FunD K x qual (defArgs st) (defBody st) (defScope st) [] [] f fd) (S : FnScope N ps (defScope st))
    (hb : ∀ (kV doc pm : Value) (an : Option Addr) (cdv ct : Value) (us : List Value), us.length = ps.length → bindArgs (PySem.W.fnOf x qual (defArgs st) (defBody st) (defScope st) .none kV doc pm an cdv ct) ⟨us, []⟩ = pure (ps.zip us))
    (len : ∀ vs H Q E, sp vs H Q E → vs.length = ps.length)
    (hbody : ∀ (cdv : Value) (A : Around) (outer : List Env) (s : Shared) (H : Hp) (vs : List V) (Q : VK) (E : XK), L2H.RoomH k (A.deeper (envOfC qual (defScope st) s.heap.objs.size f cdv)) → sp vs H Q E →
      ∃ t, PSs (cxC P w K mg base N qual (defScope st) f cdv A outer s H E) (defBody st) t ∧ t { nx := fun _ H' => Q .non H', rt := Q } (start N vs) H) : FnRC P w K mg base (k + 1) f sp := by
  obtain ⟨fd, F⟩ := D
  have bn := F.bindsN hb
  obtain ⟨oc, od, dV, kV, doc, pm, an, cdv, ct, osl, rfl, lk, hcd, _, _⟩ := F.ex
  intro A outer s H us vs Q E hr e0 r hsp
  have hl := len _ _ _ _ hsp
  have KX : K.In s.heap := e0.mod.kin.keeps fun b o e => (e0.bs b o e).1
  have lim : s.heap.NoLimit := e0.mod.nolimit.keeps fun b o e => (e0.bs b o e).1
  have hkind : ∀ y ∈ ps.zip us, (defScope st).names.lookup y.1 = some .local ∨ ((defScope st).names.lookup y.1 = some .cell ∧ ((cellsFrom (s.heap.objs.size + 1) (defScope st).names []).lookup y.1).isSome = true) := fun ⟨n, v⟩ hy => by
    rcases S.par n (List.of_mem_zip hy).1 with q | q
    · exact .inl q
    · exact .inr ⟨q, PySem.W.cellsFrom_some _ _ _ (.inl q)⟩
  have hb2 := bn s us KX (by rw [List.append_nil, ← r.length, hl])
  rw [List.append_nil] at hb2
  refine codeAny_call_function hr.depth (KX _ _ lk) rfl S.co S.gen rfl (PySem.W.codeRec_of KX hcd) (hb2 _ _ _ _ ?_)
  refine wpAny_newFunctionEnv_cells S.kind hkind fun env he s1 x => ?_
  subst he
  refine ⟨lim.keeps x.toInCall.keep, codeAny_func ?_⟩
  obtain ⟨t, ht, hq⟩ := hbody cdv A outer s H vs Q E (hr.deeper _) hsp
  have I : Inv (cxC P w K mg base N qual (defScope st) f cdv A outer s H E) [] (L2.start N vs) H s1 := inv_startC S e0 hl r x
  refine wpAny_mono (ht.run [] s1 (L2.start N vs) H _ I hq) (fun fl s' hs => ?_) fun e s' hs => hs
  have fin : ∀ {σ' : L2.St} {H' : Hp} {v : V} {u : Value}, Inv (cxC P w K mg base N qual (defScope st) f cdv A outer s H E) [] σ' H' s' → RelV v u → Q v H' → CE outer P w H s Q u s' :=
    fun {σ' H' v u} J rv q => ⟨v, H', J.os, J.bare, J.base, J.hok, rv, q⟩
  cases fl with
  | ret u =>
    obtain ⟨v, σ', H', J, rv, q⟩ := hs
    exact fin J rv q
  | next =>
    obtain ⟨σ', H', J, q⟩ := hs
    exact fin (v := V.non) (u := Value.none) J rfl q
  | brk =>
    obtain ⟨_, _, _, q⟩ := hs
    exact False.elim q
  | cont =>
    obtain ⟨_, _, _, q⟩ := hs
    exact False.elim q
theorem pe_fnC {X : Cx} {k : Nat} {f : Addr} {sp : Sp} {x x' qual : Str} {st : Stmt} {dvs : List V} {e : Expr} {es : List Expr} {t : TA} {p pos : Pos} (D : ∃ fd, FunD X.K x' qual (defArgs st) (defBody st) (defScope st) dvs [] f fd)
    (F : FnRC X.prog X.w X.K X.mg X.base k f sp) (hr : L2H.RoomH k X.A) (hm : X.mg x = some (.ref f)) (ha : PA X (e :: es) t) (hg : Gl X x := by rfl) (hdb : (x == ("__debug__" : Str)) = false := by decide)
    (he : starEach (e :: es) X.env = (false, eval e X.env) :: starEach es X.env := by rfl) (hpl : (backTo pos (starEach es X.env)).any (·.1) = false := by rfl) :
    L2.PE X (.Call (.Name x p) (e :: es) [] pos) (fun σ H Q => t σ H fun vs H1 => sp vs H1 Q fun _ _ _ => False) := by
  refine ⟨fun pins s σ H Q I h => ?_⟩
  refine wpAny_Call_Name_kw (ld_glob I hg hm ?_ hdb)
  refine PySem.W.callWith_K (h₀ := X.base) I.ok.mod.kin (kp_of D) (thn (ha.run pos pins s σ H _ I h) fun us s1 ⟨vs, H1, I1, r, q⟩ => ⟨I1.kIn, ?_⟩) he hpl
  refine wpAny_call (codeAny_mono (F X.A X.stack s1 H1 us vs Q _ hr I1.env0 r q) fun r s' hq => ?_)
  cases r with
  | error e => exact False.elim hq
  | ok fl =>
    cases fl with
    | ret u => exact I1.after hq
    | next => exact False.elim hq
    | brk => exact False.elim hq
    | cont => exact False.elim hq
/-- a call in a try's body -/
theorem pe_fnS {X : Cx} {CX : CXT} {k : Nat} {f : Addr} {sp : Sp} {E : L2.St → XK} {x x' qual : Str} {st : Stmt} {dvs : List V} {e : Expr} {es : List Expr} {t : TA} {p pos : Pos} (D : ∃ fd, FunD X.K x' qual (defArgs st) (defBody st) (defScope st) dvs [] f fd)
    (F : FnR X.prog X.w X.K X.mg X.base CX k f sp) (hr : Room k X.A) (hm : X.mg x = some (.ref f)) (hx : ∀ σ, PassesAt CX X σ (E σ)) (ha : PA X (e :: es) t) (hg : Gl X x := by rfl) (hdb : (x == ("__debug__" : Str)) = false := by decide)
    (he : starEach (e :: es) X.env = (false, eval e X.env) :: starEach es X.env := by rfl) (hpl : (backTo pos (starEach es X.env)).any (·.1) = false := by rfl) :
    L2.PE X (.Call (.Name x p) (e :: es) [] pos) (fun σ H Q => t σ H fun vs H1 => sp vs H1 Q (E σ)) := by
  refine ⟨fun pins s σ H Q I h => ?_⟩
  refine wpAny_Call_Name_kw (ld_glob I hg hm ?_ hdb)
  refine PySem.W.callWith_K (h₀ := X.base) I.ok.mod.kin (kp_of D) (thn (ha.run pos pins s σ H _ I h) fun us s1 ⟨vs, H1, I1, r, q⟩ => ⟨I1.kIn, ?_⟩) he hpl
  exact wpAny_call (run_fnRS F hr (hx σ) I1 r q)
/-! ### isinstance of an error with a dict -/
def rIsEd (K : PySem.W.Frag) (D a dd : Addr) : List V → Hp → VK → Prop := fun xs H Q => ∃ (c : V) (cv : Value) (b : Bool) (fs : List (Str × V)), xs = [.ref a, c] ∧ H dd = some (.xd fs) ∧ (∀ u, RelV c u → u = cv) ∧ PySem.W.kitOne K (.ref D) cv = some b ∧ Q (.bl b) H
def rIsEdT (K : PySem.W.Frag) (D a dd : Addr) : List V → Hp → VK → Prop := fun xs H Q => ∃ (tp : Addr) (cs : List V) (us : List Value) (b : Bool) (fs : List (Str × V)), xs = [.ref a, .ref tp] ∧ H dd = some (.xd fs) ∧ H tp = some (.tup cs) ∧ Paired ClsV cs us ∧ PySem.W.kitAny K (.ref D) us = some b ∧ Q (.bl b) H
theorem exc_inst {X : Cx} {pins : List (Addr × Obj)} {σ : L2.St} {H : Hp} {s : Shared} {a D dd : Addr} {oe : Obj} {pn : List (Addr × Obj)} {fs : List (Str × V)} (I : Inv (X.suite a ((a, oe) :: pn)) pins σ H s) (hz : Zc (.ref D) (some dd) oe) (hf : ∃ vs, oe.data = .fields vs) (ea : H dd = some (.xd fs)) :
    ∃ od, PySem.W.InstAt s.heap a oe D (some od) := by
  obtain ⟨ha, _⟩ := I.pin (a, oe) (List.mem_append_left _ List.mem_cons_self)
  obtain ⟨vs, hd⟩ := hf
  have hx : ObjOk X.prog X.w H s.heap dd (.xd fs) := I.hok dd _ ea
  obtain ⟨mA, hns, hr⟩ := hx
  obtain ⟨od, ho, hl⟩ := lookIn_ns hns
  exact ⟨od, ha, hz.1, by unfold PySem.W.notCls; rw [hd] <;> rfl, by rw [hz.2]; exact ho⟩
theorem cls_some {K : PySem.W.Frag} {D : Addr} (h : PySem.W.hasDictIn K D = true) : (PySem.W.clsIn K D).isSome = true := by
  obtain ⟨cd, hc, _⟩ := PySem.W.any_some h
  rw [hc]
  rfl
theorem call_isEd {X : Cx} {a D dd : Addr} {oe : Obj} {pn : List (Addr × Obj)} (C : ExcC X.K D) (hz : Zc (.ref D) (some dd) oe) (hf : ∃ vs, oe.data = .fields vs) : CallR (X.suite a ((a, oe) :: pn)) (.builtin "isinstance") (rIsEd X.K D a dd) := by
  intro pins s σ H xs us Q I r h
  obtain ⟨c, cv, b, fs, rfl, hdd, hcv, e, q⟩ := h
  obtain ⟨u1, u2, rfl, r1, r2⟩ := vals2 r
  cases (show u1 = Value.ref a from r1)
  have ec := hcv _ r2
  subst ec
  obtain ⟨od, J⟩ := exc_inst I hz hf hdd
  exact PySem.W.kia_one (PySem.W.kitx_exc (cls_some C.hd) C.hg C.hk C.hs C.ha C.hn C.ht C.hm) I.kIn J e (fun z => nomatch z) fun tk => ⟨.bl b, H, I.kept (t' := tk) fun _ _ z => z, rfl, q⟩
theorem call_isEdT {X : Cx} {a D dd : Addr} {oe : Obj} {pn : List (Addr × Obj)} (C : ExcC X.K D) (hz : Zc (.ref D) (some dd) oe) (hf : ∃ vs, oe.data = .fields vs) : CallR (X.suite a ((a, oe) :: pn)) (.builtin "isinstance") (rIsEdT X.K D a dd) := by
  intro pins s σ H xs us Q I r h
  obtain ⟨tp, cs, ws, b, fs, rfl, hdd, hT, k, e, q⟩ := h
  obtain ⟨u1, u2, rfl, r1, r2⟩ := vals2 r
  cases (show u1 = Value.ref a from r1)
  cases (show u2 = Value.ref tp from r2)
  obtain ⟨_, its, rv, o, h1, h2, n, h3⟩ := (show ObjOk X.prog X.w H s.heap tp (.tup cs) from I.hok tp _ hT)
  have e3 := ClsV.all k rv
  subst e3
  obtain ⟨oc, od', dt, sl⟩ := o
  simp only at h2 h3
  subst h2 h3
  obtain ⟨od, J⟩ := exc_inst I hz hf hdd
  exact PySem.W.kia_tup (PySem.W.kitx_exc (cls_some C.hd) C.hg C.hk C.hs C.ha C.hn C.ht C.hm) I.kIn J h1 e (fun z => nomatch z) fun tk => ⟨.bl b, H, I.kept (t' := tk) fun _ _ z => z, rfl, q⟩
theorem callk_isEd (K : PySem.W.Frag) {X : Cx} {a D dd : Addr} {oe : Obj} {pn : List (Addr × Obj)} (C : ExcC K D) (hz : Zc (.ref D) (some dd) oe) (hf : ∃ vs, oe.data = .fields vs) (h : X.K = K := by rfl) : CallR (X.suite a ((a, oe) :: pn)) (.builtin "isinstance") (rIsEd K D a dd) := by subst h; exact call_isEd C hz hf
theorem callk_isEdT (K : PySem.W.Frag) {X : Cx} {a D dd : Addr} {oe : Obj} {pn : List (Addr × Obj)} (C : ExcC K D) (hz : Zc (.ref D) (some dd) oe) (hf : ∃ vs, oe.data = .fields vs) (h : X.K = K := by rfl) : CallR (X.suite a ((a, oe) :: pn)) (.builtin "isinstance") (rIsEdT K D a dd) := by subst h; exact call_isEdT C hz hf
theorem pek_xf (K : PySem.W.Frag) {X : Cx} {a C : Addr} {oe : Obj} {cls : Value} {d : Option Addr} {pn : List (Addr × Obj)} {e : Expr} {te : TE} {pos : Pos} {n : Str} (T : XfC K C) (hno : PySem.W.findIn K (.ref C) n = some none)
    (hz : Zc cls d oe) (hf : ∃ vs, oe.data = .fields vs) (he : L2.PE (X.suite a ((a, oe) :: pn)) e te) (hb : attributeBase e n X.env (eval e X.env) = eval e X.env := by rfl) (h : X.K = K := by rfl) :
    L2.PE (X.suite a ((a, oe) :: pn)) (.Attribute e n pos) (tXf a cls d C n te) := by subst h; exact pe_xf T hno hz hf he hb
theorem callk_list_of (K : PySem.W.Frag) {X : Cx} (h : X.K = K := by rfl) : CallR X (.type "list") (fun xs H Q => ∃ p ys, xs = [.ref p] ∧ (SqL K H p ys ∨ SqT K H p ys) ∧ ∀ l, H l = none → Q (.ref l) (upd H l (.lst ys))) := by subst h; exact call_list_of
end LL
namespace LL
open PySem PySem.Spec PyProof.Rows L2 He Evl
section
variable {P : Program} {w : World} {K : PySem.W.Frag} {mg : Str → Option Value} {base : Heap}
/-- _law_same of two texts, wherever it is called -/
def spSameX : Sp := fun us H Q _ => ∃ m n : Str, us = [.str m, .str n] ∧ ∀ H2, Ex H H2 → Q (.bl (decide (m = n))) H2
theorem fn_l_sameC (T : Txt K mg) : FnRC P w K mg base 1 (ga K "_law_same") spSameX := by
  refine fn_defC T.d_l_same sc_l_same (fun _ _ _ _ _ _ us hl => match us, hl with | [_, _], _ => rfl) (fun vs H Q E h => ?_) (fun cdv A outer s H vs Q E hr h => ?_)
  · obtain ⟨_, _, rfl, _⟩ := h
    rfl
  obtain ⟨m, n_, rfl, k⟩ := h
  have nd := sc_l_same.nd
  refine ⟨_, pss_cons (ps_if (PW.pt (pw_or (pt_val (pe_callB call_isi (by rfl) T.f_isinstance (by decide +kernel) (pa_cons (pv 1) (pa_cons (pe_bltn (v := .ty "tuple") rfl T.f_tuple (by decide +kernel) rfl) pa_nil)))) (pw_or1 (pt_val (pe_callB call_isi (by rfl) T.f_isinstance (by decide +kernel) (pa_cons (pv 1) (pa_cons (pe_bltn (v := .ty "list") rfl T.f_list (by decide +kernel) rfl) pa_nil))))))) (pss_given (p := False) (t := tNext) (fun h => h.elim)) (pss_nil))
      (pss_cons (ps_if (PW.pt (pw_or (pt_cmpR op_isN (pv 1) (pe_non) (nomark _)) (pw_or1 (pt_val (pe_callB call_isi (by rfl) T.f_isinstance (by decide +kernel) (pa_cons (pv 1) (pa_cons (pe_bltn (v := .ty "bool") rfl T.f_bool (by decide +kernel) rfl) pa_nil))))))) (pss_one (ps_ret (pe_and (pe_cmpR op_eq (pe_cmpR op_isN (pv 0) (pe_non) (nomark _)) (pe_cmpR op_isN (pv 1) (pe_non) (nomark _)) (nomark _)) (pe_and (pe_or (pe_cmpR op_isN (pv 1) (pe_non) (nomark _)) (pe_one (pe_callB call_isi (by rfl) T.f_isinstance (by decide +kernel) (pa_cons (pv 0) (pa_cons (pe_bltn (v := .ty "bool") rfl T.f_bool (by decide +kernel) rfl) pa_nil))))) (pe_one (pe_cmpR op_eq (pv 0) (pv 1) (nomark _))))))) (pss_nil))
      (pss_cons (ps_if (pt_val (pe_callB call_isi (by rfl) T.f_isinstance (by decide +kernel) (pa_cons (pv 1) (pa_cons (pe_bltn (v := .ty "int") rfl T.f_int (by decide +kernel) rfl) pa_nil)))) (pss_one (ps_ret (pe_and (pe_callB call_isi (by rfl) T.f_isinstance (by decide +kernel) (pa_cons (pv 0) (pa_cons (pe_bltn (v := .ty "int") rfl T.f_int (by decide +kernel) rfl) pa_nil))) (pe_and (pe_not (pe_callB call_isi (by rfl) T.f_isinstance (by decide +kernel) (pa_cons (pv 0) (pa_cons (pe_bltn (v := .ty "bool") rfl T.f_bool (by decide +kernel) rfl) pa_nil)))) (pe_one (pe_cmpR op_eq (pv 0) (pv 1) (nomark _))))))) (pss_nil))
      (pss_one (ps_ret (pe_and (pe_callB call_isi (by rfl) T.f_isinstance (by decide +kernel) (pa_cons (pv 0) (pa_cons (pe_bltn (v := .ty "str") rfl T.f_str (by decide +kernel) rfl) pa_nil))) (pe_one (pe_cmpR op_eq (pv 0) (pv 1) (nomark _)))))))), ?_⟩
  have isi : ∀ (i : Nat) (j : Str) (b : Bool) {H' : Hp} {n : String}, ([some (V.str m), some (.str n_)])[i]? = some (some (.str j)) → PySem.W.kitOne K (.type (tyN (.str j))) (.type n) = some b → Ev (tCB (rIsi K) (tCons (tVar i) (tCons (tC (.ty n)) tNil))) [some (V.str m), some (.str n_)] H' (.bl b) := fun _ _ _ _ _ hs hk => ev_isi (ev_var hs) (.str _) hk
  refine q_when (b := false) (et_or (a := false) (et_B (isi 1 n_ false rfl (kit_tup (.str n_)))) fun _ => et_B (isi 1 n_ false rfl (kit_lst (.str n_)))) (fun c => nomatch c) (fun _ H1 e1 => ?_)
  refine q_when (b := false) (et_or (a := false) (et_test (ev_isN (K := K) (ev_var rfl) (.str n_))) fun _ => et_B (isi 1 n_ false rfl (kit_boo (.str n_)))) (fun c => nomatch c) (fun _ H2 e2 => ?_)
  refine q_when (b := false) (et_B (isi 1 n_ false rfl (kit_int (.str n_)))) (fun c => nomatch c) (fun _ H3 e3 => ?_)
  refine s_ret (v := .bl (decide (m = n_))) (ev_is (ev_andV (a := true) (isi 0 m true rfl (kit_str (.str m))) fun _ => ev_is (ev_op (ev_var rfl) (ev_var rfl) (rv_eq rfl)) (congrArg V.bl (decide_eq_decide.mpr ⟨fun h => V.str.inj h, fun h => by rw [h]⟩))) (by rw [Bool.true_and])) fun H4 e4 => k H4 (e1.trans (e2.trans (e3.trans e4)))
end
end LL
namespace LL
open PySem PySem.Spec PyProof.Rows L2 He Evl ND
theorem walk_keysN {P : Program} {w : World} {d : Addr} {o : Obj} {kvs : List NE} : Walk (ItkN P w d o kvs) kvs.length (fun H => H d = some (.frz o (NDo P w d kvs))) (fun i H x H' => H' = H ∧ ∃ e, kvs[i]? = some e ∧ x = .ref e.2.1) :=
  ⟨fun _ _ hi q => ⟨q, hi⟩, fun _ q => ⟨q, Nat.le_refl _⟩, fun _ _ _ _ _ _ y => y⟩
theorem pek_nget {X : Cx} (P : Program) (w : World) (K : PySem.W.Frag) {o i : Expr} {pos : Pos} {td ty : TE} (hP : X.prog = P) (hw : X.w = w) (hK : X.K = K) (hu : X.A.units + 64 < cLine) (ho : L2.PE X o td) (hi : L2.PE X i ty) (hs : NoSl i) : L2.PE X (.Subscript o i pos) (ND.tGet P w K td ty) := by
  subst hP hw hK
  exact ND.pe_get hu ho hi hs
section
variable {w : World} {K : PySem.W.Frag} {mg : Str → Option Value} {base : Heap}
theorem dep_ints {xs : List Int} (h : xs.length ≤ 1000) : Dep 5 (.list (xs.map fun i => PyData.int i)) := by
  refine ⟨by rw [List.length_map]; omega, fun d hd => ?_⟩
  obtain ⟨q, _, rfl⟩ := List.mem_map.mp hd
  trivial
theorem dpa_ints {H : Hp} : ∀ xs : List Int, DpAll K H (xs.map V.int) (xs.map fun i => PyData.int i)
  | [] => .nil
  | x :: xs => .cons (.int _) (dpa_ints xs)
theorem same_ends {σ : L2.St} {i j : Nat} {H : Hp} {v u : V} {tr : Tr} {E : XK} (hi : σ[i]? = some (some v)) (hj : σ[j]? = some (some u)) (hT : TrAt K H v tr) (hD : DtAt K H u tr) (ok : TrOk tr) :
    Ev (fun σ H Q => tCons (fun σ H Q => tCons (tVar i) tNil σ H fun vs H1 => spEnds K 19 vs H1 Q E) (tCons (fun σ H Q => tCons (tVar j) tNil σ H fun vs H1 => spAll K 14 vs H1 Q E) tNil) σ H fun vs H1 => spSame K 5 vs H1 Q E) σ H (.bl true) := by
  intro H1 e1 Q q
  have hl := ok.ends
  have hd := ok.dp
  refine ⟨_, hi, v, tr, rfl, hT.mono e1, by omega, by omega, fun l1 H2 n1 e2 h1 => ?_⟩
  refine ⟨_, hj, u, tr, rfl, hD.mono (e1.trans e2), hd, by omega, fun l2 H3 n2 e3 h2 => ?_⟩
  refine ⟨.ref l1, .ref l2, .list ((endsT tr).map fun i => .int i), .list ((endsT tr).map fun i => .int i), rfl, .lst (sq_of (e3 _ _ h1)) (dpa_ints _), .lst (sq_of h2) (dpa_ints _), dep_ints (by omega), fun H4 e4 => ?_⟩
  rw [same_t rfl]
  exact q H4 (e2.trans (e3.trans e4))
theorem like_ev {σ : L2.St} {i j : Nat} {H : Hp} {v u : V} {tr : Tr} {E : XK} (hi : σ[i]? = some (some v)) (hj : σ[j]? = some (some u)) (hT : TrAt K H v tr) (hD : DtAt K H u tr) (ok : TrOk tr) (wf : TrWf tr) :
    Ev (fun σ H Q => tCons (tVar i) (tCons (tVar j) tNil) σ H fun vs H1 => spLike K 14 vs H1 Q E) σ H (.bl true) := by
  intro H1 e1 Q q
  have hd := ok.dp
  have hn := ok.nd
  exact ⟨_, hi, _, hj, v, u, tr, rfl, hT.mono e1, hD.mono e1, hd, by omega, wf, fun H2 e2 => q H2 e2⟩
def pvD (p : VN) : PyData := .tuple [viewD p.1, .int (p.2 : Nat)]
theorem pv_dp {H : Hp} : ∀ {vs : List V} {acc : List VN}, PvAt K H vs acc → DpAll K H vs (acc.map pvD)
  | _, _, .nil => .nil
  | _, _, .cons h t => by
    obtain ⟨T, b, rfl, h1, h2⟩ := h
    refine .cons (.tup (st_of h1) (.cons ?_ (.cons (.int _) .nil))) (pv_dp t)
    have := h2.2.2
    rw [view_data] at this
    exact this
theorem PvAt.mono {H H' : Hp} {vs : List V} {acc : List VN} (h : PvAt K H vs acc) (e : Ex H H') : PvAt K H' vs acc := L2.Paired.mapP h fun _ _ ⟨T, b, h1, h2, h3⟩ => ⟨T, b, h1, e _ _ h2, key_mono h3 e⟩
def spLaw (K : PySem.W.Frag) : Sp := fun us H Q _ => ∃ (a : Addr) (ns : List Int), us = [.ref a] ∧ SqL K H a (ns.map V.int) ∧ ns.length ≤ 63 ∧ ∀ H2, Q (.bl true) H2
variable (W : TabW w K)
include W
theorem ok_law (T : Txt K mg) {fd : FuncData} (F : FunD K "law" "law" (defArgs s_law) (defBody s_law) (defScope s_law) (List.map (He.Dv.v K) []) [] (ga K "law") fd) : FnOk P w K mg base (L2.CX P w) 60 (ga K "law") fd ["_law_script"] (spLaw K) := by
  refine F.ok sc_law (fun vs H Q E h => ?_) (fun cdv A outer s H vs Q E hr h => ?_)
  · obtain ⟨_, _, rfl, _⟩ := h
    rfl
  obtain ⟨a, ns, rfl, ha, hl, k⟩ := h
  have nd := sc_law.nd
  refine ⟨_, pss_cons (ps_set (i := 1) nd rfl (by first | exact Or.inl rfl | exact Or.inr rfl) (pe_fn T.d_l_pool (fn_l_pool T) (hr.mono (by decide)) T.g_l_pool pc (pa_cons (pv 0) (pa_cons (pe_int) pa_nil))))
      (pss_cons (ps_set (i := 2) nd rfl (by first | exact Or.inl rfl | exact Or.inr rfl) (pe_fn T.d_l_game (fn_l_game T) (hr.mono (by decide)) T.g_l_game pc (pa_cons (pv 1) (pa_cons (pe_int) (pa_cons (pe_op op_add (pe_int) (pe_op op_mulW (pe_int) (pe_callTy call_int1 (by rfl) T.f_int (by decide +kernel) (pa_cons (pe_cmpR op_eq (pe_fn T.d_l_draw (fn_l_draw T) (hr.mono (by decide)) T.g_l_draw pc (pa_cons (pv 1) (pa_cons (pe_int) pa_nil))) (pe_int) (nomark _)) pa_nil)))) pa_nil)))))
      (pss_cons (ps_set (i := 3) nd rfl (by first | exact Or.inl rfl | exact Or.inr rfl) (pe_fn T.d_l_tree (fn_l_tree T) (hr.mono (by decide)) T.g_l_tree pc (pa_cons (pv 2) pa_nil)))
      (pss_cons (ps_try_as (i := 5) (Wout := fun cls d _ H => E cls d H) rfl rfl nd rfl rfl ⟨rfl, by decide, Or.inl T.g_LossError⟩ (takes_of rfl rfl rfl rfl) (fun Wt pn xe tk _ => pss_one (ps_set (i := 4) nd rfl (by first | exact Or.inl rfl | exact Or.inr rfl) (pe_fnS T.d_tree_of (fn_tree_of (w := w) (base := base) W T) (hr.mono (by decide)) T.g_tree_of (fun σ => passAt tk σ) (pa_cons (pe_makeRS T.m_Game (fn_Game_init T) (hr.mono (by decide)) rfl T.g_Game (fun σ => passAt tk σ) (pa_cons (pe_ix (ixk_tup K) (pv 2) (pe_int) (fun _ _ => rfl)) (pa_cons (pe_ix (ixk_tup K) (pv 2) (pe_int) (fun _ _ => rfl)) pa_nil))) pa_nil)))) (fun a oe cls d pn hz hf => pss_given (p := cls = .ref (ga K "TooLarge") ∧ d = some (d.getD 0)) (fun hp => have hz2 : Zc (.ref (ga K "TooLarge")) (some (d.getD 0)) oe := by rw [← hp.2, ← hp.1]; exact hz
        pss_one (ps_ret (pe_and (pe_cmpR op_isN (pv 3) (pe_non) (nomark _)) (pe_and (pe_callB (callk_isEd K T.xc_TooLarge hz2 hf) (by rfl) T.f_isinstance (by decide +kernel) (pa_cons (pv 5) (pa_cons (pe_gr T.g_TooLarge) pa_nil))) (pe_and (pe_not (pe_callB (callk_isEdT K T.xc_TooLarge hz2 hf) (by rfl) T.f_isinstance (by decide +kernel) (pa_cons (pv 5) (pa_cons (pe_tup (pa_cons (pe_gr T.g_BadPaper) (pa_cons (pe_gr T.g_BadPlan) (pa_cons (pe_gr T.g_BadRatio) (pa_cons (pe_gr T.g_BadText) (pa_cons (pe_gr T.g_NoPlan) (pa_cons (pe_gr T.g_NoShare) pa_nil))))))) pa_nil)))) (pe_one (pe_fnC T.d_l_same (fn_l_sameC T) (L2H.roomH_mark (hr.mono (by decide)) _) T.g_l_same (pa_cons (pek_xf K T.xf_TooLarge T.xn_TooLarge hz2 hf (pv 5)) (pa_cons (pe_str) pa_nil)))))))))))
      (pss_cons (ps_if (PW.pt (pw_or (pt_cmpR op_isN (pv 3) (pe_non) (nomark _)) (pw_or (pt_not (pt_val (pe_fn T.d_l_like (fn_l_like T) (hr.mono (by decide)) T.g_l_like pc (pa_cons (pv 4) (pa_cons (pv 3) pa_nil))))) (pw_or1 (pt_not (pt_val (pe_fn T.d_l_same (fn_l_same T 5) (hr.mono (by decide)) T.g_l_same pc (pa_cons (pe_fn T.d_ends_of (fn_ends_of T) (hr.mono (by decide)) T.g_ends_of pc (pa_cons (pv 4) pa_nil)) (pa_cons (pe_fn T.d_l_all (fn_l_all T) (hr.mono (by decide)) T.g_l_all pc (pa_cons (pv 3) pa_nil)) pa_nil))))))))) (pss_one (ps_ret (pe_bl))) (pss_nil))
      (pss_cons (ps_set (i := 6) nd rfl (by first | exact Or.inl rfl | exact Or.inr rfl) (pe_fn T.d_l_by_hand (fn_l_by_hand T) (hr.mono (by decide)) T.g_l_by_hand pc (pa_cons (pv 3) pa_nil)))
      (pss_cons (ps_set (i := 7) nd rfl (by first | exact Or.inl rfl | exact Or.inr rfl) (pe_fn T.d_ends_of (fn_ends_of T) (hr.mono (by decide)) T.g_ends_of pc (pa_cons (pv 4) pa_nil)))
      (pss_cons (ps_expr (pe_bm PySem.F.plainAttrs_list PySem.F.slot_list_append PySem.F.type_list_append mt_append (pv 7) (pa_cons (pe_int) pa_nil)))
      (pss_cons (ps_for (passes_of rfl) rfl (pi_tup (pe_tup (pa_cons (pe_str) (pa_cons (pe_str) pa_nil)))) (pg_name (i := 8) nd rfl (by first | exact Or.inl rfl | exact Or.inr rfl)) (pss_cons (ps_set (i := 7) nd rfl (by first | exact Or.inl rfl | exact Or.inr rfl) (pe_fn T.d_views_of (fn_views_of T) (hr.mono (by decide)) T.g_views_of pc (pa_cons (pv 4) (pa_cons (pv 8) pa_nil))))
      (pss_cons (ps_expr (pe_bm PySem.F.plainAttrs_list PySem.F.slot_list_append PySem.F.type_list_append mt_append (pv 7) (pa_cons (pe_int) pa_nil)))
      (pss_cons (ps_set (i := 9) nd rfl (by first | exact Or.inl rfl | exact Or.inr rfl) (pe_fn T.d_l_views (fn_l_views T) (hr.mono (by decide)) T.g_l_views pc (pa_cons (pv 3) (pa_cons (pv 8) (pa_cons (ND.pe_new) pa_nil)))))
      (pss_one (ps_for (passes_of rfl) rfl (pi_tup (pe_tup (pa_cons (pv 4) (pa_cons (pv 6) pa_nil)))) (pg_name (i := 10) nd rfl (by first | exact Or.inl rfl | exact Or.inr rfl)) (pss_one (ps_if (pt_not (pt_val (pe_fn T.d_l_same (fn_l_same T 5) (hr.mono (by decide)) T.g_l_same pc (pa_cons (pe_fn T.d_views_of (fn_views_of T) (hr.mono (by decide)) T.g_views_of pc (pa_cons (pv 10) (pa_cons (pv 8) pa_nil))) (pa_cons (pe_lock (pe_lc (own := [("_law_view", 11)]) (g := gName 11) (tt := tYes) rfl nd (ND.pi_keysN (pv 9)) (blkOk_by (N := n_law) (sc := defScope s_law) (by decide +kernel)) (fun _ _ _ _ _ => pg_name (i := 11) nd rfl (by first | exact Or.inl rfl | exact Or.inr rfl)) (fun _ _ _ _ _ => pts_nil) (fun _ _ _ _ _ => pe_tup (pa_cons (pv 11) (pa_cons (pek_nget (td := tVar 9) (ty := tVar 11) P w K rfl rfl rfl hr.units (pv 9) (pv 11) (fun _ _ => rfl)) pa_nil))))) pa_nil))))) (pss_one (ps_ret (pe_bl))) (pss_nil)))))))))
      (pss_one (ps_ret (pe_and (pe_fn T.d_l_like (fn_l_like T) (hr.mono (by decide)) T.g_l_like pc (pa_cons (pv 6) (pa_cons (pv 3) pa_nil))) (pe_and (pe_fn T.d_l_same (fn_l_same T 5) (hr.mono (by decide)) T.g_l_same pc (pa_cons (pe_fn T.d_ends_of (fn_ends_of T) (hr.mono (by decide)) T.g_ends_of pc (pa_cons (pv 6) pa_nil)) (pa_cons (pe_fn T.d_l_all (fn_l_all T) (hr.mono (by decide)) T.g_l_all pc (pa_cons (pv 3) pa_nil)) pa_nil))) (pe_one (pe_fn T.d_l_same (fn_l_same T 5) (hr.mono (by decide)) T.g_l_same pc (pa_cons (pe_fn T.d_ends_of (fn_ends_of T) (hr.mono (by decide)) T.g_ends_of pc (pa_cons (pv 4) pa_nil)) (pa_cons (pe_fn T.d_l_all (fn_l_all T) (hr.mono (by decide)) T.g_l_all pc (pa_cons (pv 3) pa_nil)) pa_nil)))))))))))))))), ?_⟩
  have hbig : (100000 : Nat) ≤ sizeLine := by decide
  refine ⟨_, rfl, a, ns, 0, rfl, ha, hl, fun p H1 P1 s1 np _ hP1 _ => ?_⟩
  obtain ⟨B1, e1, hb1, ⟨P0, hq1, hq2, hq3⟩⟩ := base_pool hP1
  have hP1 : PoolN P0.bud p B1 H1 := ⟨P0, hq1, hq2, hq3, rfl⟩
  refine ⟨_, rfl, _, rfl, ?_⟩
  dsimp only [tCons, tNil, tC]
  refine draw_n e1 hb1 hP1 (by decide) (by decide) fun r H2 c0 c1 s2 hP2 => ?_
  refine ⟨rfl, .inr ⟨_, rfl, _, _, rfl, rfl, ?_, _, _, rfl, rfl, ?_⟩⟩
  · cases decide (V.int r = V.int 0)
    · show CMulW 5 0
      unfold CMulW
      decide +kernel
    · show CMulW 5 1
      unfold CMulW
      decide +kernel
  obtain ⟨mo, hmo, m1, m8⟩ : ∃ mo : Int, (3 : Int) + 5 * (if decide (V.int r = V.int 0) = true then 1 else 0) = mo ∧ 1 ≤ mo ∧ mo ≤ 8 := by
    cases decide (V.int r = V.int 0)
    · exact ⟨3, rfl, by omega, by omega⟩
    · exact ⟨8, rfl, by omega, by omega⟩
  refine ⟨B1, p, P0.bud, mo, (by rw [← hmo]), s2.in_, hb1, hP2, m1, m8, fun gv B3 H3 zs S u3 s3 hP3 hg ho => ?_⟩
  dsimp only [gName]
  refine ⟨_, rfl, gv, B3, zs, S, rfl, s3.in_, hg, ho, fun tr cn dv B4 H4 htr s4 hdt => ?_, fun hno B4 H4 s4 => ?_⟩
  · have ok := (treeT_ok ho htr).1
    have wf := treeT_wf ho htr
    have hdv : decide (dv = V.non) = false := by cases hdt <;> rfl
    have hg4 := hg.mono s4.base
    obtain ⟨gg, va, ba, o, ps, rfl, hgg, hva, hob, hps, hbl⟩ := id hg4
    have sx := ex_t s4.in_ hgg
    obtain ⟨ba', bxs, hba0, hbas, _⟩ := dp_tupK hbl
    cases hba0
    dsimp only [gName]
    refine ⟨_, rfl, gg, _, _, _, rfl, rfl, sx, rfl, _, rfl, gg, _, _, _, rfl, rfl, sx, rfl, fun x dx nx ndx ne => ?_⟩
    have s5 := Stp.made (ms := []) (C := ga K "Game") (fs := gmFs va ba) s4.in_ nx ndx ne
    have eHx : Ex H4 (upd (upd H4 dx (.own x)) x (.ins (ga K "Game") dx [])) := (Ex.new ndx).trans (Ex.new (by rw [upd_ne ne.symm]; exact nx))
    refine ⟨x, dx, va, ba, ps.map V.ref, bxs, rfl, upd_same, ex_t eHx (s4.in_ |> fun e => .inl (.inr ⟨o, e _ _ hva⟩)), ex_t eHx (ex_t s4.in_ hbas), rfl, ?_⟩
    rw [upd_twice]
    have hgm : GmAt K _ (.ref x) zs S := ⟨x, dx, va, ba, o, ps, rfl, upd_same, s5.base _ _ hva, hob, hps.mono s5.base, dp_mono s5.base hbl⟩
    refine ⟨.ref x, _, zs, S, rfl, s5.in_, hgm, ho, fun tr2 c2 av B6 H6 h6 s6 hav => ?_, fun hno => absurd (htr.symm.trans hno) (fun z => nomatch z)⟩
    rw [htr] at h6
    cases h6
    have hT : TrAt K H6 av tr := hav.mono s6.in_
    have hD : DtAt K H6 dv tr := ((hdt.mono s5.base).mono s6.base).mono s6.in_
    have hdp := ok.dp
    have hndT := ok.nd
    have hend := ok.ends
    dsimp only [gName]
    refine q_when (b := false) (et_or (a := false) (b := false) (et_test ((fun H1 e Q q => ⟨_, rfl, rfl, by rw [hdv]; exact q H1 (Ex.refl _)⟩) : Ev _ _ H6 (.bl false))) fun _ => et_or (a := false) (b := false) (et_not (a := true) (et_B (like_ev (E := E) (i := 4) (j := 3) rfl rfl hT hD ok wf))) fun _ => et_not (a := true) (et_B (same_ends (E := E) (i := 4) (j := 3) rfl rfl hT hD ok))) (fun c => Bool.noConfusion c) (fun _ H7 e7 => ?_)
    refine ⟨_, rfl, dv, H7, tr, rfl, Ex.refl _, hD.mono e7, hdp, by omega, fun mv B8 H8 s8 hmv => ?_⟩
    have e8 : Ex H6 H8 := e7.trans (s8.base.trans s8.in_)
    have hT8 := hT.mono e8
    have hD8 := hD.mono e8
    have hM8 : TrAt K H8 mv tr := hmv.mono s8.in_
    dsimp only [gName]
    refine ⟨_, rfl, av, tr, rfl, hT8, by omega, by omega, fun l1 H9 n1 e9 hl1 => ?_⟩
    dsimp only [gName]
    refine ⟨_, rfl, .inl ⟨rfl, _, sq_of hl1⟩, l1, _, _, rfl, rfl, hl1, by rw [List.length_map]; omega, ?_⟩
    have e10 : Ex H8 (upd H9 l1 (.lst ((endsT tr).map V.int ++ [.int 7]))) := Ex.mut e9 n1
    refine ⟨(show 2 ≤ sizeLine by omega), fun q nq => ⟨q, rfl, ⟨_, st_of upd_same⟩, for_tup (xs := [V.str "chooser", V.str "comer"]) (fun i σ H' => ∃ u7 u8 u9 u10 u11, Ex (upd (upd H9 l1 (.lst ((endsT tr).map V.int ++ [.int 7]))) q (.tup [V.str "chooser", V.str "comer"])) H' ∧ σ = [some (.ref a), some (.ref p), some (.ref gg), some dv, some av, none, some mv, u7, u8, u9, u10, u11]) ⟨_, _, _, _, _, Ex.refl _, rfl⟩ ?_ ?_ ?_⟩⟩
    · rintro i σ H' _ ⟨_, _, _, _, _, e, _⟩
      exact ex_t e (st_of upd_same)
    · rintro i xx σ H' hx ⟨u7, u8, u9, u10, u11, e, rfl⟩
      obtain ⟨c, rfl⟩ : ∃ c : Bool, xx = .str (seatS c) := by
        rcases i with _ | _ | i
        · cases hx; exact ⟨false, rfl⟩
        · cases hx; exact ⟨true, rfl⟩
        · cases hx
      have e11 := e10.trans ((Ex.new nq).trans e)
      have hT' := hT8.mono e11
      have hD' := hD8.mono e11
      have hM' := hM8.mono e11
      have hvl := ok.views c
      have hnodup : ((viewsT c [] tr).map (·.1)).Nodup := views_nodup c tr [] List.nodup_nil
      have hvok := views_ok c tr [] wf (fun p h => absurd h (List.not_mem_nil))
      generalize hacc : viewsT c [] tr = acc at hvl hnodup hvok
      refine ⟨_, rfl, _, rfl, av, tr, c, rfl, hT', by omega, by rw [hacc]; omega, fun l vs H2 nl e2 hl2 hpv => ?_⟩
      rw [hacc] at hpv
      have hvsl : vs.length = acc.length := Paired.length hpv
      dsimp only [gName]
      refine ⟨_, rfl, .inl ⟨rfl, _, sq_of hl2⟩, l, _, _, rfl, rfl, hl2, by omega, ?_⟩
      have e3 : Ex H' (upd H2 l (.lst (vs ++ [.int 7]))) := Ex.mut e2 nl
      generalize upd H2 l (.lst (vs ++ [.int 7])) = H3' at e3 ⊢
      refine ⟨_, rfl, _, rfl, fun F nF => ?_⟩
      refine ⟨dv, c, F, H3', tr, [], [], rfl, Ex.new nF, nF, upd_same, .nil, hD'.mono e3, hdp, by rw [hacc]; omega, fun B4' H4' kvs s4' hF4 hkv => ?_⟩
      rw [hacc] at hkv
      have bF4 : B4' F = none := s4'.off nF upd_same
      dsimp only [gName]
      refine ⟨_, rfl, _, rfl, (show 2 ≤ sizeLine by omega), fun q2 nq2 => ?_⟩
      have s5' := Stp.new (ms := []) (o := .tup [av, mv]) s4'.in_ nq2
      have hF5 := s5'.fr F _ (fun h => nomatch h) hF4
      have bF5 := s5'.off bF4 hF4
      have hkv5 := hkv.mono s5'.base
      have hq2 : upd B4' q2 (.tup [av, mv]) q2 = some (.tup [av, mv]) := upd_same
      have e35 := s4'.base.trans s5'.base
      generalize upd B4' q2 (.tup [av, mv]) = B5' at s5' bF5 hkv5 hq2 e35
      have in5 := s5'.in_
      generalize upd H4' q2 (.tup [av, mv]) = H5' at in5 hF5 ⊢
      have hkl : kvs.length = acc.length := Paired.length hkv5
      refine ⟨q2, rfl, ⟨_, st_of (in5 _ _ hq2)⟩, for_tup (xs := [av, mv]) (fun j σ H'' => ∃ u10 u11, Ex B5' H'' ∧ H'' F = some (NDo P w F kvs) ∧ σ = [some (.ref a), some (.ref p), some (.ref gg), some dv, some av, none, some mv, some (.ref l), some (.str (seatS c)), some (.ref F), u10, u11]) ⟨_, _, in5, hF5, rfl⟩ ?_ ?_ ?_⟩
      · rintro j σ H'' _ ⟨_, _, ex5, _, _⟩
        exact st_of (ex5 _ _ hq2)
      · rintro j y σ H'' hy ⟨u10, u11, ex5, hFj, rfl⟩
        have e3j := e3.trans (e35.trans ex5)
        have hy' : TrAt K H'' y tr := by
          rcases j with _ | _ | j
          · cases hy; exact hT'.mono e3j
          · cases hy; exact hM'.mono e3j
          · cases hy
        refine ⟨_, rfl, _, rfl, y, tr, c, rfl, hy', by omega, by rw [hacc]; omega, fun l5 vs5 H6' n5 e5 hl5 hpv5 => ?_⟩
        rw [hacc] at hpv5
        have ex6 := ex5.trans e5
        have hF6 := e5 _ _ hFj
        refine ⟨F, NDo P w F kvs, hF6, trivial, fun od => ?_⟩
        have ex7 : Ex B5' (upd H6' F (.frz od (NDo P w F kvs))) := Ex.mut ex6 bF5
        refine ⟨_, rfl, F, od, kvs, rfl, upd_same, fun D nD => ?_⟩
        have hFD : F ≠ D := fun z => by subst z; rw [upd_same] at nD; cases nD
        have exD : Ex B5' (upd (upd H6' F (.frz od (NDo P w F kvs))) D (.lst [])) := Ex.mut ex7 (ex_none ex7 nD)
        refine lc_it (walk_keysN (P := P) (w := w) (d := F) (o := od) (kvs := kvs)) (fun i H' => ∃ (B' : Hp) (us : List V), Stp [D] B5' (upd (upd H6' F (.frz od (NDo P w F kvs))) D (.lst [])) B' H' ∧ H' D = some (.lst us) ∧ B' D = none ∧ PvAt K B' us (acc.take i)) ⟨B5', [], Stp.refl exD, upd_same, ex_none ex7 nD, .nil⟩ (fun i H' _ z => ?_) (fun i xk H' H9 hi z hy => ?_) (fun H' z => ?_)
        · obtain ⟨B', us, s, _⟩ := z
          exact s.fr F _ (by simpa using hFD) ((upd_ne hFD).trans upd_same)
        · obtain ⟨B', us, s, hD9, bD, hpu⟩ := z
          obtain ⟨rfl, en, hen, rfl⟩ := hy
          obtain ⟨pq, hpq, g1, g2, g3, g4⟩ := VkAt.at hkv5 hnodup hen
          have hF9 := s.fr F _ (by simpa using hFD) ((upd_ne hFD).trans upd_same)
          have eB9 := s.base.trans s.in_
          refine ⟨rfl, yes_if ?_⟩
          refine ⟨_, rfl, _, rfl, _, rfl, F, en.2.1, en.1, kvs, en.2.2, rfl, rfl, .inr ⟨od, hF9⟩, (hkv5.mono eB9).ks, key_mono g3 eB9, g4, (show 2 ≤ sizeLine by omega), fun T nT => ?_⟩
          have hul : us.length ≤ 400 := by
            have := Paired.length hpu
            rw [List.length_take] at this
            omega
          have s9 := Stp.new (ms := [D]) (o := .tup [.ref en.2.1, en.2.2]) s.in_ nT
          have hDT : D ≠ T := fun z => by subst z; rw [hD9] at nT; cases nT
          have bD2 : upd B' T (.tup [.ref en.2.1, en.2.2]) D = none := by rw [upd_ne hDT]; exact bD
          refine ⟨us, (upd_ne hDT).trans hD9, by omega, _, us ++ [.ref T], (s.trans s9).trans (Stp.put s9.in_ bD2 (.head _)), upd_same, bD2, ?_⟩
          rw [List.take_add_one, hpq]
          refine Paired.snoc (hpu.mono s9.base) ⟨T, en.2.1, rfl, by rw [upd_same, g2], ?_⟩
          rw [← g1]
          exact key_mono g3 (s.base.trans s9.base)
        · obtain ⟨B', us, s, hD9, bD, hpu⟩ := z
          rw [hkl, List.take_length] at hpu
          have hF9 := s.fr F _ (by simpa using hFD) ((upd_ne hFD).trans upd_same)
          have bF9 : B' F = none := s.off bF5 ((upd_ne hFD).trans upd_same)
          refine ⟨hF9, ?_⟩
          have eB : Ex B' (upd H' F (NDo P w F kvs)) := Ex.mut s.in_ bF9
          have e69 : Ex H6' (upd H' F (NDo P w F kvs)) := fun b o hb => by
            by_cases hbF : b = F
            · subst hbF
              rw [upd_same, ← hF6]; exact hb
            · rw [upd_ne hbF]
              have hbD : b ≠ D := fun z => by
                subst z
                rw [upd_ne hbF] at nD
                rw [nD] at hb; cases hb
              exact s.fr b o (by simpa using hbD) ((upd_ne hbD).trans ((upd_ne hbF).trans hb))
          have hDf : upd H' F (NDo P w F kvs) D = some (.lst us) := (upd_ne (Ne.symm hFD)).trans hD9
          refine ⟨.ref l5, .ref D, .list (acc.map pvD), .list (acc.map pvD), rfl, .lst (sq_of (e69 _ _ hl5)) (dpa_mono e69 (pv_dp hpv5)), .lst (sq_of hDf) (dpa_mono eB (pv_dp hpu)), ⟨by rw [List.length_map]; omega, fun d hd => ?_⟩, fun H10 e10 => ?_⟩
          · obtain ⟨pp, hp1, rfl⟩ := List.mem_map.mp hd
            refine ⟨by show 2 ≤ 100000; omega, fun d2 hd2 => ?_⟩
            rcases List.mem_cons.mp hd2 with rfl | hd2
            · exact vw_dep (hvok pp hp1)
            · rw [List.mem_singleton.mp hd2]; trivial
          · rw [same_t rfl]
            refine ⟨true, rfl, iteF ⟨some y, u11, s.base.trans (eB.trans e10), e10 _ _ upd_same, rfl⟩⟩
      · rintro σ H'' ⟨u10, u11, ex5, hFj, rfl⟩
        exact ⟨_, _, _, _, _, e.trans (e3.trans (e35.trans ex5)), rfl⟩
    · rintro σ H' ⟨u7, u8, u9, u10, u11, e, rfl⟩
      have e11 := e10.trans ((Ex.new nq).trans e)
      have hT' := hT8.mono e11
      have hD' := hD8.mono e11
      have hM' := hM8.mono e11
      refine s_ret (v := .bl true) (ev_is (ev_andV (a := true) (b := true) (like_ev (E := E) (i := 6) (j := 3) rfl rfl hM' hD' ok wf) fun _ => ev_is (ev_andV (a := true) (b := true) (same_ends (E := E) (i := 6) (j := 3) rfl rfl hM' hD' ok) fun _ => same_ends (E := E) (i := 4) (j := 3) rfl rfl hT' hD' ok) rfl) rfl) fun H10 x10 => k H10
  · have hg4 := hg.mono s4.base
    obtain ⟨gg, va, ba, o, ps, rfl, hgg, hva, hob, hps, hbl⟩ := id hg4
    have sx := ex_t s4.in_ hgg
    obtain ⟨ba', bxs, hba0, hbas, _⟩ := dp_tupK hbl
    cases hba0
    dsimp only [gName]
    refine ⟨_, rfl, gg, _, _, _, rfl, rfl, sx, rfl, _, rfl, gg, _, _, _, rfl, rfl, sx, rfl, fun x dx nx ndx ne => ?_⟩
    have s5 := Stp.made (ms := []) (C := ga K "Game") (fs := gmFs va ba) s4.in_ nx ndx ne
    have eHx : Ex H4 (upd (upd H4 dx (.own x)) x (.ins (ga K "Game") dx [])) := (Ex.new ndx).trans (Ex.new (by rw [upd_ne ne.symm]; exact nx))
    refine ⟨x, dx, va, ba, ps.map V.ref, bxs, rfl, upd_same, ex_t eHx (s4.in_ |> fun e => .inl (.inr ⟨o, e _ _ hva⟩)), ex_t eHx (ex_t s4.in_ hbas), rfl, ?_⟩
    rw [upd_twice]
    have hgm : GmAt K _ (.ref x) zs S := ⟨x, dx, va, ba, o, ps, rfl, upd_same, s5.base _ _ hva, hob, hps.mono s5.base, dp_mono s5.base hbl⟩
    refine ⟨.ref x, _, zs, S, rfl, s5.in_, hgm, ho, fun tr2 c2 av B6 H6 h6 s6 hav => absurd (hno.symm.trans h6) (fun z => nomatch z), fun _ H6 d e6 hd8 => ?_⟩
    refine ⟨true, T.em_TooLarge_LossError, fun _ a' na => ⟨⟨rfl, rfl⟩, ?_⟩, fun h => Bool.noConfusion h⟩
    refine s_ret (v := .bl true) (ev_is (ev_andV (a := true) (b := true) (fun H1 e Q q => ⟨_, rfl, rfl, q H1 (Ex.refl _)⟩) fun _ => ev_is (ev_andV (a := true) (b := true) (fun H9 x9 Q9 q9 => ⟨_, rfl, _, _, _, _, rfl, x9 _ _ hd8, (fun u r => r), T.ki_TooLarge_TooLarge, q9 H9 (Ex.refl _)⟩) fun _ => ev_is (ev_andV (a := true) (b := true) (ev_notV (a := false) fun H9 x9 Q9 q9 => ?_) fun _ => fun H1 e1 Q1 q1 => ?_) rfl) rfl) rfl) fun H10 x10 => k H10
    · refine ⟨_, rfl, by show 6 ≤ sizeLine; decide, fun t nt => ?_⟩
      have x10 := Ex.new (o := .tup [.ref (ga K "BadPaper"), .ref (ga K "BadPlan"), .ref (ga K "BadRatio"), .ref (ga K "BadText"), .ref (ga K "NoPlan"), .ref (ga K "NoShare")]) nt
      refine ⟨t, _, _, false, _, rfl, x10 _ _ (x9 _ _ hd8), upd_same, .cons (.own _) (.cons (.own _) (.cons (.own _) (.cons (.own _) (.cons (.own _) (.cons (.own _) .nil))))), ?_, q9 _ x10⟩
      simp only [PySem.W.kitAny, T.ki_TooLarge_BadPlan, T.ki_TooLarge_BadRatio, T.ki_TooLarge_BadText, T.ki_TooLarge_NoPlan, T.ki_TooLarge_NoShare, T.ki_TooLarge_BadPaper]
    · refine ⟨_, rfl, rfl, rfl, d, _, .str "nodes", rfl, e1 _ _ hd8, rfl, "nodes", "nodes", rfl, fun H2 e2 => ?_⟩
      rw [decide_eq_true rfl]
      exact q1 H2 e2
end
end LL
namespace LL
open PySem PySem.Spec PyProof.Rows L2 He Evl
/-- the end of a law whose defs may let errors out -/
theorem walk_ofX {l : PySem.W.OpenLaw} {n k : Nat} {q : Program} {loose : List Str} {XP : (Str → Option Value) → Heap → Prop} {YP : World → Heap → Prop} {d : DefRec} {CX : World → CXT} {x : Str}
    (hn : l.most = some n) (hn2 : n ≤ sizeLine) (hdf : d.params.defaults = []) (hr : Room k callerA)
    (F : ∀ (w : World) (mg : Str → Option Value) (fa : Addr) (h : Heap), YP w h → h.Ns mainGlobals mg → mg d.name = some (.ref fa) →
      ∃ (K : PySem.W.Frag) (fd : FuncData) (sp : Sp), K.In h ∧ (∀ (s : Shared) (u : Value), BindsTo s fd ⟨[u], []⟩ [(x, u)]) ∧
        (∀ (H : Hp) (a : Addr) (ns : List Int), ns.length ≤ n → Only H → SqL K H a (ns.map V.int) → sp [.ref a] H (fun v _ => v = .bl true) fun _ _ _ => False) ∧
        ∀ base : Heap, K.In base → base.Ns mainGlobals mg → FnOk l.prog w K mg base (CX w) k fa fd [x] sp)
    (hCX : ∀ (w : World) (H : Hp) (s : Shared) (e : Value) (s' : Shared), CX w [] H s (fun _ _ _ => False) e s' → False) :
    PySem.W.WalkO q loose XP YP l.row.toRowW d [] (fun f vs => PySem.call f vs) := by
  refine Att.attach_call hn hdf fun w s₀ s₁ mg mb fa o pm cd doc a vs ns G Y ho hd hcd hmg hobj hints hlen hg => ?_
  obtain ⟨K, fd, sp, KX, hb, hsp, hF⟩ := F w mg fa _ Y G.T.g hmg
  exact law_call KX G.T.g G.T.b G.T.builtins G.T.nolimit hg hobj hints (Nat.le_trans hlen hn2) hr hF hb (fun H hO hS => hsp H a ns hlen hO hS) fun H e s' => hCX w H s₁ e s'
theorem cx_end {P : Program} {w : World} {H : Hp} {s : Shared} {e : Value} {s' : Shared} (h : L2.CX P w [] H s (fun _ _ _ => False) e s') : False := by
  obtain ⟨a, B, H', cls, d, _, _, _, _, _, _, _, q⟩ := h
  exact q
theorem law_facts {w : World} {K : PySem.W.Frag} {h : Heap} {mg : Str → Option Value} {f : Addr} (X : K.In h) (G : h.Ns mainGlobals mg) (hfa : mg ("law" : Str) = some (.ref f)) (T : Txt K mg) (W : TabW w K) :
    ∃ fd : FuncData, (∀ (s : Shared) (v : Value), BindsTo s fd ⟨[v], []⟩ [("_law_script", v)]) ∧ ∀ base : Heap, K.In base → base.Ns mainGlobals mg → FnOk P w K mg base (L2.CX P w) 60 f fd ["_law_script"] (spLaw K) := by
  obtain ⟨fd, F⟩ := T.d_law
  have e := hfa.symm.trans T.g_law
  cases e
  have b := FunD.bindsA (ps := ["_law_script"]) F fun _ _ _ _ _ _ us hl => match us, hl with | [_], _ => rfl
  exact ⟨fd, fun s v => b s [v] rfl, fun base _ _ => ok_law W T F⟩
end LL
open PySem PySem.W PySem.Calls PyProof.Rows
set_option maxRecDepth 100000 in
set_option maxHeartbeats 0 in
theorem PySem.Challenge.cw_lostleast_k10_trees_holds : PySem.Challenge.rw_lostleast_k10_trees.Holds := by
  w_on; o_law
  refine HandSHeadRun.head_any (r := LL.R) (q := view LL.R.prog [LL.lawAt]) (H := LL.hk) (ob := LL.ob) (M := 60000) (loose := LL.names) (d := HandSHeadRun.topDef LL.R.prog LL.lawAt) (kwd := []) LL.ob_eq
    (by kernel_rfl) (fun s => by kernel_rfl) LL.run (by kernel_rfl) (by kernel_rfl) (by kernel_rfl) (by rfl) (by first | assumption | decide +kernel) (by decide +kernel) ⟨rfl, rfl, rfl, rfl, rfl, by decide +kernel⟩ ?hw ?hc
  case hw => w_witness2
  case hc =>
    refine LL.walk_ofX (l := PySem.Challenge.rw_lostleast_k10_trees) (n := 63) (k := 60) (x := "_law_script") (CX := fun w => L2.CX (PySem.Challenge.rw_lostleast_k10_trees).prog w) rfl (by decide) (by kernel_rfl) ⟨rfl, by decide, by decide⟩ ?F (fun _ _ _ _ _ z => LL.cx_end z)
    intro w mg fa h Y G hmg0
    obtain ⟨K, KX, c, z⟩ := Y
    have hmg : mg ("law" : PySem.Str) = some (.ref fa) := by
      have e : (HandSHeadRun.topDef LL.R.prog LL.lawAt).name = ("law" : PySem.Str) := by kernel_rfl
      rw [← e]
      exact hmg0
    obtain ⟨fd, hb, hF⟩ := LL.law_facts (w := w) KX G hmg (LL.txt_of KX G c z) (LL.tabW_of c)
    exact ⟨K, fd, LL.spLaw K, KX, hb, fun H a ns hl _ hS => ⟨a, ns, rfl, hS, hl, fun _ => rfl⟩, hF⟩
#print axioms PySem.Challenge.cw_lostleast_k10_trees_holds
