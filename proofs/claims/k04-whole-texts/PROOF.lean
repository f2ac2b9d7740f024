import PyProof.Rows.All
import Wide.All
import OpenK.AllK
import Wide.FinOn
import KE.KStateDown
import Lean
import HandS.ForMost
import HandS.Exc
import HandS.ExcOwn
import HandS.ExcSuper
import HandS.ExcIs
import HandS.TryOnly
import HandS.WordsExc
import HandS.Defaults
import HandS.MakeKw
import HandS.MakeKwOnly
import HandS.More
import HandS.Star
import HandS.IsInst
import HandS.FStr
import HandS.Wide
import HandS.OwnEq
import HandS.SlotsOwn
import HandS.Evl
import HandS.Head0
import HandS.Head1
import HandS.Head2
import HandS.HeadEnd
import HandS.HeadHook1
import HandS.HeadHook2
import HandS.HeadHook3
import HandS.HeadHook4
import HandS.ExcInit
import HandS.ExcField
import KE.KExcSuper
import KE.KSuper
import HandS.Deep
import HandS.DictTup
import KE.KDictKeyed
import KE.KDictItemsList
import HandS.Conv
import HandS.Codes
import HandS.Walk
import HandS.RaiseMore
import HandS.TupAny
import KE.IntTextLaws
import PyProof.P3In
import HandS.HotCalls
import KE.KExcIs
import HandS.ExcInitHot
import PySem.Challenge.RW_lostleast_k04_whole_texts_are_read_exact
set_option Elab.async false
set_option linter.all false
set_option maxRecDepth 100000
set_option maxHeartbeats 0
set_option exponentiation.threshold 20000
/-! an exception class of the program's whose __init__ says super().__init__(text); self.f = x -/
namespace SupX
open PySem PySem.W PySem.Calls PyProof.Rows PySem.Spec
section
variable {P : Program} {w : World} {A : Around} {h : Heap} {g : Array GenState} {d : Drawn} {t : Nat} {os : OsState} {K : Frag} {mg mb : Str → Option Value}
variable {C fI cc cda e t0 : Addr} {f x : Str} {v : Value} {oc ccl cl : Value} {od cdd cld : Option Addr} {osl ccs csl : Array (Option Value)} {vs : Array Value} {file : Str} {tf : Tok}
variable {name qual : Str} {params : Arguments} {body : List Stmt} {scope : Scope} {dV kV doc pm ct : Value} {an : Option Addr} {ar : Arg}
variable {p0 p1 p2 p3 p4 p5 p6 p7 p8 p9 : Pos} {txt : Str} {ck : Nat}
theorem init_run {R : Result → Shared → Prop} (hroom : A.depth < recursionLimit) (X : K.In h) (hlim : h.NoLimit) (G : h.Ns mainGlobals mg) (hms : mg "super" = none) (B : h.Ns builtinsNs mb) (hbs : mb "super" = some (.type "super"))
    (T : L2.OexC K C) (lk : K.lookup fI = some ⟨oc, od, .func (ksFn name qual params body scope dV kV doc pm an (.ref cda) ct cc), osl⟩) (hcd : codeIn K (.ref cda) qual = true)
    (hcode : K.lookup cda = some ⟨ccl, cdd, .fields vs, ccs⟩) (hvs : vs[2]? = some (.str file tf)) (hfile : ((P.main.file : Str) == file) = true) (hcell : K.lookup cc = some ⟨cl, cld, .cell (some (.ref C)), csl⟩)
    (hsup : ks_superIn K C C "__init__" = some (some (.builtin "ValueError.__init__"))) (hsub : mroIn K C (.ref C) = some true) (hVE : subIn K (.ref C) (.type "ValueError") = some true) (hany : nsIn K cStatics "thirdparty.any" = some none)
    (hf : findIn K (.ref C) f = some none) (hcls : ∃ oC cd, h.get? C = some oC ∧ oC.data = .cls cd)
    (htop : (P.main.scope.names.lookup ("super" : Str)).isSome = false)
    (hb : ∀ s : Shared, BindsTo s (ksFn name qual params body scope dV kV doc pm an (.ref cda) ct cc) ⟨[.ref e, v], []⟩ [("self", .ref e), (x, v)])
    (hp : (params.posonlyargs ++ params.args).head? = some ar) (har : ar.arg = ("self" : Str))
    (hbody : body = [.Expr (.Call (.Attribute (.Call (.Name "super" p0) [] [] p1) "__init__" p2) [.Constant (.str txt) ck p3] [] p4) p5, .Assign [.Attribute (.Name "self" p6) f p7] (.Name x p8) p9])
    (sk : scope.kind = .function) (sco : scope.isCoroutine = false) (sge : scope.isGenerator = false) (ss : scope.names.lookup ("super" : Str) = some .globalImplicit) (sc : scope.names.lookup ("__class__" : Str) = some .free)
    (sl : scope.names.lookup ("self" : Str) = some .local) (sx : scope.names.lookup x = some .local) (scell : ∀ y ∈ scope.names, y.2 ≠ .cell) (hxs : ¬ x = ("self" : Str)) (hxd : (x == ("__debug__" : Str)) = false)
    (k1 : ∀ L, interactive (ksEnv qual scope L fI (.ref cda) cc) = false)
    (k2 : ∃ pl : Sem Bool, ∀ L, eval (.Call (.Attribute (.Call (.Name "super" p0) [] [] p1) "__init__" p2) [.Constant (.str txt) ck p3] [] p4) (ksEnv qual scope L fI (.ref cda) cc) = (do
      let ov ← attributeBase (.Call (.Name "super" p0) [] [] p1) "__init__" (ksEnv qual scope L fI (.ref cda) cc) (eval (.Call (.Name "super" p0) [] [] p1) (ksEnv qual scope L fI (.ref cda) cc))
      standAt p2.atName
      let (f, first) ← holding [ov] (getMethod ov "__init__" pl)
      callWith p4 f first (backTo p4 (starEach [.Constant (.str txt) ck p3] (ksEnv qual scope L fI (.ref cda) cc))) []))
    (k3 : ∀ L, swapsWith (.Call (.Attribute (.Call (.Name "super" p0) [] [] p1) "__init__" p2) [.Constant (.str txt) ck p3] [] p4) none p5.line (ksEnv qual scope L fI (.ref cda) cc) = pure false)
    (k4 : ∀ L, swapsWith (.Name x p8) (some (.Attribute (.Name "self" p6) f p7)) p9.line (ksEnv qual scope L fI (.ref cda) cc) = pure false)
    (he : h.get? e = some (HandSPX.excO C t0)) (hKe : ∀ o, K.lookup e ≠ some o)
    (hq : ∀ h' t' dx t1, (∀ b o, b ≠ e → h.get? b = some o → h'.get? b = some o) → h.objs.size ≤ dx → dx ≠ e → h'.get? e = some { cls := .ref C, dict := some dx, data := .fields #[.ref t1, .none, .none, .none, .bool false, .none] } →
      h'.Ns1 dx (fun y => if y = f then some v else none) → R (.ok (.ret .none)) ⟨h', g, d, t', os⟩) :
    codeAny (model P w) A (.call (.ref fI) ⟨[.ref e, v], []⟩) R ⟨h, g, d, t, os⟩ := by
  have hloc : ∀ y ∈ [(("self" : Str), Value.ref e), (x, v)], scope.names.lookup y.1 = some .local := by
    intro y hy
    simp only [List.mem_cons, List.not_mem_nil, or_false] at hy
    rcases hy with rfl | rfl
    · exact sl
    · exact sx
  refine ks_codeAny_call_defAt (body := body) hroom (X _ _ lk) rfl hlim (codeRec_of X hcd) rfl (hb _) scell hloc (fun h0 hns k0 => ?_) sco sge sk
  subst hbody
  have X0 : K.In h0 := X.keeps k0
  have eC := k0 _ _ he
  obtain ⟨oC, cdC, hC1, hC2⟩ := hcls
  have hnL : h0.Ns h.objs.size (fun y => [(("self" : Str), Value.ref e), (x, v)].reverse.lookup y) := hns
  have em : ∀ y, [(("self" : Str), Value.ref e), (x, v)].reverse.lookup y = if y = x then some v else if y = ("self" : Str) then some (.ref e) else none := by
    intro y
    show [(x, v), (("self" : Str), Value.ref e)].lookup y = _
    by_cases h1 : y = x
    · subst h1; simp [List.lookup]
    · have e1 : (y == x) = false := by simpa using h1
      rw [if_neg h1]
      by_cases h2 : y = ("self" : Str)
      · subst h2; simp [List.lookup, e1]
      · have e2 : (y == ("self" : Str)) = false := by simpa using h2
        rw [if_neg h2]
        simp [List.lookup, e1, e2]
  have hns1 : h0.Ns h.objs.size (fun y => if y = x then some v else if y = ("self" : Str) then some (.ref e) else none) := by
    have := hnL
    rw [show (fun y => [(("self" : Str), Value.ref e), (x, v)].reverse.lookup y) = _ from funext em] at this
    exact this
  have hself : (fun y => if y = x then some v else if y = ("self" : Str) then some (Value.ref e) else none) ("self" : Str) = some (.ref e) := by
    show (if ("self" : Str) = x then _ else _) = _
    rw [if_neg (fun z => hxs z.symm), if_pos rfl]
  have hxv : (fun y => if y = x then some v else if y = ("self" : Str) then some (Value.ref e) else none) x = some v := if_pos rfl
  obtain ⟨pl, hpl⟩ := k2
  have hLe : h.objs.size ≠ e := Nat.ne_of_gt (Heap.lt_size he)
  refine ks_wpAt_execs_cons (ks_wpAt_Expr_any (ks_wpAt_MethodCall (pl := pl) ?_ (hpl _)) (k1 _) (k3 _))
  · refine ks_wpAt_super_base (env := callEnv (ksFn name qual params _ scope dV kV doc pm an (.ref cda) ct cc) h.objs.size fI) ss sc (by decide) rfl (X0 _ _ lk) rfl hp rfl (X0 _ _ hcode) rfl hvs hfile htop ?_
    refine ks_loadName_global sk ss (loadGlobal_builtin (G.keeps k0) hms (B.keeps k0) hbs ⟨rfl, ?_⟩)
    refine wpAny_loadName_free sk sc (c := cc) (v := .ref C) rfl ⟨_, X0 _ _ hcell, rfl⟩ ?_
    rw [har]
    refine wpAny_loadName_local sk sl hns1 (v := .ref e) hself ?_
    refine ks_wpAny_isType_cls (k0 _ _ hC1) hC2 ⟨rfl, ?_⟩
    refine ks_wpAny_call_super (k0 _ _ hC1) hC2 eC rfl (fun c z => nomatch z) (looks_mroIn X0 hsub) fun h1 hso k1' => ?_
    have X1 : K.In h1 := X0.keeps k1'
    have e1 := k1' _ _ eC
    have ns1 := hns1.keeps k1'
    -- the method
    have I1 : InstAt h1 e (HandSPX.excO C t0) C none := ⟨e1, rfl, rfl, trivial⟩
    have hI : Looks (model P w) h1 (isInstance (.ref e) (.type "ValueError")) true := I1.type.andThen (looks_subIn X1 hVE)
    cases hc : clsIn K C with
    | none => unfold ks_superIn at hsup; rw [hc] at hsup; cases hsup
    | some cd =>
      have hsup' := hsup
      unfold ks_superIn at hsup'
      rw [hc] at hsup'
      refine kxs_getMethod kxs_ValueError hso (looks_opaque X1 hany) (l₀ := cd.mro) ?_ rfl X1 hsup' hI (ks_ne X1 I1 hc) (by decide) ?_
      · exact fun A Q E s k q => wpAny_bind ((looks_clsIn X1 hc) A _ E s k (wpAny_pure q))
      -- the call
      have k2 : ∀ b o, h1.get? b = some o → (h1.push (kxs_mw "ValueError.__init__" e)).get? b = some o := fun b o z => Heap.get?_push_of_some _ z
      have hmw : (h1.push (kxs_mw "ValueError.__init__" e)).get? h1.objs.size = some (kxs_mw "ValueError.__init__" e) := Heap.get?_push_size _ rfl
      refine kxs_callWith (i := "ValueError.__init__") (x := e) rfl (evalArgs_plain ?_)
      refine spliced_cons (Constant_str (k := ck) (pos := p3) (spliced_nil ⟨hmw, ?_⟩))
      obtain ⟨nm, q, N, bs, bm, sn, sub, ab, col, dd, z0, z1, z2, z3, z5, hCl, hbm⟩ := T.cls
      have FB := F.excBase_ValueError
      have X2 : K.In (h1.push (kxs_mw "ValueError.__init__" e)) := X1.keeps k2
      have e2 := k2 _ _ e1
      have ns2 := ns1.keeps k2
      have k02 : ∀ b o, h.get? b = some o → (h1.push (kxs_mw "ValueError.__init__" e)).get? b = some o := fun b o z => k2 b o (k1' b o (k0 b o z))
      generalize h1.push (kxs_mw "ValueError.__init__" e) = h2 at X2 e2 ns2 k02 hmw ⊢
      refine wpAny_call (codeAny_of_tree ?_)
      show wpAny _ _ (callAny (.ref h1.objs.size) ⟨_, []⟩) _ _ _
      simp only [callAny]
      refine wpAny_bind (wpAny_load hmw ?_)
      simp only [kxs_mw, show (Value.type "method-wrapper" == Value.type "method" || Value.type "method-wrapper" == Value.type "builtin_function_or_method" || Value.type "method-wrapper" == Value.type "method-wrapper") = true by decide, if_true]
      refine KFB.if_so (by decide) ?_
      refine wpAny_bind (check_bound_init FB.toExcCallFacts (X2 _ _ hCl) e2 rfl ?_)
      refine wpAny_bind (wpAny_pure (wpAny_pure ?_))
      refine ⟨plainId_quiet FB.init.plain _, codeAny_builtin FB.initEntry ?_⟩
      refine exc_init_tree (cls := .ref C) (t0 := t0) (dv := none) (c2 := .none) (c3 := .none) (b4 := .bool false) e2 (by show 1 ≤ sizeLine; decide) fun h3 kk3 e3 _ => ?_
      -- self.f = x
      have X3 : K.In h3 := fun b o z => by
        refine kk3 b o (fun y => ?_) (X2 _ _ z)
        subst y
        exact hKe o z
      have ns3 : h3.Ns h.objs.size _ := let ⟨oL, es, ep, hL, r⟩ := ns2; ⟨oL, es, ep, kk3 _ _ hLe hL, r⟩
      have k03 : ∀ b o, b ≠ e → h.get? b = some o → h3.get? b = some o := fun b o y z => kk3 b o y (k02 b o z)
      refine wpAt_of_wpAny (wpAny_execs_cons (plainObj_wpAny_Assign_Attribute ?_ (k4 _)))
      refine wpAny_Name (wpAny_loadName_local sk sx ns3 (v := v) hxv ?_) hxd
      refine wpAny_Name (wpAny_loadName_local sk sl ns3 (v := .ref e) hself ?_) (by decide)
      refine set_plain (ox := { cls := .ref C, data := .fields #[.ref h2.objs.size, .none, .none, .none, .bool false, .none] }) (od := none) X3 ⟨e3, rfl, rfl, trivial⟩ T.sa ?_
      have hcl : clsIn K C = some { name := nm, bases := bs, mro := .ref C :: bm, ns := N, qualname := q, hasDict := true, slotNames := sn, subclasses := sub, abstract := ab, collection := col, hasDel := false } := by unfold clsIn; rw [hCl] <;> rfl
      refine HandSPX.exc_osa X3 e3 hcl (show HandSPX.refsVE (.ref C :: bm) = true from hbm) rfl hf fun h4 t4 dx kk4 dn dne e4 ns4 => ?_
      refine wpAny_execs_nil (hq h4 _ dx _ (fun b o y z => kk4 b o y (k03 b o y z)) (Nat.le_trans ?_ dn) dne e4 ns4)
      obtain ⟨oL, es, ep, hL, r⟩ := ns3
      exact Nat.le_of_lt (Heap.lt_size hL)
end
/-! ### what is asked of the written part -/
def oexB (K : Frag) (C : Addr) : Bool := match K.lookup C with
  | some ⟨.type "type", _, .cls cd, sl⟩ => (match cd.mro, sl.toList with
    | .ref C' :: bm, [_, _, _, _, some (.builtin n), _] => C' == C && n == "ValueError.__new__" && !cd.hasDel && cd.hasDict && HandSPX.refsVE bm
    | _, _ => false)
  | _ => false
theorem oexB_ok {K : Frag} {C : Addr} (q : oexB K C = true) : ∃ nm q N bs bm sn sub ab col dd k0 k1 k2 k3 k5, K.lookup C = some (excClassObj nm q C N bs bm true sn sub ab col dd k0 k1 k2 k3 k5 "ValueError.__new__") ∧ HandSPX.refsVE bm = true := by
  unfold oexB at q
  split at q
  · rename_i dd cd sl ho
    split at q
    · rename_i C' bm k0 k1 k2 k3 n k5 hm hs
      simp only [Bool.and_eq_true, beq_iff_eq, Bool.not_eq_true'] at q
      obtain ⟨⟨⟨⟨rfl, rfl⟩, hdel⟩, hdi⟩, ht⟩ := q
      obtain ⟨nm, bs, mro, ns, qn, hd, sn, sub, ab, col, del⟩ := cd
      dsimp only at hm hdel hdi
      subst hm hdel hdi
      have hsl : sl = #[k0, k1, k2, k3, some (.builtin "ValueError.__new__"), k5] := by
        obtain ⟨l⟩ := sl
        simp only at hs
        rw [hs]
      subst hsl
      exact ⟨nm, qn, ns, bs, bm, sn, sub, ab, col, dd, k0, k1, k2, k3, k5, ho, ht⟩
    · cases q
  · cases q
abbrev FnZ : Type := Option (Str × Str × Arguments × FuncBody × Scope × Addr × List Str × Addr)
/-- the class's __init__, as it is written -/
def fz (K : Frag) (C : Addr) : FnZ := match findIn K (.ref C) "__init__" with
  | some (some (.ref fI)) => (match K.lookup fI with
    | some ⟨_, _, .func fd, _⟩ => some (fd.name, fd.qualname, fd.params, fd.body, fd.scope, fd.globals, fd.closure.map (·.1), fd.builtins)
    | _ => none)
  | _ => none
/-- the rest of what is asked of the function at fI -/
def fnB (file : Str) (K : Frag) (C fI : Addr) : Bool := match K.lookup fI with
  | some ⟨_, _, .func fd, _⟩ => (match fd.closure, fd.code, fd.defaults with
    | [(_, cc)], .ref cda, .none => codeIn K (.ref cda) fd.qualname && ((match K.lookup cda with
      | some ⟨_, _, .fields vs, _⟩ => (match (vs[2]? : Option Value) with
        | some (Value.str fl _) => file == fl
        | _ => false)
      | _ => false) && (match K.lookup cc with
      | some ⟨_, _, .cell (some (.ref C')), _⟩ => C' == C
      | _ => false))
    | _, _, _ => false)
  | _ => false
def eqT {α : Type} [DecidableEq α] (a b : α) : Bool := decide (a = b)
def eqV : Option (Option Value) → Option (Option Value) → Bool
  | none, none => true
  | some none, some none => true
  | some (some a), some (some b) => a == b
  | _, _ => false
def supB (file : Str) (K : Frag) (C : Addr) (f : Str) : Bool := oexB K C && ((match findIn K (.ref C) "__init__" with
  | some (some (.ref fI)) => fnB file K C fI && (typeIn K (.ref fI) == some (.type "function"))
  | _ => false) && ((match findIn K (.ref C) "__setattr__" with
  | some (some (.builtin n)) => n == "object.__setattr__"
  | _ => false) && ((subIn K (.ref C) (.type "BaseException") == some true) && ((typeIn K (.ref C) == some (.type "type")) && (keepIn K (.ref C) && ((match ks_superIn K C C "__init__" with
  | some (some (.builtin n)) => n == "ValueError.__init__"
  | _ => false) && ((mroIn K C (.ref C) == some true) && ((subIn K (.ref C) (.type "ValueError") == some true) && ((match nsIn K cStatics "thirdparty.any" with
  | some none => true
  | _ => false) && (match findIn K (.ref C) f with
  | some none => true
  | _ => false))))))))))
/-- a class whose __init__(self, x) says super().__init__(text); self.f = x -/
structure SupC (P : Program) (K : Frag) (C : Addr) (f : Str) : Prop where
  oex : L2.OexC K C
  fn : ∃ fI, findIn K (.ref C) "__init__" = some (some (.ref fI)) ∧ typeIn K (.ref fI) = some (.type "function") ∧ ∀ (w : World) (A : Around) (h : Heap) (g : Array GenState) (d : Drawn) (t : Nat) (os : OsState) (mg mb : Str → Option Value) (e t0 : Addr) (v : Value) (R : Result → Shared → Prop),
    A.depth < recursionLimit → K.In h → h.NoLimit → h.Ns mainGlobals mg → mg "super" = none → h.Ns builtinsNs mb → mb "super" = some (.type "super") → h.get? e = some (HandSPX.excO C t0) → (∀ o, K.lookup e ≠ some o) →
    (∀ h' t' dx t1, (∀ b o, b ≠ e → h.get? b = some o → h'.get? b = some o) → h.objs.size ≤ dx → dx ≠ e → h'.get? e = some { cls := .ref C, dict := some dx, data := .fields #[.ref t1, .none, .none, .none, .bool false, .none] } →
      h'.Ns1 dx (fun y => if y = f then some v else none) → R (.ok (.ret .none)) ⟨h', g, d, t', os⟩) → codeAny (model P w) A (.call (.ref fI) ⟨[.ref e, v], []⟩) R ⟨h, g, d, t, os⟩
theorem sup_of {P : Program} {K : Frag} {C : Addr} {f x : Str} {name qual : Str} {params : Arguments} {body : List Stmt} {scope : Scope} {ar : Arg} {p0 p1 p2 p3 p4 p5 p6 p7 p8 p9 : Pos} {txt : Str} {ck : Nat}
    (sb : supB P.main.file K C f = true) (ez : fz K C = some (name, qual, params, FuncBody.stmts body, scope, mainGlobals, [("__class__" : Str)], builtinsNs))
    (htop : (P.main.scope.names.lookup ("super" : Str)).isSome = false)
    (hb : ∀ (cl : List (Str × Addr)) (kV doc pm : Value) (an : Option Addr) (cdv ct : Value) (a b : Value), bindArgs (fnX name qual params body scope cl .none kV doc pm an cdv ct) ⟨[a, b], []⟩ = pure [(("self" : Str), a), (x, b)])
    (hp : (params.posonlyargs ++ params.args).head? = some ar) (har : ar.arg = ("self" : Str))
    (hbody : body = [.Expr (.Call (.Attribute (.Call (.Name "super" p0) [] [] p1) "__init__" p2) [.Constant (.str txt) ck p3] [] p4) p5, .Assign [.Attribute (.Name "self" p6) f p7] (.Name x p8) p9])
    (sk : scope.kind = .function) (sco : scope.isCoroutine = false) (sge : scope.isGenerator = false) (ss : scope.names.lookup ("super" : Str) = some .globalImplicit) (sc : scope.names.lookup ("__class__" : Str) = some .free)
    (sl : scope.names.lookup ("self" : Str) = some .local) (sx : scope.names.lookup x = some .local) (scell : ∀ y ∈ scope.names, y.2 ≠ .cell) (hxs : ¬ x = ("self" : Str)) (hxd : (x == ("__debug__" : Str)) = false)
    (k1 : ∀ L fI cdv cc, interactive (ksEnv qual scope L fI cdv cc) = false)
    (k2 : ∃ pl : Sem Bool, ∀ L fI cdv cc, eval (.Call (.Attribute (.Call (.Name "super" p0) [] [] p1) "__init__" p2) [.Constant (.str txt) ck p3] [] p4) (ksEnv qual scope L fI cdv cc) = (do
      let ov ← attributeBase (.Call (.Name "super" p0) [] [] p1) "__init__" (ksEnv qual scope L fI cdv cc) (eval (.Call (.Name "super" p0) [] [] p1) (ksEnv qual scope L fI cdv cc))
      standAt p2.atName
      let (f, first) ← holding [ov] (getMethod ov "__init__" pl)
      callWith p4 f first (backTo p4 (starEach [.Constant (.str txt) ck p3] (ksEnv qual scope L fI cdv cc))) []))
    (k3 : ∀ L fI cdv cc, swapsWith (.Call (.Attribute (.Call (.Name "super" p0) [] [] p1) "__init__" p2) [.Constant (.str txt) ck p3] [] p4) none p5.line (ksEnv qual scope L fI cdv cc) = pure false)
    (k4 : ∀ L fI cdv cc, swapsWith (.Name x p8) (some (.Attribute (.Name "self" p6) f p7)) p9.line (ksEnv qual scope L fI cdv cc) = pure false) : SupC P K C f := by
  simp only [supB, Bool.and_eq_true, beq_iff_eq] at sb
  obtain ⟨b1, b2, b3, b4, b5, b6, b7, b8, b9, b10, b11⟩ := sb
  have hcls := oexB_ok b1
  have T : L2.OexC K C := by
    refine ⟨hcls, ?_, b4, b5, b6⟩
    split at b3
    · rename_i n hn
      rw [hn, beq_iff_eq.mp b3]
    · cases b3
  have hsup : ks_superIn K C C "__init__" = some (some (.builtin "ValueError.__init__")) := by
    split at b7
    · rename_i n hn
      rw [hn, beq_iff_eq.mp b7]
    · cases b7
  have hany : nsIn K cStatics "thirdparty.any" = some none := by
    split at b10
    · assumption
    · cases b10
  have hf : findIn K (.ref C) f = some none := by
    split at b11
    · assumption
    · cases b11
  split at b2
  case h_2 => cases b2
  rename_i fI hfI
  obtain ⟨c1, c2⟩ := Bool.and_eq_true_iff.mp b2
  have hty : typeIn K (.ref fI) = some (.type "function") := beq_iff_eq.mp c2
  refine ⟨T, fI, hfI, hty, fun w A h g d t os mg mb e t0 v R hroom X hlim G hms B hbs he hKe hq => ?_⟩
  unfold fz at ez
  rw [hfI] at ez
  dsimp only at ez
  unfold fnB at c1
  cases lk : K.lookup fI with
  | none => rw [lk] at c1; cases c1
  | some o =>
    obtain ⟨oc, od, dt, osl⟩ := o
    rw [lk] at c1 ez
    cases dt with
    | func fd =>
      obtain ⟨n1, n2, n3, n4, n5, n6, n7, n8, n9, n10, n11, n12, n13, n14, n15⟩ := fd
      simp only [Option.some.injEq, Prod.mk.injEq] at ez
      obtain ⟨h1, h2, h3, h4, h5, h6, h7, h8⟩ := ez
      subst h1 h2 h3 h4 h5 h6 h8
      simp only at c1
      split at c1
      case h_2 => cases c1
      rename_i cn cc cda
      simp only [List.map_cons, List.map_nil, List.cons.injEq, and_true] at h7
      subst h7
      simp only [Bool.and_eq_true] at c1
      obtain ⟨d1, d2, d3⟩ := c1
      split at d2
      case h_2 => cases d2
      rename_i q1 q2 vs q3 hcode
      split at d2
      case h_2 => cases d2
      rename_i fl tf hvs
      split at d3
      case h_2 => cases d3
      rename_i r1 r2 C' r3 hcell
      have hCC : C' = C := beq_iff_eq.mp d3
      subst hCC
      obtain ⟨nm, q, N, bs, bm, sn, sub, ab, col, dd, z0, z1, z2, z3, z5, hCl, hbm⟩ := hcls
      exact init_run (x := x) (R := R) hroom X hlim G hms B hbs T lk d1 hcode hvs d2 hcell hsup b8 b9 hany hf ⟨_, _, X _ _ hCl, rfl⟩ htop (fun s => BindsTo.of_eq (hb _ _ _ _ _ _ _ _ _)) hp har hbody sk sco sge ss sc sl sx scell hxs hxd (fun L => k1 L _ _ _)
        (let ⟨pl, z⟩ := k2; ⟨pl, fun L => z L _ _ _⟩) (fun L => k3 L _ _ _) (fun L => k4 L _ _ _) he hKe hq
    | _ => cases c1
end SupX
namespace L2
open PySem PySem.Spec PyProof.Rows
/-- C(e) raised: the exception's field f is the value -/
def tMkS (C : Addr) (f : Str) (ta : TA) : L2.St → Hp → XK → Prop := fun σ H Q => ta σ H fun vs H1 => ∃ y, vs = [y] ∧ ∀ d, H1 d = none → Q (.ref C) (some d) (upd H1 d (.xd [(f, y)]))
section
variable {X : Cx} {e : Expr} {p pos : Pos} {ta : TA} {x f : Str} {C : Addr}
theorem pmk_sup (T : SupX.SupC X.prog X.K C f) (hms : X.mg "super" = none) (hr : Room 2 X.A) (hg : Gl X x) (hm : X.mg x = some (.ref C)) (ha : PA X [e] ta)
    (hdb : (x == ("__debug__" : Str)) = false := by decide) (he : starEach [e] X.env = (false, eval e X.env) :: starEach [] X.env := by rfl) (hpl : (backTo pos (starEach [] X.env)).any (·.1) = false := by rfl) :
    PMk X (.Call (.Name x p) [e] [] pos) (tMkS C f ta) := by
  intro pins s σ H Q I h
  obtain ⟨nm, q, N, bs, bm, sn, sub, ab, col, dd, k0, k1, k2, k3, k5, hC, hbm⟩ := T.oex.cls
  obtain ⟨fI, iC, tI, RUN⟩ := T.fn
  refine wpAny_Call_Name_kw (ld_glob I hg hm ?_ hdb)
  refine PySem.W.callWith_K (h₀ := X.base) I.ok.mod.kin T.oex.kC (thn (ha.run pos pins s σ H _ I h) fun us s1 ⟨vs, H1, I1, r1, y, ev, q1⟩ => ⟨I1.kIn, ?_⟩) he hpl
  subst ev
  obtain ⟨u, rfl, ry⟩ := vals1 r1
  show wpAny _ _ (call (.ref C) [u]) _ _ _
  obtain ⟨mb, hmb, hbl⟩ := I1.ok.mod.blt
  have G1 := I1.ok.mod.glob.keeps I1.bk
  have B1 := hmb.keeps I1.bk
  have lim := I1.nolimit
  have kb := I1.ok.mod.kin
  have bk := I1.bk
  have hsys := I1.big
  obtain ⟨hp, g, dr, tk, os⟩ := s1
  have hsz : hp.objs.size ≤ hp.objs.size + 1 := Nat.le_succ _
  have hn : H1 (hp.objs.size + 1) = none := I1.hok.fresh hsz
  have kk : ∀ b o, hp.get? b = some o → ((hp.push (PySem.W.kdv_tup [u])).push (PySem.HandSPX.excO C hp.objs.size)).get? b = some o := fun b o e => Heap.get?_push_of_some _ (Heap.get?_push_of_some _ e)
  have hget : ((hp.push (PySem.W.kdv_tup [u])).push (PySem.HandSPX.excO C hp.objs.size)).get? (hp.objs.size + 1) = some (PySem.HandSPX.excO C hp.objs.size) := by heap_get
  have hus : [u].length ≤ sizeLine := by show 1 ≤ sizeLine; decide
  have hKe : ∀ o, X.K.lookup (hp.objs.size + 1) ≠ some o := fun o z => by
    have := Heap.lt_size (bk _ _ (kb _ _ z))
    exact Nat.lt_irrefl _ (Nat.lt_of_succ_lt this)
  refine wpAny_call (PySem.HandSPX.call_own F.excBase_ValueError (fun Y => PySem.HandSPX.refsVE_contains Y bm hbm) (I1.kIn _ _ hC) (PySem.W.looks_findIn I1.kIn iC) (fun self => PySem.W.bind_fn I1.kIn self tI) hus
    (RUN _ _ _ _ _ _ _ X.mg mb _ _ u _ (hr.make C [u] []).depth (fun b o z => kk b o (I1.kIn b o z)) (lim.keeps kk) (G1.keeps kk) hms (B1.keeps kk) ((hbl _ (by decide)).trans (by decide +kernel)) hget hKe fun h2 t2 dx t1 k2 dn dne e2 ns2 => ⟨rfl, ?_⟩))
  have hnd : H1 dx = none := I1.hok.fresh (by
    have : hp.objs.size ≤ dx := by
      have h3 : ((hp.push (PySem.W.kdv_tup [u])).push (PySem.HandSPX.excO C hp.objs.size)).objs.size ≤ dx := dn
      have h4 : hp.objs.size ≤ ((hp.push (PySem.W.kdv_tup [u])).push (PySem.HandSPX.excO C hp.objs.size)).objs.size := Nat.le_of_lt (Nat.lt_of_succ_lt (Heap.lt_size hget))
      exact Nat.le_trans h4 h3
    exact this)
  have dgt : hp.objs.size + 1 < dx := Nat.lt_of_lt_of_le (Heap.lt_size hget) dn
  have old : ∀ {b : Addr} {o : Obj}, hp.get? b = some o → h2.get? b = some o := fun {b o} z => k2 b o (Nat.ne_of_lt (Nat.lt_of_lt_of_le (Heap.lt_size z) hsz)) (kk b o z)
  have oldn : ∀ {b : Addr} {o : Obj}, hp.get? b = some o → b ≠ hp.objs.size + 1 ∧ b ≠ dx := fun {b o} z => by
    have h1 := Heap.lt_size z
    have h2 : b < hp.objs.size + 1 := Nat.lt_of_lt_of_le h1 hsz
    exact ⟨Nat.ne_of_lt h2, Nat.ne_of_lt (Nat.lt_trans h2 dgt)⟩
  have H1n : ∀ {b : Addr}, b ≠ dx → b ≠ hp.objs.size + 1 → (upd (upd H1 dx (exd dx [(f, y)])) (hp.objs.size + 1) (exo (hp.objs.size + 1) C (some dx))) b = H1 b := fun {b} h1 h2 => by rw [upd_ne h2, upd_ne h1]
  have un2 : Un (frs X.stack) [] (upd H1 (hp.objs.size + 1) (exo (hp.objs.size + 1) C none)) (upd (upd H1 dx (exd dx [(f, y)])) (hp.objs.size + 1) (exo (hp.objs.size + 1) C (some dx))) ((hp.push (PySem.W.kdv_tup [u])).push (PySem.HandSPX.excO C hp.objs.size)) h2 := by
    refine ⟨fun b o z n _ _ => ?_, fun b o z n _ _ => ⟨o.slots, ?_⟩, fun b o z n _ => ?_, fun b o z _ => ?_, fun b xs z => ?_, fun b o v z => ?_, fun b ps z => ⟨#[], ?_⟩⟩
    · exact k2 b o (fun w => by rw [w, upd_same] at n; cases n) z
    · exact k2 b o (fun w => by rw [w, upd_same] at n; cases n) z
    · have hb : b ≠ hp.objs.size + 1 := fun w => by rw [w, upd_same] at n; cases n
      rw [upd_ne hb] at n ⊢
      have : b ≠ dx := Nat.ne_of_lt (Nat.lt_of_lt_of_le (Heap.lt_size z) dn)
      rw [upd_ne this]
      exact n
    · by_cases hb : b = hp.objs.size + 1
      · exact ⟨_, by rw [hb]; exact e2⟩
      · exact ⟨o, k2 b o hb z⟩
    · have hb : b ≠ hp.objs.size + 1 := fun w => by rw [w, upd_same] at z; exact exo_tup (Option.some.inj z)
      rw [upd_ne hb] at z ⊢
      rw [upd_ne (ne_of_none z hnd)]
      exact z
    · have hb : b ≠ hp.objs.size + 1 := fun w => by rw [w, upd_same] at z; exact exo_frz (Option.some.inj z)
      rw [upd_ne hb] at z ⊢
      rw [upd_ne (ne_of_none z hnd)]
      exact z
    · have hb : b ≠ hp.objs.size + 1 := fun w => by rw [w, upd_same] at z; exact exo_tbl (Option.some.inj z)
      rw [upd_ne hb] at z ⊢
      rw [upd_ne (ne_of_none z hnd), z]
      simp
  have hok2 : HOk X.prog X.w (upd (upd H1 dx (exd dx [(f, y)])) (hp.objs.size + 1) (exo (hp.objs.size + 1) C (some dx))) h2 := fun b o z => by
    by_cases hb : b = hp.objs.size + 1
    · subst hb
      rw [upd_same] at z
      cases z
      exact exo_ok e2
    · rw [upd_ne hb] at z
      by_cases hbd : b = dx
      · subst hbd
        rw [upd_same] at z
        cases z
        exact exd_ok ns2 (relO_put (fs := []) ry fun g => True.intro)
      · rw [upd_ne hbd] at z
        refine (I1.hok b o z).stay (fun c v hc w => old w) (fun c hc => ?_) fun c xs hc => ?_
        · have hn' : c ≠ hp.objs.size + 1 := fun w => by rw [w, hn] at hc; cases hc
          rw [upd_ne hn', upd_ne (ne_of_none hc hnd)]
          exact hc
        · have hn' : c ≠ hp.objs.size + 1 := fun w => by rw [w, hn] at hc; cases hc
          rw [upd_ne hn', upd_ne (ne_of_none hc hnd)]
          exact hc
  have fin : upd (del (upd (upd H1 dx (exd dx [(f, y)])) (hp.objs.size + 1) (exo (hp.objs.size + 1) C (some dx))) (hp.objs.size + 1)) dx (.xd [(f, y)]) = upd H1 dx (.xd [(f, y)]) := by
    funext b
    by_cases hbd : b = dx
    · rw [hbd, upd_same, upd_same]
    · rw [upd_ne hbd, upd_ne hbd]
      by_cases hb : b = hp.objs.size + 1
      · rw [hb, del_same, hn]
      · rw [del_ne hb, upd_ne hb, upd_ne hbd]
  refine mk_end (Q := Q) (d := dx) (fs := [(f, y)]) (raises_own T.oex.exC T.oex.tyC) I1 hsz kk un2 hok2 rfl I1.bare upd_same ?_ hnd ?_
  · rw [upd_ne (Nat.ne_of_gt dgt), upd_same]
  · rw [fin]
    exact q1 dx hnd
end
end L2
namespace He
open PySem PySem.Spec PyProof.Rows L2 SupX
/-! ### the Hook: the inits of such classes beside hookX -/
def zsW (K : PySem.W.Frag) (zs : List Str) : List FnZ := zs.map fun x => fz K (ga K x)
def kY (n : Nat) (g : Addr → Option Obj) : PySem.W.Frag := frT g (PySem.cStatics :: asD g n)
def obsY (n : Nat) (fa : List Fa) (fn : List DefD) (ts : List Tab) (ex : PySem.W.Frag → Bool) (zs : List Str) (g : Addr → Option Obj) : AlX × List FnZ := ((obsT fa fn ts (kY n g), ex (kY n g)), zsW (kY n g) zs)
def hookY (n : Nat) (fa : List Fa) (fn : List DefD) (ts : List Tab) (ex : PySem.W.Frag → Bool) (zs : List Str) (zv : List FnZ) : PySem.W.Hook where
  α := AlX × List FnZ
  obs := fun s => obsY n fa fn ts ex zs s.heap.get?
  val := fun w => (valX fn ts w, zv)
  says := fun w h => ∃ K : PySem.W.Frag, K.In h ∧ SaysX fa fn ts [] ex w h K ∧ zsW K zs = zv
  of := fun _ _ e => ⟨_, frT_in, ⟨congrArg (fun z : AlX × List FnZ => z.1.1) e, congrArg (fun z : AlX × List FnZ => z.1.2) e, (fun _ h => nomatch h), (fun _ h => nomatch h), (fun _ h => nomatch h)⟩, congrArg (fun z : AlX × List FnZ => z.2) e⟩
  keeps := fun _ _ _ ⟨K, hK, c, z⟩ k => ⟨K, PySem.W.Frag.In.keeps hK k, ⟨c.t, c.more, c.hd, c.out, fun p hp => k _ _ (c.empty p hp)⟩, z⟩
theorem obsY_eq {n : Nat} {fa : List Fa} {fn : List DefD} {ts : List Tab} {ex : PySem.W.Frag → Bool} {zs : List Str} {zv : List FnZ} {g : Addr → Option Obj} {s : Shared} (h : ∀ a, g a = s.heap.get? a) :
    obsY n fa fn ts ex zs g = (hookY n fa fn ts ex zs zv).obs s := by
  have e : g = s.heap.get? := funext h
  rw [e] <;> rfl
theorem zsW_at {K : PySem.W.Frag} {zs : List Str} {zv : List FnZ} (h : zsW K zs = zv) (i : Nat) {x : Str} {v : FnZ} (e1 : zs[i]? = some x) (e2 : zv[i]? = some v) : fz K (ga K x) = v := by
  subst h
  unfold zsW at e2
  rw [List.getElem?_map, e1] at e2
  exact Option.some.inj e2
end He
/-! dicts whose keys are nested tuples of ints and texts, told as things of the heap by what is true of their object -/
namespace ND
open PySem PySem.Spec PyProof.Rows L2
/-- an entry: key, the place of the key's tuple, value -/
abbrev NE := NestedKey × Addr × V
abbrev NV : List NE → List (NestedKey × Addr × Value) → Prop := Paired fun p q => p.1 = q.1 ∧ p.2.1 = q.2.1 ∧ RelV p.2.2 q.2.2
def NRaw (P : Program) (w : World) (a : Addr) (kvs : List NE) (h : Heap) : Prop :=
  kvs.length ≤ sizeLine ∧ (a == sysModules) = false ∧ ∃ xs : List (NestedKey × Addr × Value), NV kvs xs ∧
    ∃ o es ep, h.get? a = some o ∧ o.ExactDict ∧ o.data = .dict es ep ∧ es.toList = xs.map (entryOfKey (nestedKind P w)) ∧ (xs.map (·.1)).Nodup
def NDo (P : Program) (w : World) (a : Addr) (kvs : List NE) : HO := .ext (NRaw P w a kvs)
theorem ndo_ok {P : Program} {w : World} {a : Addr} {kvs : List NE} {H : Hp} {h : Heap} (x : NRaw P w a kvs h) : ObjOk P w H h a (NDo P w a kvs) := by
  refine ⟨x, ?_, fun h1 h2 y k => ?_⟩
  · obtain ⟨_, _, _, _, o, _, _, e, _⟩ := x
    exact ⟨o, e⟩
  · obtain ⟨z, hd, xs, r, o, es, ep, e, c⟩ := y
    exact ⟨z, hd, xs, r, o, es, ep, k o e, c⟩
theorem ndo_raw {P : Program} {w : World} {a : Addr} {kvs : List NE} {H : Hp} {h : Heap} (x : ObjOk P w H h a (NDo P w a kvs)) : NRaw P w a kvs h := x.1
/-- the tuple at b is the key k -/
def KeyAt (K : PySem.W.Frag) (H : Hp) (b : Addr) (k : NestedKey) : Prop := (∃ ks, k = .tup ks) ∧ k.depth ≤ 8 ∧ Dp K H (.ref b) k.data
def KsAt (K : PySem.W.Frag) (H : Hp) (kvs : List NE) : Prop := ∀ e ∈ kvs, KeyAt K H e.2.1 e.1
section
variable {X : Cx} {pins : List (Addr × Obj)} {σ : L2.St} {H : Hp} {s : Shared}
mutual
theorem nis (I : Inv X pins σ H s) : ∀ (k : NestedKey) (v : V) (u : Value), Dp X.K H v k.data → RelV v u → NestedIs s.heap k u
  | .none, _, _, h, r => by
    rw [NestedKey.data] at h
    cases h
    cases r
    exact .none
  | .num i, _, _, h, r => by
    rw [NestedKey.data] at h
    cases h
    obtain ⟨t, rfl⟩ := r
    exact .int _ _
  | .text x, _, _, h, r => by
    rw [NestedKey.data] at h
    cases h
    obtain ⟨t, rfl⟩ := r
    exact .text _ _
  | .tup ks, _, _, h, r => by
    rw [NestedKey.data] at h
    cases h with
    | tup h1 h2 =>
      cases r
      obtain ⟨its, rv, ⟨o, ho, hc, n, hd⟩, _⟩ := I.tuple h1
      exact .tup ho hc hd (niss I ks _ _ h2 (by simpa using rv))
theorem niss (I : Inv X pins σ H s) : ∀ (ks : List NestedKey) (vs : List V) (us : List Value), DpAll X.K H vs (NestedKey.datas ks) → Vals vs us → NestedAll s.heap ks us
  | [], _, _, h, r => by
    rw [NestedKey.datas] at h
    cases h
    cases r
    exact .nil
  | k :: ks, _, _, h, r => by
    rw [NestedKey.datas] at h
    cases h with
    | cons h1 h2 =>
      cases r with
      | cons r1 r2 => exact .cons (nis I k _ _ h1 r1) (niss I ks _ _ h2 r2)
end
theorem key_is (I : Inv X pins σ H s) {b : Addr} {k : NestedKey} (h : KeyAt X.K H b k) : (nestedKind X.prog X.w).is s.heap k b := ⟨nis I k _ _ h.2.2 rfl, h.2.1⟩
theorem nv_mem {kvs : List NE} {xs : List (NestedKey × Addr × Value)} (r : NV kvs xs) : ∀ x ∈ xs, ∃ e ∈ kvs, e.1 = x.1 ∧ e.2.1 = x.2.1 := by
  induction r with
  | nil => exact fun _ h => nomatch h
  | @cons p q ps qs h t ih =>
    intro x hx
    rcases List.mem_cons.mp hx with rfl | hx
    · exact ⟨p, .head _, h.1, h.2.1⟩
    · obtain ⟨e, he, h1⟩ := ih x hx
      exact ⟨e, .tail _ he, h1⟩
theorem nd_h (I : Inv X pins σ H s) {a : Addr} {kvs : List NE} (x : NRaw X.prog X.w a kvs s.heap) (ks : KsAt X.K H kvs) : kvs.length ≤ sizeLine ∧ (a == sysModules) = false ∧ ∃ xs, NV kvs xs ∧ s.heap.DictOfH (nestedKind X.prog X.w) a xs := by
  obtain ⟨z, hd, xs, r, o, es, ep, h1, h2, h3, h4, h5⟩ := x
  refine ⟨z, hd, xs, r, o, es, ep, h1, h2, h3, h4, fun x hx => ?_, h5⟩
  obtain ⟨e, he, e1, e2⟩ := nv_mem r x hx
  rw [← e1, ← e2]
  exact key_is I (ks e he)
theorem nd_rd (I : Inv X pins σ H s) {a : Addr} {kvs : List NE} (e : Rd H a (NDo X.prog X.w a kvs)) (ks : KsAt X.K H kvs) : kvs.length ≤ sizeLine ∧ (a == sysModules) = false ∧ ∃ xs, NV kvs xs ∧ s.heap.DictOfH (nestedKind X.prog X.w) a xs :=
  nd_h I (ndo_raw (rd_of I.hok e)) ks
end
/-! ### look-ups -/
def nP (kvs : List NE) : List (NestedKey × V) := kvs.map fun e => (e.1, e.2.2)
def nGet (kvs : List NE) (k : NestedKey) : Option V := valV (nP kvs) k
def nPut (kvs : List NE) (k : NestedKey) (b : Addr) (v : V) : List NE := if (nGet kvs k).isSome then kvs.map (fun e => if e.1 = k then (e.1, e.2.1, v) else e) else kvs ++ [(k, b, v)]
theorem NV.val {kvs : List NE} {xs : List (NestedKey × Addr × Value)} (r : NV kvs xs) (k : NestedKey) : RelO (nGet kvs k) ((atKey xs k).map (·.2)) := by
  unfold nGet nP
  induction r with
  | nil => exact True.intro
  | @cons p q ps qs h t ih =>
    obtain ⟨h1, _, h2⟩ := h
    rw [List.map_cons]
    by_cases e : p.1 = k
    · have e' : q.1 = k := h1.symm.trans e
      have b : atKey (q :: qs) k = some q.2 := by simp [atKey, List.find?_cons, e']
      rw [valV_pos (p := (p.1, p.2.2)) e, b]; exact h2
    · have e' : ¬ q.1 = k := fun z => e (h1.trans z)
      have b : atKey (q :: qs) k = atKey qs k := by simp [atKey, List.find?_cons, e']
      rw [valV_neg (p := (p.1, p.2.2)) e, b]; exact ih
theorem NV.repl {kvs : List NE} {xs : List (NestedKey × Addr × Value)} (r : NV kvs xs) (k : NestedKey) {y : V} {u : Value} (ry : RelV y u) : NV (kvs.map fun e => if e.1 = k then (e.1, e.2.1, y) else e) (xs.map (putAt k u)) := by
  induction r with
  | nil => exact .nil
  | @cons p q ps qs h t ih =>
    rw [List.map_cons, List.map_cons]
    refine .cons ?_ ih
    obtain ⟨h1, h2, h3⟩ := h
    unfold putAt
    by_cases e : p.1 = k
    · rw [if_pos e, if_pos (h1.symm.trans e)]; exact ⟨h1, h2, ry⟩
    · rw [if_neg e, if_neg (fun z => e (h1.trans z))]; exact ⟨h1, h2, h3⟩
theorem NV.put {kvs : List NE} {xs : List (NestedKey × Addr × Value)} (r : NV kvs xs) (k : NestedKey) (b : Addr) {y : V} {u : Value} (ry : RelV y u) : NV (nPut kvs k b y) (storedH xs k b u) := by
  have e : (nGet kvs k).isSome = (atKey xs k).isSome := by rw [(NV.val r k).isSome_eq, Option.isSome_map]
  unfold nPut storedH
  rw [e]
  by_cases q : (atKey xs k).isSome = true
  · rw [if_pos q, if_pos q]; exact NV.repl r k ry
  · rw [if_neg q, if_neg q]; exact Paired.snoc r ⟨rfl, rfl, ry⟩
theorem nPut_len (kvs : List NE) (k : NestedKey) (b : Addr) (v : V) : (nPut kvs k b v).length ≤ kvs.length + 1 := by
  unfold nPut
  split
  · rw [List.length_map]; omega
  · rw [List.length_append, List.length_cons, List.length_nil]; omega
theorem nPut_new {kvs : List NE} {k : NestedKey} {b : Addr} {v : V} (h : nGet kvs k = none) : nPut kvs k b v = kvs ++ [(k, b, v)] := by
  unfold nPut
  rw [h]
  exact if_neg (by decide)
theorem nP_put (kvs : List NE) (k : NestedKey) (b : Addr) (v : V) : nP (nPut kvs k b v) = putK (nP kvs) k v := by
  unfold nPut putK
  rw [valV_any]
  by_cases q : (nGet kvs k).isSome = true
  · rw [if_pos q, if_pos (show (valV (nP kvs) k).isSome = true from q)]
    unfold nP
    rw [List.map_map, List.map_map]
    refine List.map_congr_left fun e _ => ?_
    by_cases z : e.1 = k <;> simp [z]
  · rw [if_neg q, if_neg (show ¬ (valV (nP kvs) k).isSome = true from q)]
    simp [nP]
theorem KsAt.put {K : PySem.W.Frag} {H : Hp} {kvs : List NE} (h : KsAt K H kvs) {k : NestedKey} {b : Addr} (hb : KeyAt K H b k) (v : V) : KsAt K H (nPut kvs k b v) := by
  intro e he
  unfold nPut at he
  split at he
  · obtain ⟨e', h1, rfl⟩ := List.mem_map.mp he
    split
    · exact h e' h1
    · exact h e' h1
  · rcases List.mem_append.mp he with he | he
    · exact h e he
    · rw [List.mem_singleton.mp he]; exact hb
/-! ### the rules -/
section
variable {X : Cx} {pins : List (Addr × Obj)} {σ : L2.St} {H : Hp} {s : Shared} {a b : Addr} {k : NestedKey} {kvs : List NE} {v : V} {u r : Value} {A : Around} {E : Value → Shared → Prop}
theorem room9 (hu : A.units + 64 < cLine) : (nestedKind X.prog X.w).room A.in1 := by
  show A.in1.units + 8 < cLine
  have : A.in1.units = A.units + 1 := rfl
  omega
theorem n_in {Q : Value → Shared → Prop} (hu : A.units + 64 < cLine) (I : Inv X pins σ H s) (g : Rd H a (NDo X.prog X.w a kvs)) (ks : KsAt X.K H kvs) (kb : KeyAt X.K H b k) (h : ∀ s', Inv X pins σ H s' → Q (.bool (nGet kvs k).isSome) s') :
    wpAny (model X.prog X.w) A (compareOp .In (.ref b) (.ref a)) Q E s := by
  obtain ⟨z, hd, xs, rel, dd⟩ := nd_rd I g ks
  refine wpAny_in_heap (room9 hu) (key_is I kb) hd dd ?_
  have q := (NV.val rel k).isSome_eq
  rw [Option.isSome_map] at q
  rw [← q]
  exact h _ (I.tok _)
theorem n_notIn {Q : Value → Shared → Prop} (hu : A.units + 64 < cLine) (I : Inv X pins σ H s) (g : Rd H a (NDo X.prog X.w a kvs)) (ks : KsAt X.K H kvs) (kb : KeyAt X.K H b k) (h : ∀ s', Inv X pins σ H s' → Q (.bool (!(nGet kvs k).isSome)) s') :
    wpAny (model X.prog X.w) A (compareOp .NotIn (.ref b) (.ref a)) Q E s := by
  obtain ⟨z, hd, xs, rel, dd⟩ := nd_rd I g ks
  refine wpAny_notIn_heap (room9 hu) (key_is I kb) hd dd ?_
  have q := (NV.val rel k).isSome_eq
  rw [Option.isSome_map] at q
  rw [← q]
  exact h _ (I.tok _)
theorem n_getItem {Q : Value → Shared → Prop} (hu : A.units + 64 < cLine) (I : Inv X pins σ H s) (g : Rd H a (NDo X.prog X.w a kvs)) (ks : KsAt X.K H kvs) (kb : KeyAt X.K H b k) (hv : nGet kvs k = some v) (h : ∀ w' s', Inv X pins σ H s' → RelV v w' → Q w' s') :
    wpAny (model X.prog X.w) A (getItem (.ref a) (.ref b)) Q E s := by
  obtain ⟨z, hd, xs, rel, dd⟩ := nd_rd I g ks
  obtain ⟨w', hw, rw'⟩ := RelO.some_of (v := v) (o := (atKey xs k).map (·.2)) (by rw [← hv]; exact NV.val rel k)
  obtain ⟨p, hp, hp2⟩ := Option.map_eq_some_iff.mp hw
  refine wpAny_getItem_heap (room9 hu) (key_is I kb) dd hp ?_
  rw [hp2]
  exact h w' _ (I.tok _) rw'
theorem n_get2 {Q : Value → Shared → Prop} {d : V} (hu : A.units + 64 < cLine) (I : Inv X pins σ H s) (g : Rd H a (NDo X.prog X.w a kvs)) (ks : KsAt X.K H kvs) (kb : KeyAt X.K H b k) (rd : RelV d r) (h : ∀ w' s', Inv X pins σ H s' → RelV ((nGet kvs k).getD d) w' → Q w' s') :
    wpAny (model X.prog X.w) A (call (.builtin "dict.get") [.ref a, .ref b, r]) Q E s := by
  obtain ⟨z, hd, xs, rel, dd⟩ := nd_rd I g ks
  refine call_meetsIn PySem.F.slot_dict_get dd.typeIs PySem.F.entry_dict_get (PySem.F.args_dict_get_3 _ _ _) (meetsH_dict_get_default (nestedKind X.prog X.w) a b hd r) ⟨room9 hu, k, xs, key_is I kb, dd, h _ _ (I.tok _) ?_⟩
  exact (NV.val rel k).getD rd
/-- the object at a changes -/
theorem nd_new {h' : Heap} {H' : Hp} {xs : List (NestedKey × Addr × Value)} (z : kvs.length ≤ sizeLine) (hd : (a == sysModules) = false) (rel : NV kvs xs) (dd : h'.DictOfH (nestedKind X.prog X.w) a xs) : ObjOk X.prog X.w H' h' a (NDo X.prog X.w a kvs) := by
  obtain ⟨o, es, ep, h1, h2, h3, h4, _, h5⟩ := dd
  exact ndo_ok ⟨z, hd, xs, rel, o, es, ep, h1, h2, h3, h4, h5⟩
theorem n_setItem {Q : Unit → Shared → Prop} (hu : A.units + 64 < cLine) (I : Inv X pins σ H s) (g : H a = some (NDo X.prog X.w a kvs)) (ks : KsAt X.K H kvs) (kb : KeyAt X.K H b k) (hl : kvs.length < sizeLine) (rv : RelV v r)
    (h : ∀ s', Inv X pins σ (upd H a (NDo X.prog X.w a (nPut kvs k b v))) s' → Q () s') : wpAny (model X.prog X.w) A (setItem (.ref a) (.ref b) r) Q E s := by
  obtain ⟨z, hd, xs, rel, dd⟩ := nd_rd I (.inl g) ks
  have hz : xs.length ≤ sizeLine := by rw [← Paired.length rel]; exact z
  have hl' : (nPut kvs k b v).length ≤ sizeLine := by have := nPut_len kvs k b v; omega
  refine wpAny_setItem_heap (hsz := hz) (room9 hu) (key_is I kb) dd fun h' dd' hs => h _ ?_
  obtain ⟨q, es, ep, hq, h2, h3, h4, h6, h5⟩ := id dd'
  exact d_write I (by rw [g]; exact True.intro) hs ⟨q, hq⟩ (nd_new hl' hd (NV.put rel k b rv) dd')
theorem nd_typeIs (I : Inv X pins σ H s) (g : Rd H a (NDo X.prog X.w a kvs)) : s.TypeIs (.ref a) "dict" ∧ ∀ b, Value.ref a = .ref b → ∃ ob, s.heap.get? b = some ob ∧ ob.dict = none := by
  obtain ⟨z, hd, xs, r, o, es, ep, h1, h2, _⟩ := ndo_raw (rd_of I.hok g)
  refine ⟨⟨o, h1, h2.1⟩, fun b q => ?_⟩
  cases q
  exact ⟨o, h1, h2.2.1⟩
end
/-- {}, to be a dict with nested keys -/
def tNew (P : Program) (w : World) : TE := fun _ H Q => ∀ p, H p = none → Q (.ref p) (upd H p (NDo P w p []))
theorem nd_empty {P : Program} {w : World} {H : Hp} (h : Heap) (hb : sysModules < h.objs.size) : ObjOk P w H (h.push { cls := .type "dict", data := .dict #[] }) h.objs.size (NDo P w h.objs.size []) :=
  ndo_ok ⟨Nat.zero_le _, beq_eq_false_iff_ne.mpr (Ne.symm (Nat.ne_of_lt hb)), [], .nil, _, #[], 0, Heap.get?_push_size _ rfl, ⟨rfl, rfl, rfl⟩, rfl, rfl, List.nodup_nil⟩
/-- y in d, y not in d, d[y], d[y] = v, d.get(y, x) -/
def tIn (P : Program) (w : World) (K : PySem.W.Frag) (ty td : TE) : TE := fun σ H Q => ty σ H fun y H1 => td σ H1 fun x H2 => ∃ a b k kvs, x = .ref a ∧ y = .ref b ∧ Rd H2 a (NDo P w a kvs) ∧ KsAt K H2 kvs ∧ KeyAt K H2 b k ∧ Q (.bl (nGet kvs k).isSome) H2
def tNotIn (P : Program) (w : World) (K : PySem.W.Frag) (ty td : TE) : TE := fun σ H Q => ty σ H fun y H1 => td σ H1 fun x H2 => ∃ a b k kvs, x = .ref a ∧ y = .ref b ∧ Rd H2 a (NDo P w a kvs) ∧ KsAt K H2 kvs ∧ KeyAt K H2 b k ∧ Q (.bl (!(nGet kvs k).isSome)) H2
def tGet (P : Program) (w : World) (K : PySem.W.Frag) (td ty : TE) : TE := fun σ H Q => td σ H fun x H1 => ty σ H1 fun y H2 => ∃ a b k kvs v, x = .ref a ∧ y = .ref b ∧ Rd H2 a (NDo P w a kvs) ∧ KsAt K H2 kvs ∧ KeyAt K H2 b k ∧ nGet kvs k = some v ∧ Q v H2
def tGet2 (P : Program) (w : World) (K : PySem.W.Frag) (td ty tx : TE) : TE := fun σ H Q => td σ H fun x H1 => ∃ a kvs, x = .ref a ∧ Rd H1 a (NDo P w a kvs) ∧ ty σ H1 fun y H2 => tx σ H2 fun d H3 => ∃ b k kvs, y = .ref b ∧ Rd H3 a (NDo P w a kvs) ∧ KsAt K H3 kvs ∧ KeyAt K H3 b k ∧ Q ((nGet kvs k).getD d) H3
def tPut (P : Program) (w : World) (K : PySem.W.Frag) (td ty tv : TE) : TS := fun D σ H => tv σ H fun v H1 => td σ H1 fun x H2 => ty σ H2 fun y H3 => ∃ a b k kvs, x = .ref a ∧ y = .ref b ∧ H3 a = some (NDo P w a kvs) ∧ KsAt K H3 kvs ∧ KeyAt K H3 b k ∧ kvs.length < sizeLine ∧
  D.nx σ (upd H3 a (NDo P w a (nPut kvs k b v)))
section
variable {X : Cx} {o i e f value : Expr} {pos pos' tpos apos cpos : Pos} {td ty tv tx : TE}
theorem pe_new : PE X (.Dict [] [] pos) (tNew X.prog X.w) := ⟨fun pins s σ H Q I h =>
  wpAny_Dict_empty ⟨.ref s.heap.objs.size, _, I.laid (a := s.heap.objs.size) (o := NDo X.prog X.w s.heap.objs.size []) (t' := s.toks) (fun _ _ q => Heap.get?_push_of_some _ q) (Nat.le_refl _) (nd_empty s.heap I.big), rfl, h _ (I.hok.fresh (Nat.le_refl _))⟩⟩
theorem pc_in (hu : X.A.units + 64 < cLine) (hi : PE X i ty) (ho : PE X o td) : PC X .In i o (tIn X.prog X.w X.K ty td) := by
  refine ⟨fun pins s σ H Q I h => ?_⟩
  refine thn (hi.run pins s σ H _ I h) fun iv s1 ⟨y, H1, I1, ry, q1⟩ => thn (ho.run pins s1 σ H1 _ I1 q1) fun u s2 ⟨x, H2, I2, rx, a, b, k, kvs, ex, ey, g, ks, kb, q2⟩ => ?_
  subst ex ey
  obtain rfl : u = Value.ref a := rx
  obtain rfl : iv = Value.ref b := ry
  exact n_in hu I2 g ks kb fun s3 I3 => ⟨.bl (nGet kvs k).isSome, H2, I3, rfl, q2⟩
theorem pc_notin (hu : X.A.units + 64 < cLine) (hi : PE X i ty) (ho : PE X o td) : PC X .NotIn i o (tNotIn X.prog X.w X.K ty td) := by
  refine ⟨fun pins s σ H Q I h => ?_⟩
  refine thn (hi.run pins s σ H _ I h) fun iv s1 ⟨y, H1, I1, ry, q1⟩ => thn (ho.run pins s1 σ H1 _ I1 q1) fun u s2 ⟨x, H2, I2, rx, a, b, k, kvs, ex, ey, g, ks, kb, q2⟩ => ?_
  subst ex ey
  obtain rfl : u = Value.ref a := rx
  obtain rfl : iv = Value.ref b := ry
  exact n_notIn hu I2 g ks kb fun s3 I3 => ⟨.bl (!(nGet kvs k).isSome), H2, I3, rfl, q2⟩
theorem pe_get (hu : X.A.units + 64 < cLine) (ho : PE X o td) (hi : PE X i ty) (hs : NoSl i) : PE X (.Subscript o i pos) (tGet X.prog X.w X.K td ty) := by
  refine ⟨fun pins s σ H Q I h => ?_⟩
  refine subD_of PySem.F.slot_dict_getitem.lookup hs (thn (ho.run pins s σ H _ I h) fun u s1 ⟨x, H1, I1, rx, q1⟩ => thn (hi.run pins s1 σ H1 _ I1 q1) fun iv s2 ⟨y, H2, I2, ry, a, b, k, kvs, v, ex, ey, g, ks, kb, hv, q2⟩ => ?_)
  subst ex ey
  obtain rfl : u = Value.ref a := rx
  obtain rfl : iv = Value.ref b := ry
  exact ⟨(nd_typeIs I2 g).1, n_getItem hu I2 g ks kb hv fun w' s3 I3 rw' => ⟨v, H2, I3, rw', q2⟩⟩
theorem pe_get2 (hu : X.A.units + 64 < cLine) (ho : PE X o td) (he : PE X e ty) (hf : PE X f tx) (m : M2 X o "get" apos e f cpos) : PE X (.Call (.Attribute o "get" apos) [e, f] [] cpos) (tGet2 X.prog X.w X.K td ty tx) := by
  refine ⟨fun pins s σ H Q I h => ?_⟩
  refine wpAny_Call_method m.base m.few m.line PySem.F.plainAttrs_dict PySem.F.slot_dict_get PySem.F.type_dict_get (thn (ho.run pins s σ H _ I h) fun u s1 ⟨x, H1, I1, rx, a, kvs0, ex, d, q1⟩ => ?_)
  subst ex
  obtain rfl : u = Value.ref a := rx
  obtain ⟨t1, t2⟩ := nd_typeIs I1 d
  refine ⟨t1, t2, ?_⟩
  rw [m.trees]
  refine Calls.callWith_builtin rfl (Calls.evalArgs_plain (Calls.spliced_cons (thn (he.run pins s1 σ H1 _ I1 q1) fun iv s2 ⟨y, H2, I2, ry, q2⟩ =>
    Calls.spliced_cons (thn (hf.run pins s2 σ H2 _ I2 q2) fun fv s3 ⟨z, H3, I3, rz, b, k, kvs, ey, g, ks, kb, q3⟩ => Calls.spliced_nil ?_))))
  subst ey
  obtain rfl : iv = Value.ref b := ry
  exact n_get2 hu I3 g ks kb rz fun w' s4 I4 rw' => ⟨_, H3, I4, rw', q3⟩
theorem ps_put (hu : X.A.units + 64 < cLine) (ho : PE X o td) (hi : PE X i ty) (hv : PE X value tv) (hs : swapsWith value (some (.Subscript o i pos')) pos.line X.env = pure false) :
    PS X (.Assign [.Subscript o i pos'] value pos) (tPut X.prog X.w X.K td ty tv) := by
  refine ⟨fun pins s σ H D I h => ?_⟩
  refine wpAny_Assign_Subscript (thn (hv.run pins s σ H _ I h) fun r s1 ⟨v, H1, I1, rv, q1⟩ => thn (ho.run pins s1 σ H1 _ I1 q1) fun u s2 ⟨x, H2, I2, rx, q2⟩ => thn (hi.run pins s2 σ H2 _ I2 q2) fun iv s3 ⟨y, H3, I3, ry, a, b, k, kvs, ex, ey, g, ks, kb, hl, q3⟩ => ?_) hs
  subst ex ey
  obtain rfl : u = Value.ref a := rx
  obtain rfl : iv = Value.ref b := ry
  exact n_setItem hu I3 g ks kb hl rv fun s4 I4 => ⟨σ, _, I4, q3⟩
end
end ND
/-! walks over such dicts, their items, dicts made of pairs, setdefault -/
namespace ND
open PySem PySem.Spec PyProof.Rows L2
theorem ent_get {P : Program} {w : World} {xs : List (NestedKey × Addr × Value)} {kvs : List NE} {es : Array DictEntry} (he : es.toList = xs.map (entryOfKey (nestedKind P w))) (r : NV kvs xs) :
    es.size = kvs.length ∧ ∀ (i : Nat) (e : NE), kvs[i]? = some e → ∃ en : DictEntry, es[i]? = some en ∧ en.key = .ref e.2.1 ∧ RelV e.2.2 en.val := by
  refine ⟨(size_of_entries he).trans (Paired.length r).symm, fun i e hi => ?_⟩
  obtain ⟨x, hx, e1, e2, e3⟩ := paired_get r hi
  have q := entry_at he i
  rw [hx] at q
  exact ⟨_, q, congrArg Value.ref e2.symm, e3⟩
section
variable {X : Cx} {pins : List (Addr × Obj)} {σ : L2.St} {H : Hp} {s : Shared} {d : Addr} {o : Obj} {kvs : List NE}
theorem frzN (I : Inv X pins σ H s) (h : H d = some (.frz o (NDo X.prog X.w d kvs))) :
    (d == sysModules) = false ∧ s.heap.get? d = some o ∧ o.ExactDict ∧ ∃ (es : Array DictEntry) (ep : Nat), o.data = .dict es ep ∧ es.size = kvs.length ∧
      ∀ (i : Nat) (e : NE), kvs[i]? = some e → ∃ en : DictEntry, es[i]? = some en ∧ en.key = .ref e.2.1 ∧ RelV e.2.2 en.val := by
  obtain ⟨hd, x⟩ := I.hok d _ h
  obtain ⟨z, hs, xs, r, o', es, ep, ho, hx, hdt, he, _⟩ := ndo_raw x
  rw [hd] at ho
  cases ho
  obtain ⟨h1, h2⟩ := ent_get he r
  exact ⟨hs, hd, hx, es, ep, hdt, h1, h2⟩
end
/-- the keys of the locked dict at d, in their order -/
def ItkN (P : Program) (w : World) (d : Addr) (o : Obj) (kvs : List NE) : It :=
  ⟨fun i H => H d = some (.frz o (NDo P w d kvs)) ∧ i < kvs.length, fun i H x H' => H' = H ∧ ∃ e : NE, kvs[i]? = some e ∧ x = .ref e.2.1, fun i H => H d = some (.frz o (NDo P w d kvs)) ∧ kvs.length ≤ i⟩
theorem turn_keysN {P : Program} {w : World} {K : PySem.W.Frag} {tg : Expr} {d : Addr} {o : Obj} {es : Array DictEntry} {ep : Nat} {kvs : List NE} (it : Addr) (hod : o.data = .dict es ep) : Turn P w K tg (ItkN P w d o kvs) [it] it (fun i h => h.IsKeyIter it d i kvs.length ep) where
  mem := by simp
  obj := fun i h st b hb => by
    have e : b = it := by simpa using hb
    subst e
    obtain ⟨oi, e, c, dd⟩ := st
    exact ⟨oi, e, fun v z => by rw [dd] at z; cases z⟩
  keep := fun i h h' st k => st.at fun oi e => k it (by simp) oi e
  item := by
    intro X hP hw hK hc i pins s σ H E I hf st hg
    subst hP hw hK
    obtain ⟨hd, hi⟩ := hg
    obtain ⟨f0, f1, f2, f3, f4, f5⟩ := hf it (by simp)
    obtain ⟨hs, hgd, hx, es', ep', hdt, hsz, ent⟩ := frzN I hd
    obtain ⟨rfl, rfl⟩ := dict_ep hod hdt
    obtain ⟨e0, hkv⟩ : ∃ p, kvs[i]? = some p := ⟨kvs[i], List.getElem?_eq_getElem hi⟩
    obtain ⟨en, hen, hkey, _⟩ := ent i e0 hkv
    refine next_key_item st hgd hdt hsz hen fun h' st' sb => ?_
    have I1 : Inv X pins σ H { s with heap := h' } := I.turned (t' := s.toks) (fun b ob hb e => (sb.2 b hb).trans e) f0 f1 f3 f4 f5
    obtain ⟨oi, e, c, dd⟩ := id st'
    exact ⟨en.key, rfl, go_of (s := { s with heap := h' }) e c dd (by decide) ⟨.ref e0.2.1, H, I1, hkey, ⟨rfl, e0, hkv, rfl⟩, st', fun b hb => (hf b hb).1⟩⟩
  done := by
    intro X hP hw hK hc i pins s σ H E I hf st hg
    subst hP hw hK
    obtain ⟨hd, hi⟩ := hg
    obtain ⟨f0, f1, f2, f3, f4, f5⟩ := hf it (by simp)
    obtain ⟨hs, hgd, hx, es', ep', hdt, hsz, ent⟩ := frzN I hd
    obtain ⟨rfl, rfl⟩ := dict_ep hod hdt
    exact next_key_end (I.ok.hd hc) st hgd hdt hsz hi fun h' eb => ⟨rfl, I.turned (t' := s.toks) (fun b ob hb e => eb b ob hb e) f0 f1 f3 f4 f5⟩
  self := fun A i s Q E st h => by
    refine wpAny_pyIter_slot st.typeIs F.slot_dict_keyiterator_iter (wpAny_call_entry F.slot_dict_keyiterator_iter st.typeIs F.entry_dict_keyiterator_iter ?_ (F.args_dict_keyiterator_iter_1 _))
    show wpAny _ _ (ret (.ref it)) _ _ s
    exact wpAny_pure ⟨_, rfl, "dict_keyiterator", _, st.typeIs, F.slot_dict_keyiterator_next.lookup, h⟩
/-- for k in d, locked -/
def iKeysN (P : Program) (w : World) (td : TE) : TI := fun σ H R => td σ H fun x H1 => ∃ d o kvs, x = .ref d ∧ H1 d = some (.frz o (NDo P w d kvs)) ∧ R (ItkN P w d o kvs) H1
section
variable {X : Cx} {tg e : Expr} {td : TE} {apos cpos : Pos}
theorem pi_keysN (he : PE X e td) : PI X tg e (iKeysN X.prog X.w td) := by
  refine ⟨fun pins s σ H R I h => ?_⟩
  refine thn (he.run pins s σ H _ I h) fun u s1 ⟨x, H1, I1, rx, d, o, kvs, ex, hd, q⟩ => ?_
  subst ex
  obtain rfl : u = Value.ref d := rx
  obtain ⟨hs, hgd, hx, es, ep, hdt, hsz, ent⟩ := frzN I1 hd
  refine iter_keys hs hgd hx hdt (pi_one (tk := s1.toks) I1 _ (turn_keysN _ hdt) ⟨_, Heap.get?_push_size _ rfl, rfl, ?_⟩ q)
  rw [hsz] <;> rfl
end
/-! ### d.items(), list(d.items()) -/
open DX in
def tItems (P : Program) (w : World) (td : TE) : TE := fun σ H Q => td σ H fun x H1 => ∃ a kvs, x = .ref a ∧ Rd H1 a (NDo P w a kvs) ∧ ∀ p, H1 p = none → Q (.ref p) (upd H1 p (itemsO p a))
section
variable {X : Cx} {o : Expr} {apos cpos : Pos} {td : TE}
theorem pe_items (ho : PE X o td) (hbase : attributeBase o "items" X.env (eval o X.env) = eval o X.env := by rfl) (hline : (apos.endLine == cpos.line) = true := by rfl) : PE X (.Call (.Attribute o "items" apos) [] [] cpos) (tItems X.prog X.w td) := by
  refine ⟨fun pins s σ H Q I h => ?_⟩
  refine wpAny_Call_method (T := "dict") (id := "dict.items") hbase rfl hline F.plainAttrs_dict F.slot_dict_items F.type_dict_items (thn (ho.run pins s σ H _ I h) fun u s1 ⟨x, H1, I1, rx, a, kvs, ex, hd, q⟩ => ?_)
  subst ex
  obtain rfl : u = Value.ref a := rx
  obtain ⟨t1, t2⟩ := nd_typeIs I1 hd
  refine ⟨t1, t2, ?_⟩
  obtain ⟨z, hs, xs, r, ob, es, ep, ho', hx, hdt, he, _⟩ := ndo_raw (rd_of I1.hok hd)
  show wpAny _ _ (callWith cpos (.builtin "dict.items") [.ref a] [] []) _ X.xe s1
  refine Calls.callWith_builtin rfl (PySem.evalArgs_none ?_)
  refine DT.callItems (es := es) (ep := ep) hs ⟨ob, ho', hx, hdt⟩ ?_
  exact ⟨.ref s1.heap.objs.size, upd H1 s1.heap.objs.size (DX.itemsO s1.heap.objs.size a), I1.laid (t' := s1.toks) (fun b u e => Heap.get?_push_of_some _ e) (Nat.le_refl _) (DX.itemsO_ok (Heap.get?_push_size _ rfl)), rfl, q _ (I1.hok.fresh (Nat.le_refl _))⟩
/-- the pairs at Ts are the entries -/
def PrsAt (H : Hp) (Ts : List Addr) (kvs : List NE) : Prop := Paired (fun T (e : NE) => H T = some (.tup [.ref e.2.1, e.2.2])) Ts kvs
def rListItems (P : Program) (w : World) : List V → Hp → VK → Prop := fun xs H Q => ∃ (p a : Addr) (kvs : List NE), xs = [.ref p] ∧ H p = some (DX.itemsO p a) ∧ Rd H a (NDo P w a kvs) ∧
  ∀ (H' : Hp) (l : Addr) (Ts : List Addr), Evl.Ex H H' → H l = none → H' l = some (.lst (Ts.map V.ref)) → (∀ T ∈ Ts, H T = none) → Ts.Nodup → PrsAt H' Ts kvs → Q (.ref l) H'
theorem prs_of {H : Hp} : ∀ {Ts : List Addr} {kvs : List NE}, Ts.length = kvs.length → (∀ (j : Nat) (T : Addr) (e : NE), Ts[j]? = some T → kvs[j]? = some e → H T = some (.tup [.ref e.2.1, e.2.2])) → PrsAt H Ts kvs
  | [], [], _, _ => .nil
  | [], _ :: _, h, _ => by simp at h
  | _ :: _, [], h, _ => by simp at h
  | T :: Ts, e :: kvs, h, f => .cons (f 0 T e rfl rfl) (prs_of (by simpa using h) fun j T' e' h1 h2 => f (j + 1) T' e' (by simpa using h1) (by simpa using h2))
theorem vrefs : ∀ as : List Addr, Vals (as.map V.ref) (as.map Value.ref)
  | [] => .nil
  | _ :: r => .cons rfl (vrefs r)
theorem call_list_items (hc : X.calm = true) : CallR X (.type "list") (rListItems X.prog X.w) := by
  intro pins s σ H xs us Q I r h
  obtain ⟨p, a, kvs, rfl, hp, hd, q⟩ := h
  obtain ⟨u, rfl, rx⟩ := vals1 r
  cases rx
  have view : s.heap.IsItemsView p a := (show ObjOk X.prog X.w H s.heap p (DX.itemsO p a) from I.hok p _ hp).1
  obtain ⟨z, hs, xs', rel, o, es, ep, ho, hx, hdt, he, _⟩ := ndo_raw (rd_of I.hok hd)
  obtain ⟨hsz, ent⟩ := ent_get he rel
  refine PySem.W.dil_call (es := es) (ep := ep) (I.ok.hd hc) view ⟨o, ho, hx, hdt⟩ (by omega) fun h' tk acc c as hk hS hl hG hacc => ?_
  have hS0 : H s.heap.objs.size = none := I.hok.fresh (Nat.le_refl _)
  have lz : (as.map V.ref).length ≤ sizeLine := by rw [List.length_map]; omega
  have I1 : Inv X pins σ (upd H s.heap.objs.size (.lst (as.map V.ref))) { s with heap := h', toks := tk } :=
    I.laid (t' := tk) (o := .lst (as.map V.ref)) hk (Nat.le_refl _) ⟨lz, acc.toList, c, by rw [hacc]; exact vrefs as, by rw [Array.toArray_toList]; exact hS⟩
  have nd : as.Nodup := List.Pairwise.imp (fun h => Nat.ne_of_lt h) hG.rise
  have hfr : ∀ T ∈ as, H T = none := fun T hT => I.hok.fresh (Nat.le_of_lt (hG.above T hT))
  obtain ⟨H2, I2, g, pr⟩ := DX.takeT (P := fun T vs => ∃ (j : Nat) (e : NE), as[j]? = some T ∧ kvs[j]? = some e ∧ vs = [.ref e.2.1, e.2.2]) I as _ I1 nd fun T hT => by
    refine ⟨Nat.le_of_lt (hG.above T hT), by rw [upd_ne (Nat.ne_of_gt (hG.above T hT))]; exact hfr T hT, ?_⟩
    obtain ⟨j, hj⟩ := List.mem_iff_getElem?.mp hT
    obtain ⟨hj', hg⟩ := hG.pairs j T hj
    have hjk : j < kvs.length := by omega
    obtain ⟨en, hen, k1, k2⟩ := ent j kvs[j] (List.getElem?_eq_getElem hjk)
    have een : es[j] = en := by
      rw [Array.getElem?_eq_getElem hj'] at hen
      exact Option.some.inj hen
    refine ⟨[.ref kvs[j].2.1, kvs[j].2.2], ⟨j, kvs[j], hj, List.getElem?_eq_getElem hjk, rfl⟩, fun H2 => ⟨by show 2 ≤ sizeLine; decide, [es[j].key, es[j].val], .cons ?_ (.cons ?_ .nil), ⟨_, hg, rfl, 0, rfl⟩⟩⟩
    · rw [een, k1]; exact rfl
    · rw [een]; exact k2
  have e01 : Evl.Ex H (upd H s.heap.objs.size (.lst (as.map V.ref))) := Evl.Ex.new hS0
  refine ⟨.ref s.heap.objs.size, H2, I2, rfl, q H2 _ as (fun b ob hb => g b ob (e01 b ob hb)) hS0 (g _ _ upd_same) hfr nd (prs_of (by omega) fun j T e h1 h2 => ?_)⟩
  obtain ⟨vs, ⟨j', e', h3, h4, rfl⟩, h5⟩ := pr T (List.mem_of_getElem? h1)
  have : j' = j := by
    have hj1 := (List.getElem?_eq_some_iff.mp h1)
    have hj3 := (List.getElem?_eq_some_iff.mp h3)
    obtain ⟨a1, b1⟩ := hj1
    obtain ⟨a3, b3⟩ := hj3
    have pw := List.pairwise_iff_getElem.mp hG.rise
    rcases Nat.lt_trichotomy j' j with h | h | h
    · have := pw j' j a3 a1 h
      rw [b3, b1] at this
      exact absurd this (Nat.lt_irrefl _)
    · exact h
    · have := pw j j' a1 a3 h
      rw [b3, b1] at this
      exact absurd this (Nat.lt_irrefl _)
  subst this
  rw [h2] at h4
  cases h4
  exact h5
/-! ### dict(pairs) -/
def nMerge (acc kvs : List NE) : List NE := kvs.foldl (fun acc e => nPut acc e.1 e.2.1 e.2.2) acc
theorem NV.merge : ∀ {kvs : List NE} {ys : List (NestedKey × Addr × Value)} {acc : List NE} {xs : List (NestedKey × Addr × Value)}, NV kvs ys → NV acc xs → NV (nMerge acc kvs) (storedAllH xs ys) := by
  intro kvs ys acc xs r
  induction r generalizing acc xs with
  | nil => exact fun q => q
  | @cons p q ps qs h t ih =>
    intro r0
    have e : NV (nPut acc p.1 p.2.1 p.2.2) (storedH xs q.1 q.2.1 q.2.2) := by
      have := NV.put r0 p.1 p.2.1 h.2.2
      rw [← h.1, ← h.2.1]
      exact this
    exact ih e
theorem nMerge_len : ∀ (kvs acc : List NE), (nMerge acc kvs).length ≤ acc.length + kvs.length
  | [], acc => Nat.le_refl _
  | p :: r, acc => by
    have h1 := nMerge_len r (nPut acc p.1 p.2.1 p.2.2)
    have h2 := nPut_len acc p.1 p.2.1 p.2.2
    show (nMerge (nPut acc p.1 p.2.1 p.2.2) r).length ≤ _
    rw [List.length_cons]; omega
theorem pairs_n {pins : List (Addr × Obj)} {σ : L2.St} {H : Hp} {s : Shared} (I : Inv X pins σ H s) : ∀ {Ts : List Addr} {kvs : List NE}, Paired (fun T (e : NE) => SqT X.K H T [.ref e.2.1, e.2.2]) Ts kvs →
    ∃ xs, NV kvs xs ∧ xs.length = Ts.length ∧ ∀ (j : Nat) (x : NestedKey × Addr × Value), xs[j]? = some x → ∃ T, Ts[j]? = some T ∧ s.heap.IsTuple T #[.ref x.2.1, x.2.2]
  | _, _, .nil => ⟨[], .nil, rfl, fun j x h => by simp at h⟩
  | _, _, .cons (a := T) (b := e) (l₁ := Ts) (l₂ := kvs) h t => by
    obtain ⟨xs, h1, h2, h3⟩ := pairs_n I t
    obtain ⟨its, rv, tp, _⟩ := I.tuple h
    cases rv with
    | cons r1 r2 =>
      cases r2 with
      | @cons _ u _ _ r2 r3 =>
        cases r3
        cases r1
        refine ⟨(e.1, e.2.1, u) :: xs, .cons ⟨rfl, rfl, r2⟩ h1, by simp [h2], fun j x hx => ?_⟩
        cases j with
        | zero =>
          simp only [List.getElem?_cons_zero, Option.some.injEq] at hx
          subst hx
          exact ⟨T, rfl, tp⟩
        | succ j =>
          simp only [List.getElem?_cons_succ] at hx ⊢
          exact h3 j x hx
def rDict (P : Program) (w : World) (K : PySem.W.Frag) : List V → Hp → VK → Prop := fun xs H Q => ∃ (a : Addr) (Ts : List Addr) (kvs : List NE), xs = [.ref a] ∧ SqL K H a (Ts.map V.ref) ∧ Paired (fun T (e : NE) => SqT K H T [.ref e.2.1, e.2.2]) Ts kvs ∧ KsAt K H kvs ∧
  ∀ p, H p = none → Q (.ref p) (upd H p (NDo P w p (nMerge [] kvs)))
theorem refs_at' : ∀ {Ts : List Addr} {its : List Value}, Vals (Ts.map V.ref) its → its = Ts.map Value.ref
  | [], _, h => by cases h; rfl
  | _ :: _, _, h => by
    cases h with
    | cons h1 h2 =>
      cases h1
      rw [refs_at' h2]
      rfl
theorem call_dictN (hc : X.calm = true) (hu : X.A.units + 64 < cLine) : CallR X (.type "dict") (rDict X.prog X.w X.K) := by
  intro pins s σ H xs us Q I r h
  obtain ⟨a, Ts, kvs, rfl, hq, hp, hks, q⟩ := h
  obtain ⟨u, rfl, rx⟩ := vals1 r
  cases rx
  obtain ⟨its, rv, ⟨o, n, ho, hcl, hd, hdat⟩, hz⟩ := I.list hq
  obtain rfl := refs_at' rv
  rw [List.length_map] at hz
  obtain ⟨ys, rel, hl, hpr⟩ := pairs_n I hp
  have hTs : Ts.length = kvs.length := Paired.length hp
  have hst := nestedKind_stays (prog := X.prog) (w := X.w)
  have room : (nestedKind X.prog X.w).room X.A.in1.in1 := by
    show X.A.in1.in1.units + 8 < cLine
    have : X.A.in1.in1.units = X.A.units + 1 + 1 := rfl
    omega
  refine call_dict_pairsH (knd := nestedKind X.prog X.w) (ps := ys) (PairArg.list a (Ts.map Value.ref).toArray (fun j => Ts.getD j 0) (ys.map fun x => (Value.ref x.2.1, x.2.2))) (I.ok.hd hc) room ⟨⟨o, n, ho, hcl, hd, hdat⟩, ?_, fun j k v e => ?_⟩ ⟨by rw [List.length_map], fun i key v e => ?_⟩ (fun h' hk x hx => ?_) (by rw [List.length_map, hl]; exact hz) fun h' tk hd' hk => ?_
  · rw [List.size_toArray, List.length_map, List.length_map, hl]
  · rw [List.getElem?_map] at e
    obtain ⟨x, hx, e⟩ := Option.map_eq_some_iff.mp e
    cases e
    obtain ⟨T, hT, ht⟩ := hpr j x hx
    have eT : Ts.getD j 0 = T := by rw [List.getD_eq_getElem?_getD, hT]; rfl
    refine ⟨?_, .inl (by show s.heap.IsTuple (Ts.getD j 0) _; rw [eT]; exact ht)⟩
    show (Ts.map Value.ref).toArray[j]? = some (Value.ref (Ts.getD j 0))
    rw [eT]
    rw [List.getElem?_toArray, List.getElem?_map, hT]
    rfl
  · have e' : (ys.map fun x => (Value.ref x.2.1, x.2.2))[i]? = some (key, v) := e
    rw [List.getElem?_map] at e'
    obtain ⟨x, hx, e'⟩ := Option.map_eq_some_iff.mp e'
    cases e'
    exact ⟨x.1, x.2.1, hx, rfl⟩
  · obtain ⟨e, he, e1, e2⟩ := nv_mem rel x hx
    rw [← e1, ← e2]
    exact hst.stays (fun b ob _ _ g _ => hk b ob (Nat.ne_of_lt (Heap.lt_size g)) (fun z => nomatch z) g) (key_is I (hks e he))
  · have hm : (s.heap.objs.size == sysModules) = false := beq_eq_false_iff_ne.mpr (Nat.ne_of_gt I.big)
    have hlen : (nMerge [] kvs).length ≤ sizeLine := by
      have := nMerge_len kvs []
      rw [List.length_nil] at this
      omega
    have hkk : ∀ b o, s.heap.get? b = some o → h'.get? b = some o := fun b o g => hk b o (fun z => nomatch z) g
    exact ⟨.ref s.heap.objs.size, upd H s.heap.objs.size (NDo X.prog X.w s.heap.objs.size (nMerge [] kvs)), I.laid (t' := tk) hkk (Nat.le_refl _) (nd_new hlen hm (NV.merge rel .nil) hd'), rfl, q _ (I.hok.fresh (Nat.le_refl _))⟩
end
/-! ### d.setdefault(k, x) -/
section
variable {X : Cx} {o e f : Expr} {apos cpos : Pos} {td ty tx : TE}
def tSetd (P : Program) (w : World) (K : PySem.W.Frag) (td ty tx : TE) : TE := fun σ H Q => td σ H fun x H1 => ∃ a kvs, x = .ref a ∧ Rd H1 a (NDo P w a kvs) ∧ ty σ H1 fun y H2 => tx σ H2 fun d H3 => ∃ b k kvs, y = .ref b ∧ H3 a = some (NDo P w a kvs) ∧ KsAt K H3 kvs ∧ KeyAt K H3 b k ∧ kvs.length < sizeLine ∧
  (∀ v, nGet kvs k = some v → Q v H3) ∧ (nGet kvs k = none → Q d (upd H3 a (NDo P w a (kvs ++ [(k, b, d)]))))
theorem pe_setd (hu : X.A.units + 64 < cLine) (ho : PE X o td) (he : PE X e ty) (hf : PE X f tx) (m : M2 X o "setdefault" apos e f cpos) : PE X (.Call (.Attribute o "setdefault" apos) [e, f] [] cpos) (tSetd X.prog X.w X.K td ty tx) := by
  refine ⟨fun pins s σ H Q I h => ?_⟩
  refine wpAny_Call_method m.base m.few m.line PySem.F.plainAttrs_dict PySem.F.slot_dict_setdefault PySem.F.type_dict_setdefault (thn (ho.run pins s σ H _ I h) fun u s1 ⟨x, H1, I1, rx, a, kvs0, ex, d, q1⟩ => ?_)
  subst ex
  obtain rfl : u = Value.ref a := rx
  obtain ⟨t1, t2⟩ := nd_typeIs I1 d
  refine ⟨t1, t2, ?_⟩
  rw [m.trees]
  refine Calls.callWith_builtin rfl (Calls.evalArgs_plain (Calls.spliced_cons (thn (he.run pins s1 σ H1 _ I1 q1) fun iv s2 ⟨y, H2, I2, ry, q2⟩ =>
    Calls.spliced_cons (thn (hf.run pins s2 σ H2 _ I2 q2) fun fv s3 ⟨z, H3, I3, rz, b, k, kvs, ey, g, ks, kb, hl, q3, q4⟩ => Calls.spliced_nil ?_))))
  subst ey
  obtain rfl : iv = Value.ref b := ry
  obtain ⟨zz, hd, xs, rel, dd⟩ := nd_rd I3 (.inl g) ks
  have hz : xs.length ≤ sizeLine := by rw [← Paired.length rel]; exact zz
  have rv := NV.val rel k
  refine call_setdefault_heap (hsz := hz) (room9 hu) (key_is I3 kb) hd dd (fun p hp => ?_) fun hn h' dd' hs => ?_
  · rw [hp] at rv
    cases hg : nGet kvs k with
    | none => rw [hg] at rv; exact (show False from rv).elim
    | some v =>
      rw [hg] at rv
      exact ⟨v, H3, I3.tok _, rv, q3 v hg⟩
  · rw [hn] at rv
    have hg : nGet kvs k = none := by
      cases hg : nGet kvs k with
      | none => rfl
      | some v => rw [hg] at rv; exact (show False from rv).elim
    obtain ⟨q, es, ep, hq, h2, h3, h4, h6, h5⟩ := id dd'
    have rel' := NV.put rel k b rz
    rw [nPut_new hg] at rel'
    exact ⟨z, _, d_write I3 (by rw [g]; exact True.intro) hs ⟨q, hq⟩ (nd_new (by rw [List.length_append]; simp; omega) hd rel' dd'), rz, q4 hg⟩
end
/-! ### list(d): the keys -/
section
variable {X : Cx}
def rListKeys (P : Program) (w : World) : List V → Hp → VK → Prop := fun xs H Q => ∃ (a : Addr) (kvs : List NE), xs = [.ref a] ∧ Rd H a (NDo P w a kvs) ∧ ∀ l, H l = none → Q (.ref l) (upd H l (.lst (kvs.map fun e => V.ref e.2.1)))
theorem call_list_keys (hc : X.calm = true) : CallR X (.type "list") (rListKeys X.prog X.w) := by
  intro pins s σ H xs us Q I r h
  obtain ⟨d, kvs, rfl, hd, q⟩ := h
  obtain ⟨u, rfl, rx⟩ := vals1 r
  cases rx
  obtain ⟨z, hs, ks, pr, o, es, ep, ho, hx, hdt, he, hn⟩ := ndo_raw (rd_of I.hok hd)
  obtain ⟨hsz, ent⟩ := ent_get he pr
  refine PySem.W.kdl_call (kdl_raw hs hx hdt) (I.ok.hd hc) ho (by omega) fun h' tk acc' c' kp e it => ?_
  have rv : Vals (kvs.map fun e => V.ref e.2.1) acc'.toList := by
    refine vals_of_at (by rw [List.length_map]; have h1 := it.1; have h2 : acc'.toList.length = acc'.size := (by simp); omega) fun j x u h1 h2 => ?_
    rw [List.getElem?_map] at h1
    obtain ⟨e0, he0, rfl⟩ := Option.map_eq_some_iff.mp h1
    obtain ⟨en, hen, hv⟩ := it.2 j u (by rw [← Array.getElem?_toList]; exact h2)
    obtain ⟨en', hen', k1, _⟩ := ent j e0 he0
    rw [hen] at hen'
    cases hen'
    rw [hv, k1]
    exact rfl
  have hz : (kvs.map fun e => V.ref e.2.1).length ≤ sizeLine := by rw [List.length_map]; exact z
  refine ⟨.ref s.heap.objs.size, _, I.laid (t' := tk) (o := .lst (kvs.map fun e => V.ref e.2.1)) kp (Nat.le_refl _) ?_, rfl, q _ (I.hok.fresh (Nat.le_refl _))⟩
  exact ⟨hz, acc'.toList, c', rv, by rw [Array.toArray_toList]; exact e⟩
end
end ND
namespace ND
open PySem PySem.Spec PyProof.Rows L2
section
variable {X : Cx}
def rIn (P : Program) (w : World) (K : PySem.W.Frag) : R2 := fun y x H Q => ∃ a b k kvs, x = .ref a ∧ y = .ref b ∧ Rd H a (NDo P w a kvs) ∧ KsAt K H kvs ∧ KeyAt K H b k ∧ Q (.bl (nGet kvs k).isSome) H
def rNotIn (P : Program) (w : World) (K : PySem.W.Frag) : R2 := fun y x H Q => ∃ a b k kvs, x = .ref a ∧ y = .ref b ∧ Rd H a (NDo P w a kvs) ∧ KsAt K H kvs ∧ KeyAt K H b k ∧ Q (.bl (!(nGet kvs k).isSome)) H
theorem op_in (hu : X.A.units + 64 < cLine) : OpR X (compareOp .In) (rIn X.prog X.w X.K) := by
  intro pins s σ H y x v u Q I ry rx h
  obtain ⟨a, b, k, kvs, ex, ey, g, ks, kb, q⟩ := h
  subst ex ey
  cases (show u = Value.ref a from rx)
  cases (show v = Value.ref b from ry)
  exact n_in hu I g ks kb fun s3 I3 => ⟨.bl (nGet kvs k).isSome, H, I3, rfl, q⟩
theorem op_notIn (hu : X.A.units + 64 < cLine) : OpR X (compareOp .NotIn) (rNotIn X.prog X.w X.K) := by
  intro pins s σ H y x v u Q I ry rx h
  obtain ⟨a, b, k, kvs, ex, ey, g, ks, kb, q⟩ := h
  subst ex ey
  cases (show u = Value.ref a from rx)
  cases (show v = Value.ref b from ry)
  exact n_notIn hu I g ks kb fun s3 I3 => ⟨.bl (!(nGet kvs k).isSome), H, I3, rfl, q⟩
end
end ND
/-! a != b of two instances of a class that has its own == ; get of a written dict -/
namespace NeX
open PySem PySem.W PyProof.Rows PySem.Spec
section
variable {prog : Program} {w : World} {A : Around} {E : Value → Shared → Prop} {s : Shared} {K : Frag} {x C L f : Addr} {h₀ : Heap} {m : Str → Option Value} {ox : Obj} {od : Option Obj} {b : Value}
theorem ifBound_ne {args : List Value} {Q : Option Value → Shared → Prop} (X : K.In s.heap) (I : InstAt s.heap x ox C od) (hs : findIn K (.ref C) "__ne__" = some (some (.builtin "object.__ne__")))
    (h : wpAny (model prog w) A (call (.builtin "object.__ne__") (.ref x :: args)) (fun v => Q (some v)) E s) : wpAny (model prog w) A (callSpecialIfBound? (.ref x) "__ne__" args) Q E s := by
  simp only [callSpecialIfBound?, bindSpecialIfBound?]
  refine wpAny_holding (wpAny_bind (wpAny_bind (wpAny_bind (I.type.here ((looks_findIn X hs).here ?_)))))
  refine wpAny_bind (wpAny_askSetting (wpAny_ite ?_))
  have fin : wpAny (model prog w) A (call (.builtin "object.__ne__") ([.ref x] ++ args) >>= fun v => pure (some v)) Q E s := wpAny_bind (wpAny_mono h (fun v s' h' => wpAny_pure h') fun _ _ h' => h')
  have hb := F.slot_object_ne.bind (.ref x)
  split
  · exact wpAny_bind (wpAny_of_eq hb (wpAny_pure (by exact fin)))
  · exact wpAny_tryCatch (wpAny_bind (wpAny_of_eq hb (wpAny_pure (by exact fin))))
theorem ne_K {y : Addr} {oy : Obj} {ody : Option Obj} {Q : Value → Shared → Prop} (hu : A.units + 1 < cLine) (X : K.In s.heap) (I : InstAt s.heap x ox C od) (J : InstAt s.heap y oy C ody)
    (hs : findIn K (.ref C) "__ne__" = some (some (.builtin "object.__ne__"))) (he : findIn K (.ref C) "__eq__" = some (some (.ref f))) (hf : isFn K (.ref f) = true) (ho : mroIn K C (.type "object") = some true)
    (h : wpAny (model prog w) A.in1 (call (.ref f) [.ref x, .ref y]) (fun v s' => ∃ c, v = .bool c ∧ Q (.bool (!c)) s') E s) : wpAny (model prog w) A (richCompare .NotEq (.ref x) (.ref y)) Q E s := by
  have one : wpAny (model prog w) A (tryCompare (.ref x) "__ne__" (.ref y)) (fun r s' => ∃ v, r = some v ∧ Q v s') E s := by
    unfold tryCompare
    refine wpAny_bind (ifBound_ne X I hs ?_)
    have sub : Looks (model prog w) s.heap (isInstance (.ref x) (.type "object")) true := I.type.andThen (looks_mroIn X ho)
    refine wpAny_call (codeAny_call_builtin F.slot_object_ne.plain F.entry_object_ne (@check_slot (model prog w) _ _ s "object.__ne__" "object" "__ne__" (.ref x) [.ref y] [] _ (by decide +kernel) (by decide +kernel) sub (F.args_object_ne_2 _ _) ?_))
    show wpAny _ _ (slotArgs "__ne__" 1 ⟨[.ref x, .ref y], []⟩ >>= _) _ _ s
    refine wpAny_bind (wpAny_of_eq (a := (.ref x, [.ref y])) rfl ?_)
    refine wpAny_bind (wpAny_cRoomFor (by show A.units + 1 < cLine; exact hu) ?_)
    refine wpAny_bind (ifBound_K X I he hf (wpAny_mono h (fun v s' hv => ?_) fun _ _ e => e))
    obtain ⟨c, rfl, hq⟩ := hv
    refine wpAny_bind (wpAny_truthy_bool (wpAny_pure ?_))
    exact wpAny_pure ⟨_, rfl, hq⟩
  unfold richCompare
  simp only [oneThing_ref]
  refine wpAny_holding (wpAny_bind (wpAny_cRoomFor (by omega) ?_))
  refine wpAny_bind (I.type.here (wpAny_bind (J.type.here ?_)))
  rw [if_neg (by simp)]
  refine wpAny_bind (wpAny_pure ?_)
  simp only [Bool.false_eq_true, if_false]
  refine wpAny_bind (wpAny_mono one (fun r s' z => ?_) fun _ _ e => e)
  obtain ⟨v, rfl, hq⟩ := z
  exact wpAny_pure hq
end
end NeX
namespace LL
open PySem PySem.Spec PyProof.Rows L2
section
variable {X : Cx} {CX : CXT} {n : Nat} {C g : Addr} {sp : Sp} {E : XK}
/-- a != b by the class's own == -/
def rOwnNe (C : Addr) (sp : Sp) (E : XK) : R2 := fun x y H Q => ∃ a dx fs b dy gs, x = .ref a ∧ y = .ref b ∧ H a = some (.ins C dx fs) ∧ H b = some (.ins C dy gs) ∧ sp [x, y] H (fun z H' => ∃ c, z = .bl c ∧ Q (.bl (!c)) H') E
theorem op_ownNe (hn : PySem.W.findIn X.K (.ref C) "__ne__" = some (some (.builtin "object.__ne__"))) (hs : PySem.W.findIn X.K (.ref C) "__eq__" = some (some (.ref g))) (hf : PySem.W.isFn X.K (.ref g) = true) (ho : PySem.W.mroIn X.K C (.type "object") = some true) (F : FnR X.prog X.w X.K X.mg X.base CX n g sp)
    (hr : Room (n + 1) X.A) (hx : Passes CX X E) : OpR X (compareOp .NotEq) (rOwnNe C sp E) := by
  intro pins s σ H x y v u Q I rx ry h
  obtain ⟨a, dx, fs, b, dy, gs, rfl, rfl, ha, hb, q⟩ := h
  cases (show v = Value.ref a from rx)
  cases (show u = Value.ref b from ry)
  obtain ⟨mA, O, _⟩ := ins_get I.hok ha
  obtain ⟨od, J, _⟩ := O.look
  obtain ⟨mB, O2, _⟩ := ins_get I.hok hb
  obtain ⟨od2, J2, _⟩ := O2.look
  show wpAny (model X.prog X.w) X.A (richCompare .NotEq (.ref a) (.ref b)) _ _ s
  refine NeX.ne_K (hu_of hr) I.kIn J J2 hn hs hf ho ?_
  have e0 : Env0 X.prog X.w X.K X.mg X.base X.A.in1 X.stack s H := by
    have e := I.env0
    exact ⟨e.frames, e.mod, e.bs, e.bsz, e.funs, e.frf, e.hok, e.bare⟩
  refine wpAny_call (codeAny_mono (F X.A.in1 X.stack s H [.ref a, .ref b] [.ref a, .ref b] _ E hr.in1 e0 (.cons rfl (.cons rfl .nil)) q) fun r s' hq => ?_)
  cases r with
  | error e => exact hx pins σ H s e s' I hq
  | ok fl =>
    cases fl with
    | ret w =>
      obtain ⟨z, H', I', rz, c, ez, ex⟩ := I.after hq
      subst ez
      cases rz
      exact ⟨c, rfl, .bl (!c), H', I', rfl, ex⟩
    | next => exact False.elim hq
    | brk => exact False.elim hq
    | cont => exact False.elim hq
end
/-! ### get of a written dict with text keys -/
def KGet (K : PySem.W.Frag) (w : World) (a : Addr) (x : Str) (o : Option V) : Prop :=
  ∃ es n u, K.lookup a = some ⟨.type "dict", none, .dict es n, #[]⟩ ∧ PySem.W.KeysLit w.params es.toList ∧ PySem.W.nsIn K a x = some u ∧ RelO o u
def tKGet2 (K : PySem.W.Frag) (w : World) (td ty tx : TE) : TE := fun σ H Q => td σ H fun x H1 => ∃ a, x = .ref a ∧ (∃ z o, KGet K w a z o) ∧ (a == sysModules) = false ∧ ty σ H1 fun y H2 => tx σ H2 fun d H3 => ∃ z o, y = .str z ∧ KGet K w a z o ∧ Q (o.getD d) H3
section
variable {X : Cx} {o e f : Expr} {apos cpos : Pos} {td ty tx : TE}
theorem pe_kget2 (ho : PE X o td) (he : PE X e ty) (hf : PE X f tx) (m : M2 X o "get" apos e f cpos) : PE X (.Call (.Attribute o "get" apos) [e, f] [] cpos) (tKGet2 X.K X.w td ty tx) := by
  refine ⟨fun pins s σ H Q I h => ?_⟩
  refine wpAny_Call_method m.base m.few m.line PySem.F.plainAttrs_dict PySem.F.slot_dict_get PySem.F.type_dict_get (thn (ho.run pins s σ H _ I h) fun u s1 ⟨x, H1, I1, rx, a, ex, ⟨z0, o0, es0, n0, u0, hl0, hk0, _⟩, hsys, q1⟩ => ?_)
  subst ex
  obtain rfl : u = Value.ref a := rx
  have hm := PySem.W.mapOf_K (prog := X.prog) (w := X.w) I1.kIn hl0 hk0
  refine ⟨hm.typeIs, hm.noDict, ?_⟩
  rw [m.trees]
  refine Calls.callWith_builtin rfl (Calls.evalArgs_plain (Calls.spliced_cons (thn (he.run pins s1 σ H1 _ I1 q1) fun iv s2 ⟨y, H2, I2, ry, q2⟩ =>
    Calls.spliced_cons (thn (hf.run pins s2 σ H2 _ I2 q2) fun fv s3 ⟨d, H3, I3, rd, z, oo, ey, ⟨es, n, uo, hl, hk, hn, ro⟩, q3⟩ => Calls.spliced_nil ?_))))
  subst ey
  obtain ⟨t, rfl⟩ := ry
  have hm3 := PySem.W.mapOf_K (prog := X.prog) (w := X.w) I3.kIn hl hk
  refine call_meetsIn PySem.F.slot_dict_get hm3.typeIs PySem.F.entry_dict_get (PySem.F.args_dict_get_3 _ _ _) (meets_dict_get_default (strKind X.prog X.w) a (strKind_is X.prog X.w z t) hsys fv) ⟨_, hm3, ⟨oo.getD d, H3, I3.tok _, ?_, q3⟩⟩
  rw [PySem.W.find_K hl hn]
  exact ro.getD rd
end
/-- what a written dict holds, from the head's facts -/
theorem kget_of {K : PySem.W.Frag} {w : World} {a : Addr} {kvs : List (Str × He.Dv)} (h : He.dicW K a = some (He.keysIn w.params (kvs.map (·.1)))) (hv : He.valsB K a kvs = true) :
    (a == sysModules) = false ∧ ∀ z : Str, KGet K w a z ((kvs.lookup z).map (He.Dv.v K)) := by
  have h0 := h
  unfold He.dicW at h
  cases q : K.lookup a with
  | none => rw [q] at h; cases h
  | some o =>
    obtain ⟨oc, od, dt, osl⟩ := o
    rw [q] at h
    cases oc with
    | type c =>
      cases od with
      | none =>
        cases dt with
        | dict es n =>
          have h1 : (match decide (c = "dict") && (osl.isEmpty && !(a == sysModules)) with
            | true => some (es.toList.map He.keyOf)
            | false => none) = some (He.keysIn w.params (kvs.map (·.1))) := h
          cases z : decide (c = "dict") && (osl.isEmpty && !(a == sysModules)) with
          | false => rw [z] at h1; cases h1
          | true =>
            rw [z] at h1
            obtain ⟨z1, z2⟩ := Bool.and_eq_true_iff.mp z
            obtain ⟨z3, z4⟩ := Bool.and_eq_true_iff.mp z2
            have e1 : c = "dict" := of_decide_eq_true z1
            have e2 : osl = #[] := Array.isEmpty_iff.mp z3
            subst e1 e2
            have hk := He.keysLit_of (Option.some.inj h1)
            refine ⟨by simpa using z4, fun x => ?_⟩
            have hkey : es.toList.map He.keyOf = He.keysIn w.params (kvs.map (·.1)) := Option.some.inj h1
            by_cases hx : ∃ p ∈ kvs, p.1 = x
            · -- there
              have hl : ∃ d, kvs.lookup x = some d ∧ (x, d) ∈ kvs := by
                clear hv h0 h h1 hkey hk
                induction kvs with
                | nil => obtain ⟨p, hp, _⟩ := hx; cases hp
                | cons p r ih =>
                  obtain ⟨p1, p2⟩ := p
                  by_cases e : x = p1
                  · subst e
                    exact ⟨p2, by simp [List.lookup], .head _⟩
                  · have e' : (x == p1) = false := by simpa using e
                    obtain ⟨d, h1, h2⟩ := ih (by
                      obtain ⟨p, hp, he⟩ := hx
                      rcases List.mem_cons.mp hp with rfl | hp
                      · exact absurd he.symm e
                      · exact ⟨p, hp, he⟩)
                    exact ⟨d, by simp [List.lookup, e', h1], .tail _ h2⟩
              obtain ⟨d, hl, hm⟩ := hl
              obtain ⟨u, hu, ru⟩ := He.valsB_ok hv hm
              rw [hl]
              exact ⟨es, n, some u, q, hk, hu, ru⟩
            · have hn : kvs.lookup x = none := by
                clear hv h0 h h1 hkey hk
                induction kvs with
                | nil => rfl
                | cons p r ih =>
                  obtain ⟨p1, p2⟩ := p
                  have e : ¬ x = p1 := fun e => hx ⟨_, .head _, e.symm⟩
                  have e' : (x == p1) = false := by simpa using e
                  have := ih fun ⟨p, hp, he⟩ => hx ⟨p, .tail _ hp, he⟩
                  simp [List.lookup, e', this]
              rw [hn]
              refine ⟨es, n, none, q, hk, ?_, True.intro⟩
              unfold PySem.W.nsIn
              rw [q]
              have keys : ∀ e ∈ es.toList, ∃ y t, e.key = .str y t ∧ y ∈ kvs.map (·.1) := by
                intro e he
                obtain ⟨y, t, e1, _⟩ := hk.all e he
                refine ⟨y, t, e1, ?_⟩
                have : He.keyOf e ∈ He.keysIn w.params (kvs.map (·.1)) := by rw [← hkey]; exact List.mem_map_of_mem he
                unfold He.keyOf at this
                rw [e1] at this
                unfold He.keysIn at this
                obtain ⟨k, hk1, hk2⟩ := List.mem_map.mp this
                have := (Prod.mk.inj (Option.some.inj hk2)).1
                rw [← this]
                exact hk1
              have f1 : es.toList.find? (·.key.isStr x) = none := List.find?_eq_none.mpr fun e he => by
                obtain ⟨y, t, e1, hy⟩ := keys e he
                rw [e1]
                intro hz
                have : y = x := by
                  simp only [Value.isStr] at hz
                  simpa using hz
                subst this
                obtain ⟨p, hp, he⟩ := List.mem_map.mp hy
                exact hx ⟨p, hp, he⟩
              have f2 : es.toList.any (·.refKey) = false := by
                rw [List.any_eq_false]
                intro e he
                obtain ⟨y, t, e1, _⟩ := keys e he
                simp [DictEntry.refKey, e1]
              simp only [f1, f2]
              rfl
        | _ => cases h
      | some b => cases dt <;> cases h
    | _ => cases od <;> cases dt <;> cases h
end LL
namespace LL
open PySem PySem.Spec PyProof.Rows L2 He
/-! ### the row's places (printed by gen.py) -/
abbrev R : PySem.W.OpenRow := PySem.W.OpenLaw.row PySem.Challenge.rw_lostleast_k04_whole_texts_are_read_exact
def PR : Program := R.prog
def top (i : Nat) : Stmt := PySem.Challenge.pw_lostleast_k04_whole_texts_are_read_exact.main.body.getD i (.Pass ⟨0, 0, 0, 0⟩)
abbrev s_is_name : Stmt := top 20
abbrev n_is_name : List Str := ["word", "char"]
theorem sc_is_name : FnScope n_is_name ["word"] (defScope s_is_name) := ⟨rfl, rfl, rfl, by decide +kernel, rfl, by decide +kernel, by decide +kernel⟩
abbrev s_number_of : Stmt := top 21
abbrev n_number_of : List Str := ["word", "char"]
theorem sc_number_of : FnScope n_number_of ["word"] (defScope s_number_of) := ⟨rfl, rfl, rfl, by decide +kernel, rfl, by decide +kernel, by decide +kernel⟩
abbrev s_Game_init : Stmt := inClass (top 22) 0
abbrev n_Game_init : List Str := ["self", "variables", "block"]
theorem sc_Game_init : FnScope n_Game_init ["self", "variables", "block"] (defScope s_Game_init) := ⟨rfl, rfl, rfl, by decide +kernel, rfl, by decide +kernel, by decide +kernel⟩
abbrev s_Game_eq : Stmt := inClass (top 22) 1
abbrev n_Game_eq : List Str := ["self", "other"]
theorem sc_Game_eq : FnScope n_Game_eq ["self", "other"] (defScope s_Game_eq) := ⟨rfl, rfl, rfl, by decide +kernel, rfl, by decide +kernel, by decide +kernel⟩
abbrev s_Reader_init : Stmt := inClass (top 23) 0
abbrev n_Reader_init : List Str := ["self", "text"]
theorem sc_Reader_init : FnScope n_Reader_init ["self", "text"] (defScope s_Reader_init) := ⟨rfl, rfl, rfl, by decide +kernel, rfl, by decide +kernel, by decide +kernel⟩
abbrev s_Reader_word : Stmt := inClass (top 23) 1
abbrev n_Reader_word : List Str := ["self"]
theorem sc_Reader_word : FnScope n_Reader_word ["self"] (defScope s_Reader_word) := ⟨rfl, rfl, rfl, by decide +kernel, rfl, by decide +kernel, by decide +kernel⟩
abbrev s_Reader_take : Stmt := inClass (top 23) 2
abbrev n_Reader_take : List Str := ["self", "allowed", "word"]
theorem sc_Reader_take : FnScope n_Reader_take ["self", "allowed"] (defScope s_Reader_take) := ⟨rfl, rfl, rfl, by decide +kernel, rfl, by decide +kernel, by decide +kernel⟩
abbrev s_Reader_take_number : Stmt := inClass (top 23) 3
abbrev n_Reader_take_number : List Str := ["self", "least", "most", "number"]
theorem sc_Reader_take_number : FnScope n_Reader_take_number ["self", "least", "most"] (defScope s_Reader_take_number) := ⟨rfl, rfl, rfl, by decide +kernel, rfl, by decide +kernel, by decide +kernel⟩
abbrev s_Reader_game : Stmt := inClass (top 23) 4
abbrev n_Reader_game : List Str := ["self", "variables", "name", "block"]
theorem sc_Reader_game : FnScope n_Reader_game ["self"] (defScope s_Reader_game) := ⟨rfl, rfl, rfl, by decide +kernel, rfl, by decide +kernel, by decide +kernel⟩
abbrev s_Reader_block : Stmt := inClass (top 23) 5
abbrev n_Reader_block : List Str := ["self", "room", "rows", "statement"]
theorem sc_Reader_block : FnScope n_Reader_block ["self", "room"] (defScope s_Reader_block) := ⟨rfl, rfl, rfl, by decide +kernel, rfl, by decide +kernel, by decide +kernel⟩
abbrev s_Reader_statement : Stmt := inClass (top 23) 6
abbrev n_Reader_statement : List Str := ["self", "room", "word"]
theorem sc_Reader_statement : FnScope n_Reader_statement ["self", "room"] (defScope s_Reader_statement) := ⟨rfl, rfl, rfl, by decide +kernel, rfl, by decide +kernel, by decide +kernel⟩
abbrev s_Reader_branching : Stmt := inClass (top 23) 7
abbrev n_Reader_branching : List Str := ["self", "word", "name", "count"]
theorem sc_Reader_branching : FnScope n_Reader_branching ["self", "word"] (defScope s_Reader_branching) := ⟨rfl, rfl, rfl, by decide +kernel, rfl, by decide +kernel, by decide +kernel⟩
abbrev s_Reader_choice : Stmt := inClass (top 23) 8
abbrev n_Reader_choice : List Str := ["self", "room", "test", "then", "other"]
theorem sc_Reader_choice : FnScope n_Reader_choice ["self", "room"] (defScope s_Reader_choice) := ⟨rfl, rfl, rfl, by decide +kernel, rfl, by decide +kernel, by decide +kernel⟩
abbrev s_Reader_expression : Stmt := inClass (top 23) 9
abbrev n_Reader_expression : List Str := ["self", "room", "word", "left"]
theorem sc_Reader_expression : FnScope n_Reader_expression ["self", "room"] (defScope s_Reader_expression) := ⟨rfl, rfl, rfl, by decide +kernel, rfl, by decide +kernel, by decide +kernel⟩
abbrev s_read_game : Stmt := top 24
abbrev n_read_game : List Str := ["text"]
theorem sc_read_game : FnScope n_read_game ["text"] (defScope s_read_game) := ⟨rfl, rfl, rfl, by decide +kernel, rfl, by decide +kernel, by decide +kernel⟩
abbrev s_expression_words : Stmt := top 25
abbrev n_expression_words : List Str := ["expression"]
theorem sc_expression_words : FnScope n_expression_words ["expression"] (defScope s_expression_words) := ⟨rfl, rfl, rfl, by decide +kernel, rfl, by decide +kernel, by decide +kernel⟩
abbrev s_block_words : Stmt := top 26
abbrev n_block_words : List Str := ["block", "words", "row"]
theorem sc_block_words : FnScope n_block_words ["block"] (defScope s_block_words) := ⟨rfl, rfl, rfl, by decide +kernel, rfl, by decide +kernel, by decide +kernel⟩
abbrev s_game_text : Stmt := top 27
abbrev n_game_text : List Str := ["game", "words", "name", "size"]
theorem sc_game_text : FnScope n_game_text ["game"] (defScope s_game_text) := ⟨rfl, rfl, rfl, by decide +kernel, rfl, by decide +kernel, by decide +kernel⟩
abbrev s_l_pool : Stmt := top 29
abbrev n_l_pool : List Str := ["_law_script", "_law_budget"]
theorem sc_l_pool : FnScope n_l_pool ["_law_script", "_law_budget"] (defScope s_l_pool) := ⟨rfl, rfl, rfl, by decide +kernel, rfl, by decide +kernel, by decide +kernel⟩
abbrev s_l_draw : Stmt := top 30
abbrev n_l_draw : List Str := ["_law_pool_here", "_law_size", "_law_cell", "_law_value_here"]
theorem sc_l_draw : FnScope n_l_draw ["_law_pool_here", "_law_size"] (defScope s_l_draw) := ⟨rfl, rfl, rfl, by decide +kernel, rfl, by decide +kernel, by decide +kernel⟩
abbrev s_l_spend : Stmt := top 31
abbrev n_l_spend : List Str := ["_law_pool_here"]
theorem sc_l_spend : FnScope n_l_spend ["_law_pool_here"] (defScope s_l_spend) := ⟨rfl, rfl, rfl, by decide +kernel, rfl, by decide +kernel, by decide +kernel⟩
abbrev s_l_number : Stmt := top 32
abbrev n_l_number : List Str := ["_law_pool_here"]
theorem sc_l_number : FnScope n_l_number ["_law_pool_here"] (defScope s_l_number) := ⟨rfl, rfl, rfl, by decide +kernel, rfl, by decide +kernel, by decide +kernel⟩
abbrev s_l_same : Stmt := top 33
abbrev n_l_same : List Str := ["_law_actual", "_law_due", "_law_k"]
theorem sc_l_same : FnScope n_l_same ["_law_actual", "_law_due"] (defScope s_l_same) := ⟨rfl, rfl, rfl, by decide +kernel, rfl, by decide +kernel, by decide +kernel⟩
abbrev s_l_value : Stmt := top 34
abbrev n_l_value : List Str := ["_law_pool_here", "_law_names_here", "_law_deep", "_law_kind", "_law_sign", "_law_left"]
theorem sc_l_value : FnScope n_l_value ["_law_pool_here", "_law_names_here", "_law_deep"] (defScope s_l_value) := ⟨rfl, rfl, rfl, by decide +kernel, rfl, by decide +kernel, by decide +kernel⟩
abbrev s_l_statement : Stmt := top 35
abbrev n_l_statement : List Str := ["_law_pool_here", "_law_scope", "_law_room", "_law_kind", "_law_names_here", "_law_word", "_law_row", "_law_test", "_law_then"]
theorem sc_l_statement : FnScope n_l_statement ["_law_pool_here", "_law_scope", "_law_room"] (defScope s_l_statement) := ⟨rfl, rfl, rfl, by decide +kernel, rfl, by decide +kernel, by decide +kernel⟩
abbrev s_l_block : Stmt := top 36
abbrev n_l_block : List Str := ["_law_pool_here", "_law_scope", "_law_room", "_law_most", "_law_block_here", "_law_k"]
theorem sc_l_block : FnScope n_l_block ["_law_pool_here", "_law_scope", "_law_room", "_law_most"] (defScope s_l_block) := ⟨rfl, rfl, rfl, by decide +kernel, rfl, by decide +kernel, by decide +kernel⟩
abbrev s_l_names : Stmt := top 37
abbrev n_l_names : List Str := ["_law_pool_here", "_law_count", "_law_names_here", "_law_k", "_law_name", "_law_turn", "_law_other"]
theorem sc_l_names : FnScope n_l_names ["_law_pool_here", "_law_count"] (defScope s_l_names) := ⟨rfl, rfl, rfl, by decide +kernel, rfl, by decide +kernel, by decide +kernel⟩
abbrev s_l_game : Stmt := top 38
abbrev n_l_game : List Str := ["_law_pool_here", "_law_moves_here", "_law_most", "_law_names_here", "_law_k", "_law_variables", "_law_row", "_law_scope"]
theorem sc_l_game : FnScope n_l_game ["_law_pool_here", "_law_moves_here", "_law_most"] (defScope s_l_game) := ⟨rfl, rfl, rfl, by decide +kernel, rfl, by decide +kernel, by decide +kernel⟩
abbrev s_l_value_words : Stmt := top 39
abbrev n_l_value_words : List Str := ["_law_due"]
theorem sc_l_value_words : FnScope n_l_value_words ["_law_due"] (defScope s_l_value_words) := ⟨rfl, rfl, rfl, by decide +kernel, rfl, by decide +kernel, by decide +kernel⟩
abbrev s_l_block_words : Stmt := top 40
abbrev n_l_block_words : List Str := ["_law_block_here", "_law_words_here", "_law_due"]
theorem sc_l_block_words : FnScope n_l_block_words ["_law_block_here"] (defScope s_l_block_words) := ⟨rfl, rfl, rfl, by decide +kernel, rfl, by decide +kernel, by decide +kernel⟩
abbrev s_l_words : Stmt := top 41
abbrev n_l_words : List Str := ["_law_game_here", "_law_words_here", "_law_name", "_law_size"]
theorem sc_l_words : FnScope n_l_words ["_law_game_here"] (defScope s_l_words) := ⟨rfl, rfl, rfl, by decide +kernel, rfl, by decide +kernel, by decide +kernel⟩
abbrev s_l_is_name : Stmt := top 42
abbrev n_l_is_name : List Str := ["_law_word", "_law_keys", "_law_char"]
theorem sc_l_is_name : FnScope n_l_is_name ["_law_word"] (defScope s_l_is_name) := ⟨rfl, rfl, rfl, by decide +kernel, rfl, by decide +kernel, by decide +kernel⟩
abbrev s_l_is_number : Stmt := top 43
abbrev n_l_is_number : List Str := ["_law_word", "_law_least", "_law_most", "_law_char"]
theorem sc_l_is_number : FnScope n_l_is_number ["_law_word", "_law_least", "_law_most"] (defScope s_l_is_number) := ⟨rfl, rfl, rfl, by decide +kernel, rfl, by decide +kernel, by decide +kernel⟩
abbrev s_l_values : Stmt := top 44
abbrev n_l_values : List Str := ["_law_stack", "_law_scope", "_law_word", "_law_room"]
theorem sc_l_values : FnScope n_l_values ["_law_stack", "_law_scope", "_law_word", "_law_room"] (defScope s_l_values) := ⟨rfl, rfl, rfl, by decide +kernel, rfl, by decide +kernel, by decide +kernel⟩
abbrev s_l_begins : Stmt := top 45
abbrev n_l_begins : List Str := ["_law_stack", "_law_scope", "_law_word", "_law_room", "_law_named"]
theorem sc_l_begins : FnScope n_l_begins ["_law_stack", "_law_scope", "_law_word", "_law_room"] (defScope s_l_begins) := ⟨rfl, rfl, rfl, by decide +kernel, rfl, by decide +kernel, by decide +kernel⟩
abbrev s_l_blocks : Stmt := top 46
abbrev n_l_blocks : List Str := ["_law_stack", "_law_scope", "_law_word", "_law_room", "_law_kind"]
theorem sc_l_blocks : FnScope n_l_blocks ["_law_stack", "_law_scope", "_law_word", "_law_room", "_law_kind"] (defScope s_l_blocks) := ⟨rfl, rfl, rfl, by decide +kernel, rfl, by decide +kernel, by decide +kernel⟩
abbrev s_l_next : Stmt := top 47
abbrev n_l_next : List Str := ["_law_stack", "_law_scope", "_law_word", "_law_top", "_law_names_here"]
theorem sc_l_next : FnScope n_l_next ["_law_stack", "_law_scope", "_law_word"] (defScope s_l_next) := ⟨rfl, rfl, rfl, by decide +kernel, rfl, by decide +kernel, by decide +kernel⟩
abbrev s_l_wrong : Stmt := top 48
abbrev n_l_wrong : List Str := ["_law_words_here", "_law_scope", "_law_stack", "_law_at"]
theorem sc_l_wrong : FnScope n_l_wrong ["_law_words_here"] (defScope s_l_wrong) := ⟨rfl, rfl, rfl, by decide +kernel, rfl, by decide +kernel, by decide +kernel⟩
abbrev s_l_menu : Stmt := top 49
abbrev n_l_menu : List Str := ["_law_pool_here", "_law_words_here", "_law_signs", "_law_k"]
theorem sc_l_menu : FnScope n_l_menu ["_law_pool_here"] (defScope s_l_menu) := ⟨rfl, rfl, rfl, by decide +kernel, rfl, by decide +kernel, by decide +kernel⟩
abbrev s_l_near : Stmt := top 50
abbrev n_l_near : List Str := ["_law_pool_here", "_law_word", "_law_signs", "_law_at"]
theorem sc_l_near : FnScope n_l_near ["_law_pool_here", "_law_word"] (defScope s_l_near) := ⟨rfl, rfl, rfl, by decide +kernel, rfl, by decide +kernel, by decide +kernel⟩
abbrev s_l_changed : Stmt := top 51
abbrev n_l_changed : List Str := ["_law_pool_here", "_law_words_here", "_law_k", "_law_way", "_law_place", "_law_other"]
theorem sc_l_changed : FnScope n_l_changed ["_law_pool_here", "_law_words_here"] (defScope s_l_changed) := ⟨rfl, rfl, rfl, by decide +kernel, rfl, by decide +kernel, by decide +kernel⟩
abbrev s_l_walked : Stmt := top 52
abbrev n_l_walked : List Str := ["_law_pool_here", "_law_words_here", "_law_k", "_law_word", "_law_turn"]
theorem sc_l_walked : FnScope n_l_walked ["_law_pool_here"] (defScope s_l_walked) := ⟨rfl, rfl, rfl, by decide +kernel, rfl, by decide +kernel, by decide +kernel⟩
abbrev s_l_moves : Stmt := top 53
abbrev n_l_moves : List Str := ["_law_block_here", "_law_found", "_law_due"]
theorem sc_l_moves : FnScope n_l_moves ["_law_block_here"] (defScope s_l_moves) := ⟨rfl, rfl, rfl, by decide +kernel, rfl, by decide +kernel, by decide +kernel⟩
abbrev s_law : Stmt := top 54
abbrev n_law : List Str := ["_law_script", "_law_pool_here", "_law_words_here", "_law_text", "_law_place", "_law_wrong_here", "_law_actual", "e", "_law_moves_here", "_law_k"]
theorem sc_law : FnScope n_law ["_law_script"] (defScope s_law) := ⟨rfl, rfl, rfl, by decide +kernel, rfl, by decide +kernel, by decide +kernel⟩
def d_is_name : He.DefD := ⟨("is_name", none), "is_name", "is_name", defArgs s_is_name, defBody s_is_name, defScope s_is_name, [], []⟩
def d_number_of : He.DefD := ⟨("number_of", none), "number_of", "number_of", defArgs s_number_of, defBody s_number_of, defScope s_number_of, [], []⟩
def d_Game_init : He.DefD := ⟨("Game", some "__init__"), "__init__", "Game.__init__", defArgs s_Game_init, defBody s_Game_init, defScope s_Game_init, [], []⟩
def d_Game_eq : He.DefD := ⟨("Game", some "__eq__"), "__eq__", "Game.__eq__", defArgs s_Game_eq, defBody s_Game_eq, defScope s_Game_eq, [], []⟩
def d_Reader_init : He.DefD := ⟨("Reader", some "__init__"), "__init__", "Reader.__init__", defArgs s_Reader_init, defBody s_Reader_init, defScope s_Reader_init, [], []⟩
def d_Reader_word : He.DefD := ⟨("Reader", some "word"), "word", "Reader.word", defArgs s_Reader_word, defBody s_Reader_word, defScope s_Reader_word, [], []⟩
def d_Reader_take : He.DefD := ⟨("Reader", some "take"), "take", "Reader.take", defArgs s_Reader_take, defBody s_Reader_take, defScope s_Reader_take, [], []⟩
def d_Reader_take_number : He.DefD := ⟨("Reader", some "take_number"), "take_number", "Reader.take_number", defArgs s_Reader_take_number, defBody s_Reader_take_number, defScope s_Reader_take_number, [], []⟩
def d_Reader_game : He.DefD := ⟨("Reader", some "game"), "game", "Reader.game", defArgs s_Reader_game, defBody s_Reader_game, defScope s_Reader_game, [], []⟩
def d_Reader_block : He.DefD := ⟨("Reader", some "block"), "block", "Reader.block", defArgs s_Reader_block, defBody s_Reader_block, defScope s_Reader_block, [], []⟩
def d_Reader_statement : He.DefD := ⟨("Reader", some "statement"), "statement", "Reader.statement", defArgs s_Reader_statement, defBody s_Reader_statement, defScope s_Reader_statement, [], []⟩
def d_Reader_branching : He.DefD := ⟨("Reader", some "branching"), "branching", "Reader.branching", defArgs s_Reader_branching, defBody s_Reader_branching, defScope s_Reader_branching, [], []⟩
def d_Reader_choice : He.DefD := ⟨("Reader", some "choice"), "choice", "Reader.choice", defArgs s_Reader_choice, defBody s_Reader_choice, defScope s_Reader_choice, [], []⟩
def d_Reader_expression : He.DefD := ⟨("Reader", some "expression"), "expression", "Reader.expression", defArgs s_Reader_expression, defBody s_Reader_expression, defScope s_Reader_expression, [], []⟩
def d_read_game : He.DefD := ⟨("read_game", none), "read_game", "read_game", defArgs s_read_game, defBody s_read_game, defScope s_read_game, [], []⟩
def d_expression_words : He.DefD := ⟨("expression_words", none), "expression_words", "expression_words", defArgs s_expression_words, defBody s_expression_words, defScope s_expression_words, [], []⟩
def d_block_words : He.DefD := ⟨("block_words", none), "block_words", "block_words", defArgs s_block_words, defBody s_block_words, defScope s_block_words, [], []⟩
def d_game_text : He.DefD := ⟨("game_text", none), "game_text", "game_text", defArgs s_game_text, defBody s_game_text, defScope s_game_text, [], []⟩
def d_l_pool : He.DefD := ⟨("_law_pool", none), "_law_pool", "_law_pool", defArgs s_l_pool, defBody s_l_pool, defScope s_l_pool, [], []⟩
def d_l_draw : He.DefD := ⟨("_law_draw", none), "_law_draw", "_law_draw", defArgs s_l_draw, defBody s_l_draw, defScope s_l_draw, [], []⟩
def d_l_spend : He.DefD := ⟨("_law_spend", none), "_law_spend", "_law_spend", defArgs s_l_spend, defBody s_l_spend, defScope s_l_spend, [], []⟩
def d_l_number : He.DefD := ⟨("_law_number", none), "_law_number", "_law_number", defArgs s_l_number, defBody s_l_number, defScope s_l_number, [], []⟩
def d_l_same : He.DefD := ⟨("_law_same", none), "_law_same", "_law_same", defArgs s_l_same, defBody s_l_same, defScope s_l_same, [], []⟩
def d_l_value : He.DefD := ⟨("_law_value", none), "_law_value", "_law_value", defArgs s_l_value, defBody s_l_value, defScope s_l_value, [], []⟩
def d_l_statement : He.DefD := ⟨("_law_statement", none), "_law_statement", "_law_statement", defArgs s_l_statement, defBody s_l_statement, defScope s_l_statement, [], []⟩
def d_l_block : He.DefD := ⟨("_law_block", none), "_law_block", "_law_block", defArgs s_l_block, defBody s_l_block, defScope s_l_block, [], []⟩
def d_l_names : He.DefD := ⟨("_law_names", none), "_law_names", "_law_names", defArgs s_l_names, defBody s_l_names, defScope s_l_names, [], []⟩
def d_l_game : He.DefD := ⟨("_law_game", none), "_law_game", "_law_game", defArgs s_l_game, defBody s_l_game, defScope s_l_game, [], []⟩
def d_l_value_words : He.DefD := ⟨("_law_value_words", none), "_law_value_words", "_law_value_words", defArgs s_l_value_words, defBody s_l_value_words, defScope s_l_value_words, [], []⟩
def d_l_block_words : He.DefD := ⟨("_law_block_words", none), "_law_block_words", "_law_block_words", defArgs s_l_block_words, defBody s_l_block_words, defScope s_l_block_words, [], []⟩
def d_l_words : He.DefD := ⟨("_law_words", none), "_law_words", "_law_words", defArgs s_l_words, defBody s_l_words, defScope s_l_words, [], []⟩
def d_l_is_name : He.DefD := ⟨("_law_is_name", none), "_law_is_name", "_law_is_name", defArgs s_l_is_name, defBody s_l_is_name, defScope s_l_is_name, [], []⟩
def d_l_is_number : He.DefD := ⟨("_law_is_number", none), "_law_is_number", "_law_is_number", defArgs s_l_is_number, defBody s_l_is_number, defScope s_l_is_number, [], []⟩
def d_l_values : He.DefD := ⟨("_law_values", none), "_law_values", "_law_values", defArgs s_l_values, defBody s_l_values, defScope s_l_values, [], []⟩
def d_l_begins : He.DefD := ⟨("_law_begins", none), "_law_begins", "_law_begins", defArgs s_l_begins, defBody s_l_begins, defScope s_l_begins, [], []⟩
def d_l_blocks : He.DefD := ⟨("_law_blocks", none), "_law_blocks", "_law_blocks", defArgs s_l_blocks, defBody s_l_blocks, defScope s_l_blocks, [], []⟩
def d_l_next : He.DefD := ⟨("_law_next", none), "_law_next", "_law_next", defArgs s_l_next, defBody s_l_next, defScope s_l_next, [], []⟩
def d_l_wrong : He.DefD := ⟨("_law_wrong", none), "_law_wrong", "_law_wrong", defArgs s_l_wrong, defBody s_l_wrong, defScope s_l_wrong, [], []⟩
def d_l_menu : He.DefD := ⟨("_law_menu", none), "_law_menu", "_law_menu", defArgs s_l_menu, defBody s_l_menu, defScope s_l_menu, [], []⟩
def d_l_near : He.DefD := ⟨("_law_near", none), "_law_near", "_law_near", defArgs s_l_near, defBody s_l_near, defScope s_l_near, [], []⟩
def d_l_changed : He.DefD := ⟨("_law_changed", none), "_law_changed", "_law_changed", defArgs s_l_changed, defBody s_l_changed, defScope s_l_changed, [], []⟩
def d_l_walked : He.DefD := ⟨("_law_walked", none), "_law_walked", "_law_walked", defArgs s_l_walked, defBody s_l_walked, defScope s_l_walked, [], []⟩
def d_l_moves : He.DefD := ⟨("_law_moves", none), "_law_moves", "_law_moves", defArgs s_l_moves, defBody s_l_moves, defScope s_l_moves, [], []⟩
def d_law : He.DefD := ⟨("law", none), "law", "law", defArgs s_law, defBody s_law, defScope s_law, [], []⟩
def excB (K : PySem.W.Frag) (D : Addr) : Bool := eqO (PySem.W.findIn K (.ref D) "__getattribute__") (some (some (.builtin "BaseException.__getattribute__"))) && (eqO (PySem.W.findIn K (.ref D) "__getattr__") (some none) && (decide (PySem.W.subIn K (.ref D) (.type "BaseException") = some true) && (PySem.W.hasDictIn K D && (eqO (PySem.W.findIn K (.ref D) "__class__") (some (some (.builtin "object.__class__"))) && (eqO (PySem.W.specialIn K (.builtin "object.__class__") "__get__") (some (some (.builtin "getset_descriptor.__get__"))) && (decide (PySem.W.takesIn K (.builtin "object.__class__") = some true) && decide (PySem.W.mroIn K D (.type "object") = some true)))))))
theorem excB_ok {K : PySem.W.Frag} {D : Addr} (h : excB K D = true) : ExcC K D := by
  simp only [excB, Bool.and_eq_true] at h
  obtain ⟨h1, h2, h3, h4, h5, h6, h7, h8⟩ := h
  exact ⟨eqO_ok h1, eqO_ok h2, of_decide_eq_true h3, h4, eqO_ok h5, eqO_ok h6, of_decide_eq_true h7, of_decide_eq_true h8⟩
def fn : List He.DefD := [d_is_name, d_number_of, d_Game_init, d_Game_eq, d_Reader_init, d_Reader_word, d_Reader_take, d_Reader_take_number, d_Reader_game, d_Reader_block, d_Reader_statement, d_Reader_branching, d_Reader_choice, d_Reader_expression, d_read_game, d_expression_words, d_block_words, d_game_text, d_l_pool, d_l_draw, d_l_spend, d_l_number, d_l_same, d_l_value, d_l_statement, d_l_block, d_l_names, d_l_game, d_l_value_words, d_l_block_words, d_l_words, d_l_is_name, d_l_is_number, d_l_values, d_l_begins, d_l_blocks, d_l_next, d_l_wrong, d_l_menu, d_l_near, d_l_changed, d_l_walked, d_l_moves, d_law]
def fa : List He.Fa := [
  .glo "is_name",
  .glo "number_of",
  .glo "read_game",
  .glo "expression_words",
  .glo "block_words",
  .glo "game_text",
  .glo "_law_pool",
  .glo "_law_draw",
  .glo "_law_spend",
  .glo "_law_number",
  .glo "_law_same",
  .glo "_law_value",
  .glo "_law_statement",
  .glo "_law_block",
  .glo "_law_names",
  .glo "_law_game",
  .glo "_law_value_words",
  .glo "_law_block_words",
  .glo "_law_words",
  .glo "_law_is_name",
  .glo "_law_is_number",
  .glo "_law_values",
  .glo "_law_begins",
  .glo "_law_blocks",
  .glo "_law_next",
  .glo "_law_wrong",
  .glo "_law_menu",
  .glo "_law_near",
  .glo "_law_changed",
  .glo "_law_walked",
  .glo "_law_moves",
  .glo "law",
  .glo "LossError",
  .exc "LossError",
  .glo "BadText",
  .glo "BadRatio",
  .exc "BadRatio",
  .glo "BadPlan",
  .glo "BadPaper",
  .glo "NoShare",
  .glo "NoPlan",
  .glo "TooLarge",
  .glo "Game",
  .cls "Game",
  .mkr "Game",
  .noat "Game" "variables",
  .noat "Game" "block",
  .meth "Game" "__eq__",
  .glo "Reader",
  .cls "Reader",
  .mkr "Reader",
  .noat "Reader" "words",
  .noat "Reader" "at",
  .noat "Reader" "names",
  .noat "Reader" "branches",
  .noat "Reader" "moves",
  .meth "Reader" "word",
  .meth "Reader" "take",
  .meth "Reader" "take_number",
  .meth "Reader" "game",
  .meth "Reader" "block",
  .meth "Reader" "statement",
  .meth "Reader" "branching",
  .meth "Reader" "choice",
  .meth "Reader" "expression",
  .free "ValueError",
  .free "int",
  .free "isinstance",
  .free "range",
  .free "tuple",
  .free "len",
  .free "all",
  .free "list",
  .free "bool",
  .free "str",
  .free "super",
  .glo "KEYS",
  .glo "SIGNS",
  .glo "SEATS",
  .str "LETTERS" "abcdefghijklmnopqrstuvwxyz",
  .int "GREATEST" 65535,
  .int "MOST_NAMES" 5,
  .int "MOST_PARTS" 8,
  .int "MOST_BRANCHES" 10,
  .int "DEEPEST" 6,
  .int "DEEPEST_IF" 4]
def exs : List (PySem.W.Frag → Bool) := [
  fun K => eqO (PySem.W.findIn K (.ref (ga K "Game")) "__class__") (some (some (.builtin "object.__class__"))),
  fun K => PySem.W.notFirst K (ga K "Game") (.ref (ga K "Game")),
  fun K => eqO (PySem.W.findIn K (.ref (ga K "Game")) "__ne__") (some (some (.builtin "object.__ne__"))),
  fun K => decide (PySem.W.mroIn K (ga K "Game") (.type "object") = some true),
  fun K => decide (PySem.W.kitOne K (.ref (ga K "Game")) (.type "tuple") = some false),
  fun K => decide (PySem.W.kitOne K (.ref (ga K "Game")) (.type "list") = some false),
  fun K => decide (PySem.W.kitOne K (.ref (ga K "Game")) (.type "bool") = some false),
  fun K => decide (PySem.W.kitOne K (.ref (ga K "Game")) (.type "int") = some false),
  fun K => decide (PySem.W.kitOne K (.ref (ga K "Game")) (.type "str") = some false),
  fun K => decide (PySem.W.kitOne K (.ref (ga K "Game")) (.ref (ga K "Game")) = some true),
  fun K => decide (PySem.W.kitOne K (.ref (ga K "Game")) (.ref (ga K "Reader")) = some false),
  fun K => eqO (PySem.W.findIn K (.ref (ga K "Reader")) "__class__") (some (some (.builtin "object.__class__"))),
  fun K => decide (PySem.W.mroIn K (ga K "Reader") (.type "object") = some true),
  fun K => decide (PySem.W.kitOne K (.ref (ga K "Reader")) (.type "tuple") = some false),
  fun K => decide (PySem.W.kitOne K (.ref (ga K "Reader")) (.type "list") = some false),
  fun K => decide (PySem.W.kitOne K (.ref (ga K "Reader")) (.type "bool") = some false),
  fun K => decide (PySem.W.kitOne K (.ref (ga K "Reader")) (.type "int") = some false),
  fun K => decide (PySem.W.kitOne K (.ref (ga K "Reader")) (.type "str") = some false),
  fun K => decide (PySem.W.kitOne K (.ref (ga K "Reader")) (.ref (ga K "Game")) = some false),
  fun K => decide (PySem.W.kitOne K (.ref (ga K "Reader")) (.ref (ga K "Reader")) = some true),
  fun K => eqO (PySem.W.specialIn K (.builtin "object.__class__") "__get__") (some (some (.builtin "getset_descriptor.__get__"))),
  fun K => decide (PySem.W.takesIn K (.builtin "object.__class__") = some true),
  fun K => He.tupB K "KEYS" [.str "var", .str "set", .str "draw", .str "choose", .str "come", .str "show", .str "chooser", .str "comer", .str "pay", .str "take", .str "if", .str "else", .str "end", .str "mod"],
  fun K => He.tupB K "SIGNS" [.str "+", .str "-", .str "*", .str "/", .str "mod", .str "<", .str "="],
  fun K => He.tupB K "SEATS" [.str "chooser", .str "comer"],
  fun K => excB K (ga K "LossError"),
  fun K => decide (PySem.W.exmOne K (.ref (ga K "LossError")) (.ref (ga K "LossError")) = some true),
  fun K => decide (PySem.W.kitOne K (.ref (ga K "LossError")) (.ref (ga K "LossError")) = some true),
  fun K => decide (PySem.W.exmOne K (.ref (ga K "LossError")) (.ref (ga K "BadText")) = some false),
  fun K => decide (PySem.W.kitOne K (.ref (ga K "LossError")) (.ref (ga K "BadText")) = some false),
  fun K => decide (PySem.W.exmOne K (.ref (ga K "LossError")) (.ref (ga K "BadRatio")) = some false),
  fun K => decide (PySem.W.kitOne K (.ref (ga K "LossError")) (.ref (ga K "BadRatio")) = some false),
  fun K => decide (PySem.W.exmOne K (.ref (ga K "LossError")) (.ref (ga K "BadPlan")) = some false),
  fun K => decide (PySem.W.kitOne K (.ref (ga K "LossError")) (.ref (ga K "BadPlan")) = some false),
  fun K => decide (PySem.W.exmOne K (.ref (ga K "LossError")) (.ref (ga K "BadPaper")) = some false),
  fun K => decide (PySem.W.kitOne K (.ref (ga K "LossError")) (.ref (ga K "BadPaper")) = some false),
  fun K => decide (PySem.W.exmOne K (.ref (ga K "LossError")) (.ref (ga K "NoShare")) = some false),
  fun K => decide (PySem.W.kitOne K (.ref (ga K "LossError")) (.ref (ga K "NoShare")) = some false),
  fun K => decide (PySem.W.exmOne K (.ref (ga K "LossError")) (.ref (ga K "NoPlan")) = some false),
  fun K => decide (PySem.W.kitOne K (.ref (ga K "LossError")) (.ref (ga K "NoPlan")) = some false),
  fun K => decide (PySem.W.exmOne K (.ref (ga K "LossError")) (.ref (ga K "TooLarge")) = some false),
  fun K => decide (PySem.W.kitOne K (.ref (ga K "LossError")) (.ref (ga K "TooLarge")) = some false),
  fun K => decide (PySem.W.kitOne K (.ref (ga K "LossError")) (.type "ValueError") = some true),
  fun K => excB K (ga K "BadText"),
  fun K => decide (PySem.W.exmOne K (.ref (ga K "BadText")) (.ref (ga K "LossError")) = some true),
  fun K => decide (PySem.W.kitOne K (.ref (ga K "BadText")) (.ref (ga K "LossError")) = some true),
  fun K => decide (PySem.W.exmOne K (.ref (ga K "BadText")) (.ref (ga K "BadText")) = some true),
  fun K => decide (PySem.W.kitOne K (.ref (ga K "BadText")) (.ref (ga K "BadText")) = some true),
  fun K => decide (PySem.W.exmOne K (.ref (ga K "BadText")) (.ref (ga K "BadRatio")) = some false),
  fun K => decide (PySem.W.kitOne K (.ref (ga K "BadText")) (.ref (ga K "BadRatio")) = some false),
  fun K => decide (PySem.W.exmOne K (.ref (ga K "BadText")) (.ref (ga K "BadPlan")) = some false),
  fun K => decide (PySem.W.kitOne K (.ref (ga K "BadText")) (.ref (ga K "BadPlan")) = some false),
  fun K => decide (PySem.W.exmOne K (.ref (ga K "BadText")) (.ref (ga K "BadPaper")) = some false),
  fun K => decide (PySem.W.kitOne K (.ref (ga K "BadText")) (.ref (ga K "BadPaper")) = some false),
  fun K => decide (PySem.W.exmOne K (.ref (ga K "BadText")) (.ref (ga K "NoShare")) = some false),
  fun K => decide (PySem.W.kitOne K (.ref (ga K "BadText")) (.ref (ga K "NoShare")) = some false),
  fun K => decide (PySem.W.exmOne K (.ref (ga K "BadText")) (.ref (ga K "NoPlan")) = some false),
  fun K => decide (PySem.W.kitOne K (.ref (ga K "BadText")) (.ref (ga K "NoPlan")) = some false),
  fun K => decide (PySem.W.exmOne K (.ref (ga K "BadText")) (.ref (ga K "TooLarge")) = some false),
  fun K => decide (PySem.W.kitOne K (.ref (ga K "BadText")) (.ref (ga K "TooLarge")) = some false),
  fun K => decide (PySem.W.kitOne K (.ref (ga K "BadText")) (.type "ValueError") = some true),
  fun K => excB K (ga K "BadRatio"),
  fun K => decide (PySem.W.exmOne K (.ref (ga K "BadRatio")) (.ref (ga K "LossError")) = some true),
  fun K => decide (PySem.W.kitOne K (.ref (ga K "BadRatio")) (.ref (ga K "LossError")) = some true),
  fun K => decide (PySem.W.exmOne K (.ref (ga K "BadRatio")) (.ref (ga K "BadText")) = some false),
  fun K => decide (PySem.W.kitOne K (.ref (ga K "BadRatio")) (.ref (ga K "BadText")) = some false),
  fun K => decide (PySem.W.exmOne K (.ref (ga K "BadRatio")) (.ref (ga K "BadRatio")) = some true),
  fun K => decide (PySem.W.kitOne K (.ref (ga K "BadRatio")) (.ref (ga K "BadRatio")) = some true),
  fun K => decide (PySem.W.exmOne K (.ref (ga K "BadRatio")) (.ref (ga K "BadPlan")) = some false),
  fun K => decide (PySem.W.kitOne K (.ref (ga K "BadRatio")) (.ref (ga K "BadPlan")) = some false),
  fun K => decide (PySem.W.exmOne K (.ref (ga K "BadRatio")) (.ref (ga K "BadPaper")) = some false),
  fun K => decide (PySem.W.kitOne K (.ref (ga K "BadRatio")) (.ref (ga K "BadPaper")) = some false),
  fun K => decide (PySem.W.exmOne K (.ref (ga K "BadRatio")) (.ref (ga K "NoShare")) = some false),
  fun K => decide (PySem.W.kitOne K (.ref (ga K "BadRatio")) (.ref (ga K "NoShare")) = some false),
  fun K => decide (PySem.W.exmOne K (.ref (ga K "BadRatio")) (.ref (ga K "NoPlan")) = some false),
  fun K => decide (PySem.W.kitOne K (.ref (ga K "BadRatio")) (.ref (ga K "NoPlan")) = some false),
  fun K => decide (PySem.W.exmOne K (.ref (ga K "BadRatio")) (.ref (ga K "TooLarge")) = some false),
  fun K => decide (PySem.W.kitOne K (.ref (ga K "BadRatio")) (.ref (ga K "TooLarge")) = some false),
  fun K => decide (PySem.W.kitOne K (.ref (ga K "BadRatio")) (.type "ValueError") = some true),
  fun K => excB K (ga K "BadPlan"),
  fun K => decide (PySem.W.exmOne K (.ref (ga K "BadPlan")) (.ref (ga K "LossError")) = some true),
  fun K => decide (PySem.W.kitOne K (.ref (ga K "BadPlan")) (.ref (ga K "LossError")) = some true),
  fun K => decide (PySem.W.exmOne K (.ref (ga K "BadPlan")) (.ref (ga K "BadText")) = some false),
  fun K => decide (PySem.W.kitOne K (.ref (ga K "BadPlan")) (.ref (ga K "BadText")) = some false),
  fun K => decide (PySem.W.exmOne K (.ref (ga K "BadPlan")) (.ref (ga K "BadRatio")) = some false),
  fun K => decide (PySem.W.kitOne K (.ref (ga K "BadPlan")) (.ref (ga K "BadRatio")) = some false),
  fun K => decide (PySem.W.exmOne K (.ref (ga K "BadPlan")) (.ref (ga K "BadPlan")) = some true),
  fun K => decide (PySem.W.kitOne K (.ref (ga K "BadPlan")) (.ref (ga K "BadPlan")) = some true),
  fun K => decide (PySem.W.exmOne K (.ref (ga K "BadPlan")) (.ref (ga K "BadPaper")) = some false),
  fun K => decide (PySem.W.kitOne K (.ref (ga K "BadPlan")) (.ref (ga K "BadPaper")) = some false),
  fun K => decide (PySem.W.exmOne K (.ref (ga K "BadPlan")) (.ref (ga K "NoShare")) = some false),
  fun K => decide (PySem.W.kitOne K (.ref (ga K "BadPlan")) (.ref (ga K "NoShare")) = some false),
  fun K => decide (PySem.W.exmOne K (.ref (ga K "BadPlan")) (.ref (ga K "NoPlan")) = some false),
  fun K => decide (PySem.W.kitOne K (.ref (ga K "BadPlan")) (.ref (ga K "NoPlan")) = some false),
  fun K => decide (PySem.W.exmOne K (.ref (ga K "BadPlan")) (.ref (ga K "TooLarge")) = some false),
  fun K => decide (PySem.W.kitOne K (.ref (ga K "BadPlan")) (.ref (ga K "TooLarge")) = some false),
  fun K => decide (PySem.W.kitOne K (.ref (ga K "BadPlan")) (.type "ValueError") = some true),
  fun K => excB K (ga K "BadPaper"),
  fun K => decide (PySem.W.exmOne K (.ref (ga K "BadPaper")) (.ref (ga K "LossError")) = some true),
  fun K => decide (PySem.W.kitOne K (.ref (ga K "BadPaper")) (.ref (ga K "LossError")) = some true),
  fun K => decide (PySem.W.exmOne K (.ref (ga K "BadPaper")) (.ref (ga K "BadText")) = some false),
  fun K => decide (PySem.W.kitOne K (.ref (ga K "BadPaper")) (.ref (ga K "BadText")) = some false),
  fun K => decide (PySem.W.exmOne K (.ref (ga K "BadPaper")) (.ref (ga K "BadRatio")) = some false),
  fun K => decide (PySem.W.kitOne K (.ref (ga K "BadPaper")) (.ref (ga K "BadRatio")) = some false),
  fun K => decide (PySem.W.exmOne K (.ref (ga K "BadPaper")) (.ref (ga K "BadPlan")) = some false),
  fun K => decide (PySem.W.kitOne K (.ref (ga K "BadPaper")) (.ref (ga K "BadPlan")) = some false),
  fun K => decide (PySem.W.exmOne K (.ref (ga K "BadPaper")) (.ref (ga K "BadPaper")) = some true),
  fun K => decide (PySem.W.kitOne K (.ref (ga K "BadPaper")) (.ref (ga K "BadPaper")) = some true),
  fun K => decide (PySem.W.exmOne K (.ref (ga K "BadPaper")) (.ref (ga K "NoShare")) = some false),
  fun K => decide (PySem.W.kitOne K (.ref (ga K "BadPaper")) (.ref (ga K "NoShare")) = some false),
  fun K => decide (PySem.W.exmOne K (.ref (ga K "BadPaper")) (.ref (ga K "NoPlan")) = some false),
  fun K => decide (PySem.W.kitOne K (.ref (ga K "BadPaper")) (.ref (ga K "NoPlan")) = some false),
  fun K => decide (PySem.W.exmOne K (.ref (ga K "BadPaper")) (.ref (ga K "TooLarge")) = some false),
  fun K => decide (PySem.W.kitOne K (.ref (ga K "BadPaper")) (.ref (ga K "TooLarge")) = some false),
  fun K => decide (PySem.W.kitOne K (.ref (ga K "BadPaper")) (.type "ValueError") = some true),
  fun K => excB K (ga K "NoShare"),
  fun K => decide (PySem.W.exmOne K (.ref (ga K "NoShare")) (.ref (ga K "LossError")) = some true),
  fun K => decide (PySem.W.kitOne K (.ref (ga K "NoShare")) (.ref (ga K "LossError")) = some true),
  fun K => decide (PySem.W.exmOne K (.ref (ga K "NoShare")) (.ref (ga K "BadText")) = some false),
  fun K => decide (PySem.W.kitOne K (.ref (ga K "NoShare")) (.ref (ga K "BadText")) = some false),
  fun K => decide (PySem.W.exmOne K (.ref (ga K "NoShare")) (.ref (ga K "BadRatio")) = some false),
  fun K => decide (PySem.W.kitOne K (.ref (ga K "NoShare")) (.ref (ga K "BadRatio")) = some false),
  fun K => decide (PySem.W.exmOne K (.ref (ga K "NoShare")) (.ref (ga K "BadPlan")) = some false),
  fun K => decide (PySem.W.kitOne K (.ref (ga K "NoShare")) (.ref (ga K "BadPlan")) = some false),
  fun K => decide (PySem.W.exmOne K (.ref (ga K "NoShare")) (.ref (ga K "BadPaper")) = some false),
  fun K => decide (PySem.W.kitOne K (.ref (ga K "NoShare")) (.ref (ga K "BadPaper")) = some false),
  fun K => decide (PySem.W.exmOne K (.ref (ga K "NoShare")) (.ref (ga K "NoShare")) = some true),
  fun K => decide (PySem.W.kitOne K (.ref (ga K "NoShare")) (.ref (ga K "NoShare")) = some true),
  fun K => decide (PySem.W.exmOne K (.ref (ga K "NoShare")) (.ref (ga K "NoPlan")) = some false),
  fun K => decide (PySem.W.kitOne K (.ref (ga K "NoShare")) (.ref (ga K "NoPlan")) = some false),
  fun K => decide (PySem.W.exmOne K (.ref (ga K "NoShare")) (.ref (ga K "TooLarge")) = some false),
  fun K => decide (PySem.W.kitOne K (.ref (ga K "NoShare")) (.ref (ga K "TooLarge")) = some false),
  fun K => decide (PySem.W.kitOne K (.ref (ga K "NoShare")) (.type "ValueError") = some true),
  fun K => excB K (ga K "NoPlan"),
  fun K => decide (PySem.W.exmOne K (.ref (ga K "NoPlan")) (.ref (ga K "LossError")) = some true),
  fun K => decide (PySem.W.kitOne K (.ref (ga K "NoPlan")) (.ref (ga K "LossError")) = some true),
  fun K => decide (PySem.W.exmOne K (.ref (ga K "NoPlan")) (.ref (ga K "BadText")) = some false),
  fun K => decide (PySem.W.kitOne K (.ref (ga K "NoPlan")) (.ref (ga K "BadText")) = some false),
  fun K => decide (PySem.W.exmOne K (.ref (ga K "NoPlan")) (.ref (ga K "BadRatio")) = some false),
  fun K => decide (PySem.W.kitOne K (.ref (ga K "NoPlan")) (.ref (ga K "BadRatio")) = some false),
  fun K => decide (PySem.W.exmOne K (.ref (ga K "NoPlan")) (.ref (ga K "BadPlan")) = some false),
  fun K => decide (PySem.W.kitOne K (.ref (ga K "NoPlan")) (.ref (ga K "BadPlan")) = some false),
  fun K => decide (PySem.W.exmOne K (.ref (ga K "NoPlan")) (.ref (ga K "BadPaper")) = some false),
  fun K => decide (PySem.W.kitOne K (.ref (ga K "NoPlan")) (.ref (ga K "BadPaper")) = some false),
  fun K => decide (PySem.W.exmOne K (.ref (ga K "NoPlan")) (.ref (ga K "NoShare")) = some false),
  fun K => decide (PySem.W.kitOne K (.ref (ga K "NoPlan")) (.ref (ga K "NoShare")) = some false),
  fun K => decide (PySem.W.exmOne K (.ref (ga K "NoPlan")) (.ref (ga K "NoPlan")) = some true),
  fun K => decide (PySem.W.kitOne K (.ref (ga K "NoPlan")) (.ref (ga K "NoPlan")) = some true),
  fun K => decide (PySem.W.exmOne K (.ref (ga K "NoPlan")) (.ref (ga K "TooLarge")) = some false),
  fun K => decide (PySem.W.kitOne K (.ref (ga K "NoPlan")) (.ref (ga K "TooLarge")) = some false),
  fun K => decide (PySem.W.kitOne K (.ref (ga K "NoPlan")) (.type "ValueError") = some true),
  fun K => excB K (ga K "TooLarge"),
  fun K => decide (PySem.W.exmOne K (.ref (ga K "TooLarge")) (.ref (ga K "LossError")) = some true),
  fun K => decide (PySem.W.kitOne K (.ref (ga K "TooLarge")) (.ref (ga K "LossError")) = some true),
  fun K => decide (PySem.W.exmOne K (.ref (ga K "TooLarge")) (.ref (ga K "BadText")) = some false),
  fun K => decide (PySem.W.kitOne K (.ref (ga K "TooLarge")) (.ref (ga K "BadText")) = some false),
  fun K => decide (PySem.W.exmOne K (.ref (ga K "TooLarge")) (.ref (ga K "BadRatio")) = some false),
  fun K => decide (PySem.W.kitOne K (.ref (ga K "TooLarge")) (.ref (ga K "BadRatio")) = some false),
  fun K => decide (PySem.W.exmOne K (.ref (ga K "TooLarge")) (.ref (ga K "BadPlan")) = some false),
  fun K => decide (PySem.W.kitOne K (.ref (ga K "TooLarge")) (.ref (ga K "BadPlan")) = some false),
  fun K => decide (PySem.W.exmOne K (.ref (ga K "TooLarge")) (.ref (ga K "BadPaper")) = some false),
  fun K => decide (PySem.W.kitOne K (.ref (ga K "TooLarge")) (.ref (ga K "BadPaper")) = some false),
  fun K => decide (PySem.W.exmOne K (.ref (ga K "TooLarge")) (.ref (ga K "NoShare")) = some false),
  fun K => decide (PySem.W.kitOne K (.ref (ga K "TooLarge")) (.ref (ga K "NoShare")) = some false),
  fun K => decide (PySem.W.exmOne K (.ref (ga K "TooLarge")) (.ref (ga K "NoPlan")) = some false),
  fun K => decide (PySem.W.kitOne K (.ref (ga K "TooLarge")) (.ref (ga K "NoPlan")) = some false),
  fun K => decide (PySem.W.exmOne K (.ref (ga K "TooLarge")) (.ref (ga K "TooLarge")) = some true),
  fun K => decide (PySem.W.kitOne K (.ref (ga K "TooLarge")) (.ref (ga K "TooLarge")) = some true),
  fun K => decide (PySem.W.kitOne K (.ref (ga K "TooLarge")) (.type "ValueError") = some true),
  fun K => SupX.supB R.prog.main.file K (ga K "BadText") "at",
  fun K => L2.xfB K (ga K "BadText"),
  fun K => eqO (PySem.W.findIn K (.ref (ga K "BadText")) "at") (some none),
  fun K => SupX.supB R.prog.main.file K (ga K "BadPlan") "at",
  fun K => L2.xfB K (ga K "BadPlan"),
  fun K => eqO (PySem.W.findIn K (.ref (ga K "BadPlan")) "at") (some none),
  fun K => SupX.supB R.prog.main.file K (ga K "BadPaper") "at",
  fun K => L2.xfB K (ga K "BadPaper"),
  fun K => eqO (PySem.W.findIn K (.ref (ga K "BadPaper")) "at") (some none),
  fun K => SupX.supB R.prog.main.file K (ga K "NoShare") "what",
  fun K => L2.xfB K (ga K "NoShare"),
  fun K => eqO (PySem.W.findIn K (.ref (ga K "NoShare")) "what") (some none),
  fun K => SupX.supB R.prog.main.file K (ga K "NoPlan") "least",
  fun K => L2.xfB K (ga K "NoPlan"),
  fun K => eqO (PySem.W.findIn K (.ref (ga K "NoPlan")) "least") (some none),
  fun K => SupX.supB R.prog.main.file K (ga K "TooLarge") "what",
  fun K => L2.xfB K (ga K "TooLarge"),
  fun K => eqO (PySem.W.findIn K (.ref (ga K "TooLarge")) "what") (some none)]
def exB (K : PySem.W.Frag) : Bool := exs.all fun f => f K
theorem exB_at {K : PySem.W.Frag} (h : exB K = true) (i : Nat) {f : PySem.W.Frag → Bool} (e : exs[i]? = some f) : f K = true := List.all_eq_true.mp h f (List.mem_of_getElem? e)
abbrev s_BadText_init : Stmt := inClass (top 2) 0
abbrev s_BadPlan_init : Stmt := inClass (top 4) 0
abbrev s_BadPaper_init : Stmt := inClass (top 5) 0
abbrev s_NoShare_init : Stmt := inClass (top 6) 0
abbrev s_NoPlan_init : Stmt := inClass (top 7) 0
abbrev s_TooLarge_init : Stmt := inClass (top 8) 0
def zs : List Str := ["BadText", "BadPlan", "BadPaper", "NoShare", "NoPlan", "TooLarge"]
def zv : List SupX.FnZ := [some ("__init__", "BadText.__init__", defArgs s_BadText_init, .stmts (defBody s_BadText_init), defScope s_BadText_init, mainGlobals, ["__class__"], builtinsNs), some ("__init__", "BadPlan.__init__", defArgs s_BadPlan_init, .stmts (defBody s_BadPlan_init), defScope s_BadPlan_init, mainGlobals, ["__class__"], builtinsNs), some ("__init__", "BadPaper.__init__", defArgs s_BadPaper_init, .stmts (defBody s_BadPaper_init), defScope s_BadPaper_init, mainGlobals, ["__class__"], builtinsNs), some ("__init__", "NoShare.__init__", defArgs s_NoShare_init, .stmts (defBody s_NoShare_init), defScope s_NoShare_init, mainGlobals, ["__class__"], builtinsNs), some ("__init__", "NoPlan.__init__", defArgs s_NoPlan_init, .stmts (defBody s_NoPlan_init), defScope s_NoPlan_init, mainGlobals, ["__class__"], builtinsNs), some ("__init__", "TooLarge.__init__", defArgs s_TooLarge_init, .stmts (defBody s_TooLarge_init), defScope s_TooLarge_init, mainGlobals, ["__class__"], builtinsNs)]
def tabs : List He.Tab := []
/-- what the walk asks of the top -/
structure Txt (K : PySem.W.Frag) (mg : Str → Option Value) : Prop where
  d_is_name : ∃ fd, FunD K "is_name" "is_name" (defArgs s_is_name) (defBody s_is_name) (defScope s_is_name) (List.map (He.Dv.v K) []) [] (ga K "is_name") fd
  d_number_of : ∃ fd, FunD K "number_of" "number_of" (defArgs s_number_of) (defBody s_number_of) (defScope s_number_of) (List.map (He.Dv.v K) []) [] (ga K "number_of") fd
  d_Game_init : ∃ fd, FunD K "__init__" "Game.__init__" (defArgs s_Game_init) (defBody s_Game_init) (defScope s_Game_init) (List.map (He.Dv.v K) []) [] (ma K (ga K "Game") "__init__") fd
  d_Game_eq : ∃ fd, FunD K "__eq__" "Game.__eq__" (defArgs s_Game_eq) (defBody s_Game_eq) (defScope s_Game_eq) (List.map (He.Dv.v K) []) [] (ma K (ga K "Game") "__eq__") fd
  d_Reader_init : ∃ fd, FunD K "__init__" "Reader.__init__" (defArgs s_Reader_init) (defBody s_Reader_init) (defScope s_Reader_init) (List.map (He.Dv.v K) []) [] (ma K (ga K "Reader") "__init__") fd
  d_Reader_word : ∃ fd, FunD K "word" "Reader.word" (defArgs s_Reader_word) (defBody s_Reader_word) (defScope s_Reader_word) (List.map (He.Dv.v K) []) [] (ma K (ga K "Reader") "word") fd
  d_Reader_take : ∃ fd, FunD K "take" "Reader.take" (defArgs s_Reader_take) (defBody s_Reader_take) (defScope s_Reader_take) (List.map (He.Dv.v K) []) [] (ma K (ga K "Reader") "take") fd
  d_Reader_take_number : ∃ fd, FunD K "take_number" "Reader.take_number" (defArgs s_Reader_take_number) (defBody s_Reader_take_number) (defScope s_Reader_take_number) (List.map (He.Dv.v K) []) [] (ma K (ga K "Reader") "take_number") fd
  d_Reader_game : ∃ fd, FunD K "game" "Reader.game" (defArgs s_Reader_game) (defBody s_Reader_game) (defScope s_Reader_game) (List.map (He.Dv.v K) []) [] (ma K (ga K "Reader") "game") fd
  d_Reader_block : ∃ fd, FunD K "block" "Reader.block" (defArgs s_Reader_block) (defBody s_Reader_block) (defScope s_Reader_block) (List.map (He.Dv.v K) []) [] (ma K (ga K "Reader") "block") fd
  d_Reader_statement : ∃ fd, FunD K "statement" "Reader.statement" (defArgs s_Reader_statement) (defBody s_Reader_statement) (defScope s_Reader_statement) (List.map (He.Dv.v K) []) [] (ma K (ga K "Reader") "statement") fd
  d_Reader_branching : ∃ fd, FunD K "branching" "Reader.branching" (defArgs s_Reader_branching) (defBody s_Reader_branching) (defScope s_Reader_branching) (List.map (He.Dv.v K) []) [] (ma K (ga K "Reader") "branching") fd
  d_Reader_choice : ∃ fd, FunD K "choice" "Reader.choice" (defArgs s_Reader_choice) (defBody s_Reader_choice) (defScope s_Reader_choice) (List.map (He.Dv.v K) []) [] (ma K (ga K "Reader") "choice") fd
  d_Reader_expression : ∃ fd, FunD K "expression" "Reader.expression" (defArgs s_Reader_expression) (defBody s_Reader_expression) (defScope s_Reader_expression) (List.map (He.Dv.v K) []) [] (ma K (ga K "Reader") "expression") fd
  d_read_game : ∃ fd, FunD K "read_game" "read_game" (defArgs s_read_game) (defBody s_read_game) (defScope s_read_game) (List.map (He.Dv.v K) []) [] (ga K "read_game") fd
  d_expression_words : ∃ fd, FunD K "expression_words" "expression_words" (defArgs s_expression_words) (defBody s_expression_words) (defScope s_expression_words) (List.map (He.Dv.v K) []) [] (ga K "expression_words") fd
  d_block_words : ∃ fd, FunD K "block_words" "block_words" (defArgs s_block_words) (defBody s_block_words) (defScope s_block_words) (List.map (He.Dv.v K) []) [] (ga K "block_words") fd
  d_game_text : ∃ fd, FunD K "game_text" "game_text" (defArgs s_game_text) (defBody s_game_text) (defScope s_game_text) (List.map (He.Dv.v K) []) [] (ga K "game_text") fd
  d_l_pool : ∃ fd, FunD K "_law_pool" "_law_pool" (defArgs s_l_pool) (defBody s_l_pool) (defScope s_l_pool) (List.map (He.Dv.v K) []) [] (ga K "_law_pool") fd
  d_l_draw : ∃ fd, FunD K "_law_draw" "_law_draw" (defArgs s_l_draw) (defBody s_l_draw) (defScope s_l_draw) (List.map (He.Dv.v K) []) [] (ga K "_law_draw") fd
  d_l_spend : ∃ fd, FunD K "_law_spend" "_law_spend" (defArgs s_l_spend) (defBody s_l_spend) (defScope s_l_spend) (List.map (He.Dv.v K) []) [] (ga K "_law_spend") fd
  d_l_number : ∃ fd, FunD K "_law_number" "_law_number" (defArgs s_l_number) (defBody s_l_number) (defScope s_l_number) (List.map (He.Dv.v K) []) [] (ga K "_law_number") fd
  d_l_same : ∃ fd, FunD K "_law_same" "_law_same" (defArgs s_l_same) (defBody s_l_same) (defScope s_l_same) (List.map (He.Dv.v K) []) [] (ga K "_law_same") fd
  d_l_value : ∃ fd, FunD K "_law_value" "_law_value" (defArgs s_l_value) (defBody s_l_value) (defScope s_l_value) (List.map (He.Dv.v K) []) [] (ga K "_law_value") fd
  d_l_statement : ∃ fd, FunD K "_law_statement" "_law_statement" (defArgs s_l_statement) (defBody s_l_statement) (defScope s_l_statement) (List.map (He.Dv.v K) []) [] (ga K "_law_statement") fd
  d_l_block : ∃ fd, FunD K "_law_block" "_law_block" (defArgs s_l_block) (defBody s_l_block) (defScope s_l_block) (List.map (He.Dv.v K) []) [] (ga K "_law_block") fd
  d_l_names : ∃ fd, FunD K "_law_names" "_law_names" (defArgs s_l_names) (defBody s_l_names) (defScope s_l_names) (List.map (He.Dv.v K) []) [] (ga K "_law_names") fd
  d_l_game : ∃ fd, FunD K "_law_game" "_law_game" (defArgs s_l_game) (defBody s_l_game) (defScope s_l_game) (List.map (He.Dv.v K) []) [] (ga K "_law_game") fd
  d_l_value_words : ∃ fd, FunD K "_law_value_words" "_law_value_words" (defArgs s_l_value_words) (defBody s_l_value_words) (defScope s_l_value_words) (List.map (He.Dv.v K) []) [] (ga K "_law_value_words") fd
  d_l_block_words : ∃ fd, FunD K "_law_block_words" "_law_block_words" (defArgs s_l_block_words) (defBody s_l_block_words) (defScope s_l_block_words) (List.map (He.Dv.v K) []) [] (ga K "_law_block_words") fd
  d_l_words : ∃ fd, FunD K "_law_words" "_law_words" (defArgs s_l_words) (defBody s_l_words) (defScope s_l_words) (List.map (He.Dv.v K) []) [] (ga K "_law_words") fd
  d_l_is_name : ∃ fd, FunD K "_law_is_name" "_law_is_name" (defArgs s_l_is_name) (defBody s_l_is_name) (defScope s_l_is_name) (List.map (He.Dv.v K) []) [] (ga K "_law_is_name") fd
  d_l_is_number : ∃ fd, FunD K "_law_is_number" "_law_is_number" (defArgs s_l_is_number) (defBody s_l_is_number) (defScope s_l_is_number) (List.map (He.Dv.v K) []) [] (ga K "_law_is_number") fd
  d_l_values : ∃ fd, FunD K "_law_values" "_law_values" (defArgs s_l_values) (defBody s_l_values) (defScope s_l_values) (List.map (He.Dv.v K) []) [] (ga K "_law_values") fd
  d_l_begins : ∃ fd, FunD K "_law_begins" "_law_begins" (defArgs s_l_begins) (defBody s_l_begins) (defScope s_l_begins) (List.map (He.Dv.v K) []) [] (ga K "_law_begins") fd
  d_l_blocks : ∃ fd, FunD K "_law_blocks" "_law_blocks" (defArgs s_l_blocks) (defBody s_l_blocks) (defScope s_l_blocks) (List.map (He.Dv.v K) []) [] (ga K "_law_blocks") fd
  d_l_next : ∃ fd, FunD K "_law_next" "_law_next" (defArgs s_l_next) (defBody s_l_next) (defScope s_l_next) (List.map (He.Dv.v K) []) [] (ga K "_law_next") fd
  d_l_wrong : ∃ fd, FunD K "_law_wrong" "_law_wrong" (defArgs s_l_wrong) (defBody s_l_wrong) (defScope s_l_wrong) (List.map (He.Dv.v K) []) [] (ga K "_law_wrong") fd
  d_l_menu : ∃ fd, FunD K "_law_menu" "_law_menu" (defArgs s_l_menu) (defBody s_l_menu) (defScope s_l_menu) (List.map (He.Dv.v K) []) [] (ga K "_law_menu") fd
  d_l_near : ∃ fd, FunD K "_law_near" "_law_near" (defArgs s_l_near) (defBody s_l_near) (defScope s_l_near) (List.map (He.Dv.v K) []) [] (ga K "_law_near") fd
  d_l_changed : ∃ fd, FunD K "_law_changed" "_law_changed" (defArgs s_l_changed) (defBody s_l_changed) (defScope s_l_changed) (List.map (He.Dv.v K) []) [] (ga K "_law_changed") fd
  d_l_walked : ∃ fd, FunD K "_law_walked" "_law_walked" (defArgs s_l_walked) (defBody s_l_walked) (defScope s_l_walked) (List.map (He.Dv.v K) []) [] (ga K "_law_walked") fd
  d_l_moves : ∃ fd, FunD K "_law_moves" "_law_moves" (defArgs s_l_moves) (defBody s_l_moves) (defScope s_l_moves) (List.map (He.Dv.v K) []) [] (ga K "_law_moves") fd
  d_law : ∃ fd, FunD K "law" "law" (defArgs s_law) (defBody s_law) (defScope s_law) (List.map (He.Dv.v K) []) [] (ga K "law") fd
  g_is_name : mg "is_name" = some (.ref (ga K "is_name"))
  g_number_of : mg "number_of" = some (.ref (ga K "number_of"))
  g_read_game : mg "read_game" = some (.ref (ga K "read_game"))
  g_expression_words : mg "expression_words" = some (.ref (ga K "expression_words"))
  g_block_words : mg "block_words" = some (.ref (ga K "block_words"))
  g_game_text : mg "game_text" = some (.ref (ga K "game_text"))
  g_l_pool : mg "_law_pool" = some (.ref (ga K "_law_pool"))
  g_l_draw : mg "_law_draw" = some (.ref (ga K "_law_draw"))
  g_l_spend : mg "_law_spend" = some (.ref (ga K "_law_spend"))
  g_l_number : mg "_law_number" = some (.ref (ga K "_law_number"))
  g_l_same : mg "_law_same" = some (.ref (ga K "_law_same"))
  g_l_value : mg "_law_value" = some (.ref (ga K "_law_value"))
  g_l_statement : mg "_law_statement" = some (.ref (ga K "_law_statement"))
  g_l_block : mg "_law_block" = some (.ref (ga K "_law_block"))
  g_l_names : mg "_law_names" = some (.ref (ga K "_law_names"))
  g_l_game : mg "_law_game" = some (.ref (ga K "_law_game"))
  g_l_value_words : mg "_law_value_words" = some (.ref (ga K "_law_value_words"))
  g_l_block_words : mg "_law_block_words" = some (.ref (ga K "_law_block_words"))
  g_l_words : mg "_law_words" = some (.ref (ga K "_law_words"))
  g_l_is_name : mg "_law_is_name" = some (.ref (ga K "_law_is_name"))
  g_l_is_number : mg "_law_is_number" = some (.ref (ga K "_law_is_number"))
  g_l_values : mg "_law_values" = some (.ref (ga K "_law_values"))
  g_l_begins : mg "_law_begins" = some (.ref (ga K "_law_begins"))
  g_l_blocks : mg "_law_blocks" = some (.ref (ga K "_law_blocks"))
  g_l_next : mg "_law_next" = some (.ref (ga K "_law_next"))
  g_l_wrong : mg "_law_wrong" = some (.ref (ga K "_law_wrong"))
  g_l_menu : mg "_law_menu" = some (.ref (ga K "_law_menu"))
  g_l_near : mg "_law_near" = some (.ref (ga K "_law_near"))
  g_l_changed : mg "_law_changed" = some (.ref (ga K "_law_changed"))
  g_l_walked : mg "_law_walked" = some (.ref (ga K "_law_walked"))
  g_l_moves : mg "_law_moves" = some (.ref (ga K "_law_moves"))
  g_law : mg "law" = some (.ref (ga K "law"))
  g_LossError : mg "LossError" = some (.ref (ga K "LossError"))
  x_LossError : PySem.W.excIn K (ga K "LossError") He.veBase "ValueError.__new__" = true ∧ PySem.W.keepIn K (.ref (ga K "LossError")) = true ∧ PySem.W.subIn K (.ref (ga K "LossError")) (.type "BaseException") = some true ∧ PySem.W.typeIn K (.ref (ga K "LossError")) = some (.type "type")
  g_BadText : mg "BadText" = some (.ref (ga K "BadText"))
  g_BadRatio : mg "BadRatio" = some (.ref (ga K "BadRatio"))
  x_BadRatio : PySem.W.excIn K (ga K "BadRatio") He.veBase "ValueError.__new__" = true ∧ PySem.W.keepIn K (.ref (ga K "BadRatio")) = true ∧ PySem.W.subIn K (.ref (ga K "BadRatio")) (.type "BaseException") = some true ∧ PySem.W.typeIn K (.ref (ga K "BadRatio")) = some (.type "type")
  g_BadPlan : mg "BadPlan" = some (.ref (ga K "BadPlan"))
  g_BadPaper : mg "BadPaper" = some (.ref (ga K "BadPaper"))
  g_NoShare : mg "NoShare" = some (.ref (ga K "NoShare"))
  g_NoPlan : mg "NoPlan" = some (.ref (ga K "NoPlan"))
  g_TooLarge : mg "TooLarge" = some (.ref (ga K "TooLarge"))
  g_Game : mg "Game" = some (.ref (ga K "Game"))
  c_Game : Cls K (ga K "Game")
  m_Game : Mk K (ga K "Game") (ma K (ga K "Game") "__init__")
  a_Game_variables : NoAttr K (ga K "Game") "variables"
  a_Game_block : NoAttr K (ga K "Game") "block"
  t_Game_eq : Meth K (ga K "Game") "__eq__" (ma K (ga K "Game") "__eq__")
  g_Reader : mg "Reader" = some (.ref (ga K "Reader"))
  c_Reader : Cls K (ga K "Reader")
  m_Reader : Mk K (ga K "Reader") (ma K (ga K "Reader") "__init__")
  a_Reader_words : NoAttr K (ga K "Reader") "words"
  a_Reader_at : NoAttr K (ga K "Reader") "at"
  a_Reader_names : NoAttr K (ga K "Reader") "names"
  a_Reader_branches : NoAttr K (ga K "Reader") "branches"
  a_Reader_moves : NoAttr K (ga K "Reader") "moves"
  t_Reader_word : Meth K (ga K "Reader") "word" (ma K (ga K "Reader") "word")
  t_Reader_take : Meth K (ga K "Reader") "take" (ma K (ga K "Reader") "take")
  t_Reader_take_number : Meth K (ga K "Reader") "take_number" (ma K (ga K "Reader") "take_number")
  t_Reader_game : Meth K (ga K "Reader") "game" (ma K (ga K "Reader") "game")
  t_Reader_block : Meth K (ga K "Reader") "block" (ma K (ga K "Reader") "block")
  t_Reader_statement : Meth K (ga K "Reader") "statement" (ma K (ga K "Reader") "statement")
  t_Reader_branching : Meth K (ga K "Reader") "branching" (ma K (ga K "Reader") "branching")
  t_Reader_choice : Meth K (ga K "Reader") "choice" (ma K (ga K "Reader") "choice")
  t_Reader_expression : Meth K (ga K "Reader") "expression" (ma K (ga K "Reader") "expression")
  f_ValueError : mg "ValueError" = none
  f_int : mg "int" = none
  f_isinstance : mg "isinstance" = none
  f_range : mg "range" = none
  f_tuple : mg "tuple" = none
  f_len : mg "len" = none
  f_all : mg "all" = none
  f_list : mg "list" = none
  f_bool : mg "bool" = none
  f_str : mg "str" = none
  f_super : mg "super" = none
  g_KEYS : mg "KEYS" = some (.ref (ga K "KEYS"))
  g_SIGNS : mg "SIGNS" = some (.ref (ga K "SIGNS"))
  g_SEATS : mg "SEATS" = some (.ref (ga K "SEATS"))
  i_LETTERS : ∃ t, mg "LETTERS" = some (.str "abcdefghijklmnopqrstuvwxyz" t)
  i_GREATEST : ∃ t, mg "GREATEST" = some (.int 65535 t)
  i_MOST_NAMES : ∃ t, mg "MOST_NAMES" = some (.int 5 t)
  i_MOST_PARTS : ∃ t, mg "MOST_PARTS" = some (.int 8 t)
  i_MOST_BRANCHES : ∃ t, mg "MOST_BRANCHES" = some (.int 10 t)
  i_DEEPEST : ∃ t, mg "DEEPEST" = some (.int 6 t)
  i_DEEPEST_IF : ∃ t, mg "DEEPEST_IF" = some (.int 4 t)
  oc_Game : PySem.W.findIn K (.ref (ga K "Game")) "__class__" = some (some (.builtin "object.__class__"))
  nf_Game : PySem.W.notFirst K (ga K "Game") (.ref (ga K "Game")) = true
  ne_Game : PySem.W.findIn K (.ref (ga K "Game")) "__ne__" = some (some (.builtin "object.__ne__"))
  om_Game : PySem.W.mroIn K (ga K "Game") (.type "object") = some true
  ki_Game_tuple : PySem.W.kitOne K (.ref (ga K "Game")) (.type "tuple") = some false
  ki_Game_list : PySem.W.kitOne K (.ref (ga K "Game")) (.type "list") = some false
  ki_Game_bool : PySem.W.kitOne K (.ref (ga K "Game")) (.type "bool") = some false
  ki_Game_int : PySem.W.kitOne K (.ref (ga K "Game")) (.type "int") = some false
  ki_Game_str : PySem.W.kitOne K (.ref (ga K "Game")) (.type "str") = some false
  ki_Game_Game : PySem.W.kitOne K (.ref (ga K "Game")) (.ref (ga K "Game")) = some true
  ki_Game_Reader : PySem.W.kitOne K (.ref (ga K "Game")) (.ref (ga K "Reader")) = some false
  oc_Reader : PySem.W.findIn K (.ref (ga K "Reader")) "__class__" = some (some (.builtin "object.__class__"))
  om_Reader : PySem.W.mroIn K (ga K "Reader") (.type "object") = some true
  ki_Reader_tuple : PySem.W.kitOne K (.ref (ga K "Reader")) (.type "tuple") = some false
  ki_Reader_list : PySem.W.kitOne K (.ref (ga K "Reader")) (.type "list") = some false
  ki_Reader_bool : PySem.W.kitOne K (.ref (ga K "Reader")) (.type "bool") = some false
  ki_Reader_int : PySem.W.kitOne K (.ref (ga K "Reader")) (.type "int") = some false
  ki_Reader_str : PySem.W.kitOne K (.ref (ga K "Reader")) (.type "str") = some false
  ki_Reader_Game : PySem.W.kitOne K (.ref (ga K "Reader")) (.ref (ga K "Game")) = some false
  ki_Reader_Reader : PySem.W.kitOne K (.ref (ga K "Reader")) (.ref (ga K "Reader")) = some true
  og : PySem.W.specialIn K (.builtin "object.__class__") "__get__" = some (some (.builtin "getset_descriptor.__get__"))
  ot : PySem.W.takesIn K (.builtin "object.__class__") = some true
  p_KEYS : He.tupB K "KEYS" [.str "var", .str "set", .str "draw", .str "choose", .str "come", .str "show", .str "chooser", .str "comer", .str "pay", .str "take", .str "if", .str "else", .str "end", .str "mod"] = true
  p_SIGNS : He.tupB K "SIGNS" [.str "+", .str "-", .str "*", .str "/", .str "mod", .str "<", .str "="] = true
  p_SEATS : He.tupB K "SEATS" [.str "chooser", .str "comer"] = true
  xc_LossError : ExcC K (ga K "LossError")
  em_LossError_LossError : PySem.W.exmOne K (.ref (ga K "LossError")) (.ref (ga K "LossError")) = some true
  ki_LossError_LossError : PySem.W.kitOne K (.ref (ga K "LossError")) (.ref (ga K "LossError")) = some true
  em_LossError_BadText : PySem.W.exmOne K (.ref (ga K "LossError")) (.ref (ga K "BadText")) = some false
  ki_LossError_BadText : PySem.W.kitOne K (.ref (ga K "LossError")) (.ref (ga K "BadText")) = some false
  em_LossError_BadRatio : PySem.W.exmOne K (.ref (ga K "LossError")) (.ref (ga K "BadRatio")) = some false
  ki_LossError_BadRatio : PySem.W.kitOne K (.ref (ga K "LossError")) (.ref (ga K "BadRatio")) = some false
  em_LossError_BadPlan : PySem.W.exmOne K (.ref (ga K "LossError")) (.ref (ga K "BadPlan")) = some false
  ki_LossError_BadPlan : PySem.W.kitOne K (.ref (ga K "LossError")) (.ref (ga K "BadPlan")) = some false
  em_LossError_BadPaper : PySem.W.exmOne K (.ref (ga K "LossError")) (.ref (ga K "BadPaper")) = some false
  ki_LossError_BadPaper : PySem.W.kitOne K (.ref (ga K "LossError")) (.ref (ga K "BadPaper")) = some false
  em_LossError_NoShare : PySem.W.exmOne K (.ref (ga K "LossError")) (.ref (ga K "NoShare")) = some false
  ki_LossError_NoShare : PySem.W.kitOne K (.ref (ga K "LossError")) (.ref (ga K "NoShare")) = some false
  em_LossError_NoPlan : PySem.W.exmOne K (.ref (ga K "LossError")) (.ref (ga K "NoPlan")) = some false
  ki_LossError_NoPlan : PySem.W.kitOne K (.ref (ga K "LossError")) (.ref (ga K "NoPlan")) = some false
  em_LossError_TooLarge : PySem.W.exmOne K (.ref (ga K "LossError")) (.ref (ga K "TooLarge")) = some false
  ki_LossError_TooLarge : PySem.W.kitOne K (.ref (ga K "LossError")) (.ref (ga K "TooLarge")) = some false
  kv_LossError : PySem.W.kitOne K (.ref (ga K "LossError")) (.type "ValueError") = some true
  xc_BadText : ExcC K (ga K "BadText")
  em_BadText_LossError : PySem.W.exmOne K (.ref (ga K "BadText")) (.ref (ga K "LossError")) = some true
  ki_BadText_LossError : PySem.W.kitOne K (.ref (ga K "BadText")) (.ref (ga K "LossError")) = some true
  em_BadText_BadText : PySem.W.exmOne K (.ref (ga K "BadText")) (.ref (ga K "BadText")) = some true
  ki_BadText_BadText : PySem.W.kitOne K (.ref (ga K "BadText")) (.ref (ga K "BadText")) = some true
  em_BadText_BadRatio : PySem.W.exmOne K (.ref (ga K "BadText")) (.ref (ga K "BadRatio")) = some false
  ki_BadText_BadRatio : PySem.W.kitOne K (.ref (ga K "BadText")) (.ref (ga K "BadRatio")) = some false
  em_BadText_BadPlan : PySem.W.exmOne K (.ref (ga K "BadText")) (.ref (ga K "BadPlan")) = some false
  ki_BadText_BadPlan : PySem.W.kitOne K (.ref (ga K "BadText")) (.ref (ga K "BadPlan")) = some false
  em_BadText_BadPaper : PySem.W.exmOne K (.ref (ga K "BadText")) (.ref (ga K "BadPaper")) = some false
  ki_BadText_BadPaper : PySem.W.kitOne K (.ref (ga K "BadText")) (.ref (ga K "BadPaper")) = some false
  em_BadText_NoShare : PySem.W.exmOne K (.ref (ga K "BadText")) (.ref (ga K "NoShare")) = some false
  ki_BadText_NoShare : PySem.W.kitOne K (.ref (ga K "BadText")) (.ref (ga K "NoShare")) = some false
  em_BadText_NoPlan : PySem.W.exmOne K (.ref (ga K "BadText")) (.ref (ga K "NoPlan")) = some false
  ki_BadText_NoPlan : PySem.W.kitOne K (.ref (ga K "BadText")) (.ref (ga K "NoPlan")) = some false
  em_BadText_TooLarge : PySem.W.exmOne K (.ref (ga K "BadText")) (.ref (ga K "TooLarge")) = some false
  ki_BadText_TooLarge : PySem.W.kitOne K (.ref (ga K "BadText")) (.ref (ga K "TooLarge")) = some false
  kv_BadText : PySem.W.kitOne K (.ref (ga K "BadText")) (.type "ValueError") = some true
  xc_BadRatio : ExcC K (ga K "BadRatio")
  em_BadRatio_LossError : PySem.W.exmOne K (.ref (ga K "BadRatio")) (.ref (ga K "LossError")) = some true
  ki_BadRatio_LossError : PySem.W.kitOne K (.ref (ga K "BadRatio")) (.ref (ga K "LossError")) = some true
  em_BadRatio_BadText : PySem.W.exmOne K (.ref (ga K "BadRatio")) (.ref (ga K "BadText")) = some false
  ki_BadRatio_BadText : PySem.W.kitOne K (.ref (ga K "BadRatio")) (.ref (ga K "BadText")) = some false
  em_BadRatio_BadRatio : PySem.W.exmOne K (.ref (ga K "BadRatio")) (.ref (ga K "BadRatio")) = some true
  ki_BadRatio_BadRatio : PySem.W.kitOne K (.ref (ga K "BadRatio")) (.ref (ga K "BadRatio")) = some true
  em_BadRatio_BadPlan : PySem.W.exmOne K (.ref (ga K "BadRatio")) (.ref (ga K "BadPlan")) = some false
  ki_BadRatio_BadPlan : PySem.W.kitOne K (.ref (ga K "BadRatio")) (.ref (ga K "BadPlan")) = some false
  em_BadRatio_BadPaper : PySem.W.exmOne K (.ref (ga K "BadRatio")) (.ref (ga K "BadPaper")) = some false
  ki_BadRatio_BadPaper : PySem.W.kitOne K (.ref (ga K "BadRatio")) (.ref (ga K "BadPaper")) = some false
  em_BadRatio_NoShare : PySem.W.exmOne K (.ref (ga K "BadRatio")) (.ref (ga K "NoShare")) = some false
  ki_BadRatio_NoShare : PySem.W.kitOne K (.ref (ga K "BadRatio")) (.ref (ga K "NoShare")) = some false
  em_BadRatio_NoPlan : PySem.W.exmOne K (.ref (ga K "BadRatio")) (.ref (ga K "NoPlan")) = some false
  ki_BadRatio_NoPlan : PySem.W.kitOne K (.ref (ga K "BadRatio")) (.ref (ga K "NoPlan")) = some false
  em_BadRatio_TooLarge : PySem.W.exmOne K (.ref (ga K "BadRatio")) (.ref (ga K "TooLarge")) = some false
  ki_BadRatio_TooLarge : PySem.W.kitOne K (.ref (ga K "BadRatio")) (.ref (ga K "TooLarge")) = some false
  kv_BadRatio : PySem.W.kitOne K (.ref (ga K "BadRatio")) (.type "ValueError") = some true
  xc_BadPlan : ExcC K (ga K "BadPlan")
  em_BadPlan_LossError : PySem.W.exmOne K (.ref (ga K "BadPlan")) (.ref (ga K "LossError")) = some true
  ki_BadPlan_LossError : PySem.W.kitOne K (.ref (ga K "BadPlan")) (.ref (ga K "LossError")) = some true
  em_BadPlan_BadText : PySem.W.exmOne K (.ref (ga K "BadPlan")) (.ref (ga K "BadText")) = some false
  ki_BadPlan_BadText : PySem.W.kitOne K (.ref (ga K "BadPlan")) (.ref (ga K "BadText")) = some false
  em_BadPlan_BadRatio : PySem.W.exmOne K (.ref (ga K "BadPlan")) (.ref (ga K "BadRatio")) = some false
  ki_BadPlan_BadRatio : PySem.W.kitOne K (.ref (ga K "BadPlan")) (.ref (ga K "BadRatio")) = some false
  em_BadPlan_BadPlan : PySem.W.exmOne K (.ref (ga K "BadPlan")) (.ref (ga K "BadPlan")) = some true
  ki_BadPlan_BadPlan : PySem.W.kitOne K (.ref (ga K "BadPlan")) (.ref (ga K "BadPlan")) = some true
  em_BadPlan_BadPaper : PySem.W.exmOne K (.ref (ga K "BadPlan")) (.ref (ga K "BadPaper")) = some false
  ki_BadPlan_BadPaper : PySem.W.kitOne K (.ref (ga K "BadPlan")) (.ref (ga K "BadPaper")) = some false
  em_BadPlan_NoShare : PySem.W.exmOne K (.ref (ga K "BadPlan")) (.ref (ga K "NoShare")) = some false
  ki_BadPlan_NoShare : PySem.W.kitOne K (.ref (ga K "BadPlan")) (.ref (ga K "NoShare")) = some false
  em_BadPlan_NoPlan : PySem.W.exmOne K (.ref (ga K "BadPlan")) (.ref (ga K "NoPlan")) = some false
  ki_BadPlan_NoPlan : PySem.W.kitOne K (.ref (ga K "BadPlan")) (.ref (ga K "NoPlan")) = some false
  em_BadPlan_TooLarge : PySem.W.exmOne K (.ref (ga K "BadPlan")) (.ref (ga K "TooLarge")) = some false
  ki_BadPlan_TooLarge : PySem.W.kitOne K (.ref (ga K "BadPlan")) (.ref (ga K "TooLarge")) = some false
  kv_BadPlan : PySem.W.kitOne K (.ref (ga K "BadPlan")) (.type "ValueError") = some true
  xc_BadPaper : ExcC K (ga K "BadPaper")
  em_BadPaper_LossError : PySem.W.exmOne K (.ref (ga K "BadPaper")) (.ref (ga K "LossError")) = some true
  ki_BadPaper_LossError : PySem.W.kitOne K (.ref (ga K "BadPaper")) (.ref (ga K "LossError")) = some true
  em_BadPaper_BadText : PySem.W.exmOne K (.ref (ga K "BadPaper")) (.ref (ga K "BadText")) = some false
  ki_BadPaper_BadText : PySem.W.kitOne K (.ref (ga K "BadPaper")) (.ref (ga K "BadText")) = some false
  em_BadPaper_BadRatio : PySem.W.exmOne K (.ref (ga K "BadPaper")) (.ref (ga K "BadRatio")) = some false
  ki_BadPaper_BadRatio : PySem.W.kitOne K (.ref (ga K "BadPaper")) (.ref (ga K "BadRatio")) = some false
  em_BadPaper_BadPlan : PySem.W.exmOne K (.ref (ga K "BadPaper")) (.ref (ga K "BadPlan")) = some false
  ki_BadPaper_BadPlan : PySem.W.kitOne K (.ref (ga K "BadPaper")) (.ref (ga K "BadPlan")) = some false
  em_BadPaper_BadPaper : PySem.W.exmOne K (.ref (ga K "BadPaper")) (.ref (ga K "BadPaper")) = some true
  ki_BadPaper_BadPaper : PySem.W.kitOne K (.ref (ga K "BadPaper")) (.ref (ga K "BadPaper")) = some true
  em_BadPaper_NoShare : PySem.W.exmOne K (.ref (ga K "BadPaper")) (.ref (ga K "NoShare")) = some false
  ki_BadPaper_NoShare : PySem.W.kitOne K (.ref (ga K "BadPaper")) (.ref (ga K "NoShare")) = some false
  em_BadPaper_NoPlan : PySem.W.exmOne K (.ref (ga K "BadPaper")) (.ref (ga K "NoPlan")) = some false
  ki_BadPaper_NoPlan : PySem.W.kitOne K (.ref (ga K "BadPaper")) (.ref (ga K "NoPlan")) = some false
  em_BadPaper_TooLarge : PySem.W.exmOne K (.ref (ga K "BadPaper")) (.ref (ga K "TooLarge")) = some false
  ki_BadPaper_TooLarge : PySem.W.kitOne K (.ref (ga K "BadPaper")) (.ref (ga K "TooLarge")) = some false
  kv_BadPaper : PySem.W.kitOne K (.ref (ga K "BadPaper")) (.type "ValueError") = some true
  xc_NoShare : ExcC K (ga K "NoShare")
  em_NoShare_LossError : PySem.W.exmOne K (.ref (ga K "NoShare")) (.ref (ga K "LossError")) = some true
  ki_NoShare_LossError : PySem.W.kitOne K (.ref (ga K "NoShare")) (.ref (ga K "LossError")) = some true
  em_NoShare_BadText : PySem.W.exmOne K (.ref (ga K "NoShare")) (.ref (ga K "BadText")) = some false
  ki_NoShare_BadText : PySem.W.kitOne K (.ref (ga K "NoShare")) (.ref (ga K "BadText")) = some false
  em_NoShare_BadRatio : PySem.W.exmOne K (.ref (ga K "NoShare")) (.ref (ga K "BadRatio")) = some false
  ki_NoShare_BadRatio : PySem.W.kitOne K (.ref (ga K "NoShare")) (.ref (ga K "BadRatio")) = some false
  em_NoShare_BadPlan : PySem.W.exmOne K (.ref (ga K "NoShare")) (.ref (ga K "BadPlan")) = some false
  ki_NoShare_BadPlan : PySem.W.kitOne K (.ref (ga K "NoShare")) (.ref (ga K "BadPlan")) = some false
  em_NoShare_BadPaper : PySem.W.exmOne K (.ref (ga K "NoShare")) (.ref (ga K "BadPaper")) = some false
  ki_NoShare_BadPaper : PySem.W.kitOne K (.ref (ga K "NoShare")) (.ref (ga K "BadPaper")) = some false
  em_NoShare_NoShare : PySem.W.exmOne K (.ref (ga K "NoShare")) (.ref (ga K "NoShare")) = some true
  ki_NoShare_NoShare : PySem.W.kitOne K (.ref (ga K "NoShare")) (.ref (ga K "NoShare")) = some true
  em_NoShare_NoPlan : PySem.W.exmOne K (.ref (ga K "NoShare")) (.ref (ga K "NoPlan")) = some false
  ki_NoShare_NoPlan : PySem.W.kitOne K (.ref (ga K "NoShare")) (.ref (ga K "NoPlan")) = some false
  em_NoShare_TooLarge : PySem.W.exmOne K (.ref (ga K "NoShare")) (.ref (ga K "TooLarge")) = some false
  ki_NoShare_TooLarge : PySem.W.kitOne K (.ref (ga K "NoShare")) (.ref (ga K "TooLarge")) = some false
  kv_NoShare : PySem.W.kitOne K (.ref (ga K "NoShare")) (.type "ValueError") = some true
  xc_NoPlan : ExcC K (ga K "NoPlan")
  em_NoPlan_LossError : PySem.W.exmOne K (.ref (ga K "NoPlan")) (.ref (ga K "LossError")) = some true
  ki_NoPlan_LossError : PySem.W.kitOne K (.ref (ga K "NoPlan")) (.ref (ga K "LossError")) = some true
  em_NoPlan_BadText : PySem.W.exmOne K (.ref (ga K "NoPlan")) (.ref (ga K "BadText")) = some false
  ki_NoPlan_BadText : PySem.W.kitOne K (.ref (ga K "NoPlan")) (.ref (ga K "BadText")) = some false
  em_NoPlan_BadRatio : PySem.W.exmOne K (.ref (ga K "NoPlan")) (.ref (ga K "BadRatio")) = some false
  ki_NoPlan_BadRatio : PySem.W.kitOne K (.ref (ga K "NoPlan")) (.ref (ga K "BadRatio")) = some false
  em_NoPlan_BadPlan : PySem.W.exmOne K (.ref (ga K "NoPlan")) (.ref (ga K "BadPlan")) = some false
  ki_NoPlan_BadPlan : PySem.W.kitOne K (.ref (ga K "NoPlan")) (.ref (ga K "BadPlan")) = some false
  em_NoPlan_BadPaper : PySem.W.exmOne K (.ref (ga K "NoPlan")) (.ref (ga K "BadPaper")) = some false
  ki_NoPlan_BadPaper : PySem.W.kitOne K (.ref (ga K "NoPlan")) (.ref (ga K "BadPaper")) = some false
  em_NoPlan_NoShare : PySem.W.exmOne K (.ref (ga K "NoPlan")) (.ref (ga K "NoShare")) = some false
  ki_NoPlan_NoShare : PySem.W.kitOne K (.ref (ga K "NoPlan")) (.ref (ga K "NoShare")) = some false
  em_NoPlan_NoPlan : PySem.W.exmOne K (.ref (ga K "NoPlan")) (.ref (ga K "NoPlan")) = some true
  ki_NoPlan_NoPlan : PySem.W.kitOne K (.ref (ga K "NoPlan")) (.ref (ga K "NoPlan")) = some true
  em_NoPlan_TooLarge : PySem.W.exmOne K (.ref (ga K "NoPlan")) (.ref (ga K "TooLarge")) = some false
  ki_NoPlan_TooLarge : PySem.W.kitOne K (.ref (ga K "NoPlan")) (.ref (ga K "TooLarge")) = some false
  kv_NoPlan : PySem.W.kitOne K (.ref (ga K "NoPlan")) (.type "ValueError") = some true
  xc_TooLarge : ExcC K (ga K "TooLarge")
  em_TooLarge_LossError : PySem.W.exmOne K (.ref (ga K "TooLarge")) (.ref (ga K "LossError")) = some true
  ki_TooLarge_LossError : PySem.W.kitOne K (.ref (ga K "TooLarge")) (.ref (ga K "LossError")) = some true
  em_TooLarge_BadText : PySem.W.exmOne K (.ref (ga K "TooLarge")) (.ref (ga K "BadText")) = some false
  ki_TooLarge_BadText : PySem.W.kitOne K (.ref (ga K "TooLarge")) (.ref (ga K "BadText")) = some false
  em_TooLarge_BadRatio : PySem.W.exmOne K (.ref (ga K "TooLarge")) (.ref (ga K "BadRatio")) = some false
  ki_TooLarge_BadRatio : PySem.W.kitOne K (.ref (ga K "TooLarge")) (.ref (ga K "BadRatio")) = some false
  em_TooLarge_BadPlan : PySem.W.exmOne K (.ref (ga K "TooLarge")) (.ref (ga K "BadPlan")) = some false
  ki_TooLarge_BadPlan : PySem.W.kitOne K (.ref (ga K "TooLarge")) (.ref (ga K "BadPlan")) = some false
  em_TooLarge_BadPaper : PySem.W.exmOne K (.ref (ga K "TooLarge")) (.ref (ga K "BadPaper")) = some false
  ki_TooLarge_BadPaper : PySem.W.kitOne K (.ref (ga K "TooLarge")) (.ref (ga K "BadPaper")) = some false
  em_TooLarge_NoShare : PySem.W.exmOne K (.ref (ga K "TooLarge")) (.ref (ga K "NoShare")) = some false
  ki_TooLarge_NoShare : PySem.W.kitOne K (.ref (ga K "TooLarge")) (.ref (ga K "NoShare")) = some false
  em_TooLarge_NoPlan : PySem.W.exmOne K (.ref (ga K "TooLarge")) (.ref (ga K "NoPlan")) = some false
  ki_TooLarge_NoPlan : PySem.W.kitOne K (.ref (ga K "TooLarge")) (.ref (ga K "NoPlan")) = some false
  em_TooLarge_TooLarge : PySem.W.exmOne K (.ref (ga K "TooLarge")) (.ref (ga K "TooLarge")) = some true
  ki_TooLarge_TooLarge : PySem.W.kitOne K (.ref (ga K "TooLarge")) (.ref (ga K "TooLarge")) = some true
  kv_TooLarge : PySem.W.kitOne K (.ref (ga K "TooLarge")) (.type "ValueError") = some true
  sb_BadText : SupX.supB R.prog.main.file K (ga K "BadText") "at" = true
  xf_BadText : L2.XfC K (ga K "BadText")
  xn_BadText : PySem.W.findIn K (.ref (ga K "BadText")) "at" = some none
  sb_BadPlan : SupX.supB R.prog.main.file K (ga K "BadPlan") "at" = true
  xf_BadPlan : L2.XfC K (ga K "BadPlan")
  xn_BadPlan : PySem.W.findIn K (.ref (ga K "BadPlan")) "at" = some none
  sb_BadPaper : SupX.supB R.prog.main.file K (ga K "BadPaper") "at" = true
  xf_BadPaper : L2.XfC K (ga K "BadPaper")
  xn_BadPaper : PySem.W.findIn K (.ref (ga K "BadPaper")) "at" = some none
  sb_NoShare : SupX.supB R.prog.main.file K (ga K "NoShare") "what" = true
  xf_NoShare : L2.XfC K (ga K "NoShare")
  xn_NoShare : PySem.W.findIn K (.ref (ga K "NoShare")) "what" = some none
  sb_NoPlan : SupX.supB R.prog.main.file K (ga K "NoPlan") "least" = true
  xf_NoPlan : L2.XfC K (ga K "NoPlan")
  xn_NoPlan : PySem.W.findIn K (.ref (ga K "NoPlan")) "least" = some none
  sb_TooLarge : SupX.supB R.prog.main.file K (ga K "TooLarge") "what" = true
  xf_TooLarge : L2.XfC K (ga K "TooLarge")
  xn_TooLarge : PySem.W.findIn K (.ref (ga K "TooLarge")) "what" = some none
  s_BadText : SupX.SupC PR K (ga K "BadText") "at"
  s_BadPlan : SupX.SupC PR K (ga K "BadPlan") "at"
  s_BadPaper : SupX.SupC PR K (ga K "BadPaper") "at"
  s_NoShare : SupX.SupC PR K (ga K "NoShare") "what"
  s_NoPlan : SupX.SupC PR K (ga K "NoPlan") "least"
  s_TooLarge : SupX.SupC PR K (ga K "TooLarge") "what"
theorem txt_of {w : World} {K : PySem.W.Frag} {h : Heap} {mg : Str → Option Value} (X : K.In h) (G : h.Ns mainGlobals mg) (c : He.SaysX fa fn tabs [] exB w h K) (z : He.zsW K zs = zv) : Txt K mg where
  d_is_name := He.SaysD.def_ c.t.d 0 (d := d_is_name) rfl
  d_number_of := He.SaysD.def_ c.t.d 1 (d := d_number_of) rfl
  d_Game_init := He.SaysD.def_ c.t.d 2 (d := d_Game_init) rfl
  d_Game_eq := He.SaysD.def_ c.t.d 3 (d := d_Game_eq) rfl
  d_Reader_init := He.SaysD.def_ c.t.d 4 (d := d_Reader_init) rfl
  d_Reader_word := He.SaysD.def_ c.t.d 5 (d := d_Reader_word) rfl
  d_Reader_take := He.SaysD.def_ c.t.d 6 (d := d_Reader_take) rfl
  d_Reader_take_number := He.SaysD.def_ c.t.d 7 (d := d_Reader_take_number) rfl
  d_Reader_game := He.SaysD.def_ c.t.d 8 (d := d_Reader_game) rfl
  d_Reader_block := He.SaysD.def_ c.t.d 9 (d := d_Reader_block) rfl
  d_Reader_statement := He.SaysD.def_ c.t.d 10 (d := d_Reader_statement) rfl
  d_Reader_branching := He.SaysD.def_ c.t.d 11 (d := d_Reader_branching) rfl
  d_Reader_choice := He.SaysD.def_ c.t.d 12 (d := d_Reader_choice) rfl
  d_Reader_expression := He.SaysD.def_ c.t.d 13 (d := d_Reader_expression) rfl
  d_read_game := He.SaysD.def_ c.t.d 14 (d := d_read_game) rfl
  d_expression_words := He.SaysD.def_ c.t.d 15 (d := d_expression_words) rfl
  d_block_words := He.SaysD.def_ c.t.d 16 (d := d_block_words) rfl
  d_game_text := He.SaysD.def_ c.t.d 17 (d := d_game_text) rfl
  d_l_pool := He.SaysD.def_ c.t.d 18 (d := d_l_pool) rfl
  d_l_draw := He.SaysD.def_ c.t.d 19 (d := d_l_draw) rfl
  d_l_spend := He.SaysD.def_ c.t.d 20 (d := d_l_spend) rfl
  d_l_number := He.SaysD.def_ c.t.d 21 (d := d_l_number) rfl
  d_l_same := He.SaysD.def_ c.t.d 22 (d := d_l_same) rfl
  d_l_value := He.SaysD.def_ c.t.d 23 (d := d_l_value) rfl
  d_l_statement := He.SaysD.def_ c.t.d 24 (d := d_l_statement) rfl
  d_l_block := He.SaysD.def_ c.t.d 25 (d := d_l_block) rfl
  d_l_names := He.SaysD.def_ c.t.d 26 (d := d_l_names) rfl
  d_l_game := He.SaysD.def_ c.t.d 27 (d := d_l_game) rfl
  d_l_value_words := He.SaysD.def_ c.t.d 28 (d := d_l_value_words) rfl
  d_l_block_words := He.SaysD.def_ c.t.d 29 (d := d_l_block_words) rfl
  d_l_words := He.SaysD.def_ c.t.d 30 (d := d_l_words) rfl
  d_l_is_name := He.SaysD.def_ c.t.d 31 (d := d_l_is_name) rfl
  d_l_is_number := He.SaysD.def_ c.t.d 32 (d := d_l_is_number) rfl
  d_l_values := He.SaysD.def_ c.t.d 33 (d := d_l_values) rfl
  d_l_begins := He.SaysD.def_ c.t.d 34 (d := d_l_begins) rfl
  d_l_blocks := He.SaysD.def_ c.t.d 35 (d := d_l_blocks) rfl
  d_l_next := He.SaysD.def_ c.t.d 36 (d := d_l_next) rfl
  d_l_wrong := He.SaysD.def_ c.t.d 37 (d := d_l_wrong) rfl
  d_l_menu := He.SaysD.def_ c.t.d 38 (d := d_l_menu) rfl
  d_l_near := He.SaysD.def_ c.t.d 39 (d := d_l_near) rfl
  d_l_changed := He.SaysD.def_ c.t.d 40 (d := d_l_changed) rfl
  d_l_walked := He.SaysD.def_ c.t.d 41 (d := d_l_walked) rfl
  d_l_moves := He.SaysD.def_ c.t.d 42 (d := d_l_moves) rfl
  d_law := He.SaysD.def_ c.t.d 43 (d := d_law) rfl
  g_is_name := He.glo_ok X G (He.SaysD.fact c.t.d 0 (f := .glo "is_name") rfl)
  g_number_of := He.glo_ok X G (He.SaysD.fact c.t.d 1 (f := .glo "number_of") rfl)
  g_read_game := He.glo_ok X G (He.SaysD.fact c.t.d 2 (f := .glo "read_game") rfl)
  g_expression_words := He.glo_ok X G (He.SaysD.fact c.t.d 3 (f := .glo "expression_words") rfl)
  g_block_words := He.glo_ok X G (He.SaysD.fact c.t.d 4 (f := .glo "block_words") rfl)
  g_game_text := He.glo_ok X G (He.SaysD.fact c.t.d 5 (f := .glo "game_text") rfl)
  g_l_pool := He.glo_ok X G (He.SaysD.fact c.t.d 6 (f := .glo "_law_pool") rfl)
  g_l_draw := He.glo_ok X G (He.SaysD.fact c.t.d 7 (f := .glo "_law_draw") rfl)
  g_l_spend := He.glo_ok X G (He.SaysD.fact c.t.d 8 (f := .glo "_law_spend") rfl)
  g_l_number := He.glo_ok X G (He.SaysD.fact c.t.d 9 (f := .glo "_law_number") rfl)
  g_l_same := He.glo_ok X G (He.SaysD.fact c.t.d 10 (f := .glo "_law_same") rfl)
  g_l_value := He.glo_ok X G (He.SaysD.fact c.t.d 11 (f := .glo "_law_value") rfl)
  g_l_statement := He.glo_ok X G (He.SaysD.fact c.t.d 12 (f := .glo "_law_statement") rfl)
  g_l_block := He.glo_ok X G (He.SaysD.fact c.t.d 13 (f := .glo "_law_block") rfl)
  g_l_names := He.glo_ok X G (He.SaysD.fact c.t.d 14 (f := .glo "_law_names") rfl)
  g_l_game := He.glo_ok X G (He.SaysD.fact c.t.d 15 (f := .glo "_law_game") rfl)
  g_l_value_words := He.glo_ok X G (He.SaysD.fact c.t.d 16 (f := .glo "_law_value_words") rfl)
  g_l_block_words := He.glo_ok X G (He.SaysD.fact c.t.d 17 (f := .glo "_law_block_words") rfl)
  g_l_words := He.glo_ok X G (He.SaysD.fact c.t.d 18 (f := .glo "_law_words") rfl)
  g_l_is_name := He.glo_ok X G (He.SaysD.fact c.t.d 19 (f := .glo "_law_is_name") rfl)
  g_l_is_number := He.glo_ok X G (He.SaysD.fact c.t.d 20 (f := .glo "_law_is_number") rfl)
  g_l_values := He.glo_ok X G (He.SaysD.fact c.t.d 21 (f := .glo "_law_values") rfl)
  g_l_begins := He.glo_ok X G (He.SaysD.fact c.t.d 22 (f := .glo "_law_begins") rfl)
  g_l_blocks := He.glo_ok X G (He.SaysD.fact c.t.d 23 (f := .glo "_law_blocks") rfl)
  g_l_next := He.glo_ok X G (He.SaysD.fact c.t.d 24 (f := .glo "_law_next") rfl)
  g_l_wrong := He.glo_ok X G (He.SaysD.fact c.t.d 25 (f := .glo "_law_wrong") rfl)
  g_l_menu := He.glo_ok X G (He.SaysD.fact c.t.d 26 (f := .glo "_law_menu") rfl)
  g_l_near := He.glo_ok X G (He.SaysD.fact c.t.d 27 (f := .glo "_law_near") rfl)
  g_l_changed := He.glo_ok X G (He.SaysD.fact c.t.d 28 (f := .glo "_law_changed") rfl)
  g_l_walked := He.glo_ok X G (He.SaysD.fact c.t.d 29 (f := .glo "_law_walked") rfl)
  g_l_moves := He.glo_ok X G (He.SaysD.fact c.t.d 30 (f := .glo "_law_moves") rfl)
  g_law := He.glo_ok X G (He.SaysD.fact c.t.d 31 (f := .glo "law") rfl)
  g_LossError := He.glo_ok X G (He.SaysD.fact c.t.d 32 (f := .glo "LossError") rfl)
  x_LossError := He.exc_ok (He.SaysD.fact c.t.d 33 (f := .exc "LossError") rfl)
  g_BadText := He.glo_ok X G (He.SaysD.fact c.t.d 34 (f := .glo "BadText") rfl)
  g_BadRatio := He.glo_ok X G (He.SaysD.fact c.t.d 35 (f := .glo "BadRatio") rfl)
  x_BadRatio := He.exc_ok (He.SaysD.fact c.t.d 36 (f := .exc "BadRatio") rfl)
  g_BadPlan := He.glo_ok X G (He.SaysD.fact c.t.d 37 (f := .glo "BadPlan") rfl)
  g_BadPaper := He.glo_ok X G (He.SaysD.fact c.t.d 38 (f := .glo "BadPaper") rfl)
  g_NoShare := He.glo_ok X G (He.SaysD.fact c.t.d 39 (f := .glo "NoShare") rfl)
  g_NoPlan := He.glo_ok X G (He.SaysD.fact c.t.d 40 (f := .glo "NoPlan") rfl)
  g_TooLarge := He.glo_ok X G (He.SaysD.fact c.t.d 41 (f := .glo "TooLarge") rfl)
  g_Game := He.glo_ok X G (He.SaysD.fact c.t.d 42 (f := .glo "Game") rfl)
  c_Game := He.cls_ok (He.SaysD.fact c.t.d 43 (f := .cls "Game") rfl)
  m_Game := He.mkr_ok (He.SaysD.fact c.t.d 44 (f := .mkr "Game") rfl)
  a_Game_variables := He.noat_ok (He.SaysD.fact c.t.d 45 (f := .noat "Game" "variables") rfl)
  a_Game_block := He.noat_ok (He.SaysD.fact c.t.d 46 (f := .noat "Game" "block") rfl)
  t_Game_eq := He.meth_ok (He.SaysD.fact c.t.d 47 (f := .meth "Game" "__eq__") rfl)
  g_Reader := He.glo_ok X G (He.SaysD.fact c.t.d 48 (f := .glo "Reader") rfl)
  c_Reader := He.cls_ok (He.SaysD.fact c.t.d 49 (f := .cls "Reader") rfl)
  m_Reader := He.mkr_ok (He.SaysD.fact c.t.d 50 (f := .mkr "Reader") rfl)
  a_Reader_words := He.noat_ok (He.SaysD.fact c.t.d 51 (f := .noat "Reader" "words") rfl)
  a_Reader_at := He.noat_ok (He.SaysD.fact c.t.d 52 (f := .noat "Reader" "at") rfl)
  a_Reader_names := He.noat_ok (He.SaysD.fact c.t.d 53 (f := .noat "Reader" "names") rfl)
  a_Reader_branches := He.noat_ok (He.SaysD.fact c.t.d 54 (f := .noat "Reader" "branches") rfl)
  a_Reader_moves := He.noat_ok (He.SaysD.fact c.t.d 55 (f := .noat "Reader" "moves") rfl)
  t_Reader_word := He.meth_ok (He.SaysD.fact c.t.d 56 (f := .meth "Reader" "word") rfl)
  t_Reader_take := He.meth_ok (He.SaysD.fact c.t.d 57 (f := .meth "Reader" "take") rfl)
  t_Reader_take_number := He.meth_ok (He.SaysD.fact c.t.d 58 (f := .meth "Reader" "take_number") rfl)
  t_Reader_game := He.meth_ok (He.SaysD.fact c.t.d 59 (f := .meth "Reader" "game") rfl)
  t_Reader_block := He.meth_ok (He.SaysD.fact c.t.d 60 (f := .meth "Reader" "block") rfl)
  t_Reader_statement := He.meth_ok (He.SaysD.fact c.t.d 61 (f := .meth "Reader" "statement") rfl)
  t_Reader_branching := He.meth_ok (He.SaysD.fact c.t.d 62 (f := .meth "Reader" "branching") rfl)
  t_Reader_choice := He.meth_ok (He.SaysD.fact c.t.d 63 (f := .meth "Reader" "choice") rfl)
  t_Reader_expression := He.meth_ok (He.SaysD.fact c.t.d 64 (f := .meth "Reader" "expression") rfl)
  f_ValueError := He.free_ok X G (He.SaysD.fact c.t.d 65 (f := .free "ValueError") rfl)
  f_int := He.free_ok X G (He.SaysD.fact c.t.d 66 (f := .free "int") rfl)
  f_isinstance := He.free_ok X G (He.SaysD.fact c.t.d 67 (f := .free "isinstance") rfl)
  f_range := He.free_ok X G (He.SaysD.fact c.t.d 68 (f := .free "range") rfl)
  f_tuple := He.free_ok X G (He.SaysD.fact c.t.d 69 (f := .free "tuple") rfl)
  f_len := He.free_ok X G (He.SaysD.fact c.t.d 70 (f := .free "len") rfl)
  f_all := He.free_ok X G (He.SaysD.fact c.t.d 71 (f := .free "all") rfl)
  f_list := He.free_ok X G (He.SaysD.fact c.t.d 72 (f := .free "list") rfl)
  f_bool := He.free_ok X G (He.SaysD.fact c.t.d 73 (f := .free "bool") rfl)
  f_str := He.free_ok X G (He.SaysD.fact c.t.d 74 (f := .free "str") rfl)
  f_super := He.free_ok X G (He.SaysD.fact c.t.d 75 (f := .free "super") rfl)
  g_KEYS := He.glo_ok X G (He.SaysD.fact c.t.d 76 (f := .glo "KEYS") rfl)
  g_SIGNS := He.glo_ok X G (He.SaysD.fact c.t.d 77 (f := .glo "SIGNS") rfl)
  g_SEATS := He.glo_ok X G (He.SaysD.fact c.t.d 78 (f := .glo "SEATS") rfl)
  i_LETTERS := He.str_ok X G (He.SaysD.fact c.t.d 79 (f := .str "LETTERS" "abcdefghijklmnopqrstuvwxyz") rfl)
  i_GREATEST := He.int_ok X G (He.SaysD.fact c.t.d 80 (f := .int "GREATEST" 65535) rfl)
  i_MOST_NAMES := He.int_ok X G (He.SaysD.fact c.t.d 81 (f := .int "MOST_NAMES" 5) rfl)
  i_MOST_PARTS := He.int_ok X G (He.SaysD.fact c.t.d 82 (f := .int "MOST_PARTS" 8) rfl)
  i_MOST_BRANCHES := He.int_ok X G (He.SaysD.fact c.t.d 83 (f := .int "MOST_BRANCHES" 10) rfl)
  i_DEEPEST := He.int_ok X G (He.SaysD.fact c.t.d 84 (f := .int "DEEPEST" 6) rfl)
  i_DEEPEST_IF := He.int_ok X G (He.SaysD.fact c.t.d 85 (f := .int "DEEPEST_IF" 4) rfl)
  oc_Game := eqO_ok (exB_at c.more 0 rfl)
  nf_Game := (exB_at c.more 1 rfl)
  ne_Game := eqO_ok (exB_at c.more 2 rfl)
  om_Game := of_decide_eq_true (exB_at c.more 3 rfl)
  ki_Game_tuple := of_decide_eq_true (exB_at c.more 4 rfl)
  ki_Game_list := of_decide_eq_true (exB_at c.more 5 rfl)
  ki_Game_bool := of_decide_eq_true (exB_at c.more 6 rfl)
  ki_Game_int := of_decide_eq_true (exB_at c.more 7 rfl)
  ki_Game_str := of_decide_eq_true (exB_at c.more 8 rfl)
  ki_Game_Game := of_decide_eq_true (exB_at c.more 9 rfl)
  ki_Game_Reader := of_decide_eq_true (exB_at c.more 10 rfl)
  oc_Reader := eqO_ok (exB_at c.more 11 rfl)
  om_Reader := of_decide_eq_true (exB_at c.more 12 rfl)
  ki_Reader_tuple := of_decide_eq_true (exB_at c.more 13 rfl)
  ki_Reader_list := of_decide_eq_true (exB_at c.more 14 rfl)
  ki_Reader_bool := of_decide_eq_true (exB_at c.more 15 rfl)
  ki_Reader_int := of_decide_eq_true (exB_at c.more 16 rfl)
  ki_Reader_str := of_decide_eq_true (exB_at c.more 17 rfl)
  ki_Reader_Game := of_decide_eq_true (exB_at c.more 18 rfl)
  ki_Reader_Reader := of_decide_eq_true (exB_at c.more 19 rfl)
  og := eqO_ok (exB_at c.more 20 rfl)
  ot := of_decide_eq_true (exB_at c.more 21 rfl)
  p_KEYS := (exB_at c.more 22 rfl)
  p_SIGNS := (exB_at c.more 23 rfl)
  p_SEATS := (exB_at c.more 24 rfl)
  xc_LossError := excB_ok (exB_at c.more 25 rfl)
  em_LossError_LossError := of_decide_eq_true (exB_at c.more 26 rfl)
  ki_LossError_LossError := of_decide_eq_true (exB_at c.more 27 rfl)
  em_LossError_BadText := of_decide_eq_true (exB_at c.more 28 rfl)
  ki_LossError_BadText := of_decide_eq_true (exB_at c.more 29 rfl)
  em_LossError_BadRatio := of_decide_eq_true (exB_at c.more 30 rfl)
  ki_LossError_BadRatio := of_decide_eq_true (exB_at c.more 31 rfl)
  em_LossError_BadPlan := of_decide_eq_true (exB_at c.more 32 rfl)
  ki_LossError_BadPlan := of_decide_eq_true (exB_at c.more 33 rfl)
  em_LossError_BadPaper := of_decide_eq_true (exB_at c.more 34 rfl)
  ki_LossError_BadPaper := of_decide_eq_true (exB_at c.more 35 rfl)
  em_LossError_NoShare := of_decide_eq_true (exB_at c.more 36 rfl)
  ki_LossError_NoShare := of_decide_eq_true (exB_at c.more 37 rfl)
  em_LossError_NoPlan := of_decide_eq_true (exB_at c.more 38 rfl)
  ki_LossError_NoPlan := of_decide_eq_true (exB_at c.more 39 rfl)
  em_LossError_TooLarge := of_decide_eq_true (exB_at c.more 40 rfl)
  ki_LossError_TooLarge := of_decide_eq_true (exB_at c.more 41 rfl)
  kv_LossError := of_decide_eq_true (exB_at c.more 42 rfl)
  xc_BadText := excB_ok (exB_at c.more 43 rfl)
  em_BadText_LossError := of_decide_eq_true (exB_at c.more 44 rfl)
  ki_BadText_LossError := of_decide_eq_true (exB_at c.more 45 rfl)
  em_BadText_BadText := of_decide_eq_true (exB_at c.more 46 rfl)
  ki_BadText_BadText := of_decide_eq_true (exB_at c.more 47 rfl)
  em_BadText_BadRatio := of_decide_eq_true (exB_at c.more 48 rfl)
  ki_BadText_BadRatio := of_decide_eq_true (exB_at c.more 49 rfl)
  em_BadText_BadPlan := of_decide_eq_true (exB_at c.more 50 rfl)
  ki_BadText_BadPlan := of_decide_eq_true (exB_at c.more 51 rfl)
  em_BadText_BadPaper := of_decide_eq_true (exB_at c.more 52 rfl)
  ki_BadText_BadPaper := of_decide_eq_true (exB_at c.more 53 rfl)
  em_BadText_NoShare := of_decide_eq_true (exB_at c.more 54 rfl)
  ki_BadText_NoShare := of_decide_eq_true (exB_at c.more 55 rfl)
  em_BadText_NoPlan := of_decide_eq_true (exB_at c.more 56 rfl)
  ki_BadText_NoPlan := of_decide_eq_true (exB_at c.more 57 rfl)
  em_BadText_TooLarge := of_decide_eq_true (exB_at c.more 58 rfl)
  ki_BadText_TooLarge := of_decide_eq_true (exB_at c.more 59 rfl)
  kv_BadText := of_decide_eq_true (exB_at c.more 60 rfl)
  xc_BadRatio := excB_ok (exB_at c.more 61 rfl)
  em_BadRatio_LossError := of_decide_eq_true (exB_at c.more 62 rfl)
  ki_BadRatio_LossError := of_decide_eq_true (exB_at c.more 63 rfl)
  em_BadRatio_BadText := of_decide_eq_true (exB_at c.more 64 rfl)
  ki_BadRatio_BadText := of_decide_eq_true (exB_at c.more 65 rfl)
  em_BadRatio_BadRatio := of_decide_eq_true (exB_at c.more 66 rfl)
  ki_BadRatio_BadRatio := of_decide_eq_true (exB_at c.more 67 rfl)
  em_BadRatio_BadPlan := of_decide_eq_true (exB_at c.more 68 rfl)
  ki_BadRatio_BadPlan := of_decide_eq_true (exB_at c.more 69 rfl)
  em_BadRatio_BadPaper := of_decide_eq_true (exB_at c.more 70 rfl)
  ki_BadRatio_BadPaper := of_decide_eq_true (exB_at c.more 71 rfl)
  em_BadRatio_NoShare := of_decide_eq_true (exB_at c.more 72 rfl)
  ki_BadRatio_NoShare := of_decide_eq_true (exB_at c.more 73 rfl)
  em_BadRatio_NoPlan := of_decide_eq_true (exB_at c.more 74 rfl)
  ki_BadRatio_NoPlan := of_decide_eq_true (exB_at c.more 75 rfl)
  em_BadRatio_TooLarge := of_decide_eq_true (exB_at c.more 76 rfl)
  ki_BadRatio_TooLarge := of_decide_eq_true (exB_at c.more 77 rfl)
  kv_BadRatio := of_decide_eq_true (exB_at c.more 78 rfl)
  xc_BadPlan := excB_ok (exB_at c.more 79 rfl)
  em_BadPlan_LossError := of_decide_eq_true (exB_at c.more 80 rfl)
  ki_BadPlan_LossError := of_decide_eq_true (exB_at c.more 81 rfl)
  em_BadPlan_BadText := of_decide_eq_true (exB_at c.more 82 rfl)
  ki_BadPlan_BadText := of_decide_eq_true (exB_at c.more 83 rfl)
  em_BadPlan_BadRatio := of_decide_eq_true (exB_at c.more 84 rfl)
  ki_BadPlan_BadRatio := of_decide_eq_true (exB_at c.more 85 rfl)
  em_BadPlan_BadPlan := of_decide_eq_true (exB_at c.more 86 rfl)
  ki_BadPlan_BadPlan := of_decide_eq_true (exB_at c.more 87 rfl)
  em_BadPlan_BadPaper := of_decide_eq_true (exB_at c.more 88 rfl)
  ki_BadPlan_BadPaper := of_decide_eq_true (exB_at c.more 89 rfl)
  em_BadPlan_NoShare := of_decide_eq_true (exB_at c.more 90 rfl)
  ki_BadPlan_NoShare := of_decide_eq_true (exB_at c.more 91 rfl)
  em_BadPlan_NoPlan := of_decide_eq_true (exB_at c.more 92 rfl)
  ki_BadPlan_NoPlan := of_decide_eq_true (exB_at c.more 93 rfl)
  em_BadPlan_TooLarge := of_decide_eq_true (exB_at c.more 94 rfl)
  ki_BadPlan_TooLarge := of_decide_eq_true (exB_at c.more 95 rfl)
  kv_BadPlan := of_decide_eq_true (exB_at c.more 96 rfl)
  xc_BadPaper := excB_ok (exB_at c.more 97 rfl)
  em_BadPaper_LossError := of_decide_eq_true (exB_at c.more 98 rfl)
  ki_BadPaper_LossError := of_decide_eq_true (exB_at c.more 99 rfl)
  em_BadPaper_BadText := of_decide_eq_true (exB_at c.more 100 rfl)
  ki_BadPaper_BadText := of_decide_eq_true (exB_at c.more 101 rfl)
  em_BadPaper_BadRatio := of_decide_eq_true (exB_at c.more 102 rfl)
  ki_BadPaper_BadRatio := of_decide_eq_true (exB_at c.more 103 rfl)
  em_BadPaper_BadPlan := of_decide_eq_true (exB_at c.more 104 rfl)
  ki_BadPaper_BadPlan := of_decide_eq_true (exB_at c.more 105 rfl)
  em_BadPaper_BadPaper := of_decide_eq_true (exB_at c.more 106 rfl)
  ki_BadPaper_BadPaper := of_decide_eq_true (exB_at c.more 107 rfl)
  em_BadPaper_NoShare := of_decide_eq_true (exB_at c.more 108 rfl)
  ki_BadPaper_NoShare := of_decide_eq_true (exB_at c.more 109 rfl)
  em_BadPaper_NoPlan := of_decide_eq_true (exB_at c.more 110 rfl)
  ki_BadPaper_NoPlan := of_decide_eq_true (exB_at c.more 111 rfl)
  em_BadPaper_TooLarge := of_decide_eq_true (exB_at c.more 112 rfl)
  ki_BadPaper_TooLarge := of_decide_eq_true (exB_at c.more 113 rfl)
  kv_BadPaper := of_decide_eq_true (exB_at c.more 114 rfl)
  xc_NoShare := excB_ok (exB_at c.more 115 rfl)
  em_NoShare_LossError := of_decide_eq_true (exB_at c.more 116 rfl)
  ki_NoShare_LossError := of_decide_eq_true (exB_at c.more 117 rfl)
  em_NoShare_BadText := of_decide_eq_true (exB_at c.more 118 rfl)
  ki_NoShare_BadText := of_decide_eq_true (exB_at c.more 119 rfl)
  em_NoShare_BadRatio := of_decide_eq_true (exB_at c.more 120 rfl)
  ki_NoShare_BadRatio := of_decide_eq_true (exB_at c.more 121 rfl)
  em_NoShare_BadPlan := of_decide_eq_true (exB_at c.more 122 rfl)
  ki_NoShare_BadPlan := of_decide_eq_true (exB_at c.more 123 rfl)
  em_NoShare_BadPaper := of_decide_eq_true (exB_at c.more 124 rfl)
  ki_NoShare_BadPaper := of_decide_eq_true (exB_at c.more 125 rfl)
  em_NoShare_NoShare := of_decide_eq_true (exB_at c.more 126 rfl)
  ki_NoShare_NoShare := of_decide_eq_true (exB_at c.more 127 rfl)
  em_NoShare_NoPlan := of_decide_eq_true (exB_at c.more 128 rfl)
  ki_NoShare_NoPlan := of_decide_eq_true (exB_at c.more 129 rfl)
  em_NoShare_TooLarge := of_decide_eq_true (exB_at c.more 130 rfl)
  ki_NoShare_TooLarge := of_decide_eq_true (exB_at c.more 131 rfl)
  kv_NoShare := of_decide_eq_true (exB_at c.more 132 rfl)
  xc_NoPlan := excB_ok (exB_at c.more 133 rfl)
  em_NoPlan_LossError := of_decide_eq_true (exB_at c.more 134 rfl)
  ki_NoPlan_LossError := of_decide_eq_true (exB_at c.more 135 rfl)
  em_NoPlan_BadText := of_decide_eq_true (exB_at c.more 136 rfl)
  ki_NoPlan_BadText := of_decide_eq_true (exB_at c.more 137 rfl)
  em_NoPlan_BadRatio := of_decide_eq_true (exB_at c.more 138 rfl)
  ki_NoPlan_BadRatio := of_decide_eq_true (exB_at c.more 139 rfl)
  em_NoPlan_BadPlan := of_decide_eq_true (exB_at c.more 140 rfl)
  ki_NoPlan_BadPlan := of_decide_eq_true (exB_at c.more 141 rfl)
  em_NoPlan_BadPaper := of_decide_eq_true (exB_at c.more 142 rfl)
  ki_NoPlan_BadPaper := of_decide_eq_true (exB_at c.more 143 rfl)
  em_NoPlan_NoShare := of_decide_eq_true (exB_at c.more 144 rfl)
  ki_NoPlan_NoShare := of_decide_eq_true (exB_at c.more 145 rfl)
  em_NoPlan_NoPlan := of_decide_eq_true (exB_at c.more 146 rfl)
  ki_NoPlan_NoPlan := of_decide_eq_true (exB_at c.more 147 rfl)
  em_NoPlan_TooLarge := of_decide_eq_true (exB_at c.more 148 rfl)
  ki_NoPlan_TooLarge := of_decide_eq_true (exB_at c.more 149 rfl)
  kv_NoPlan := of_decide_eq_true (exB_at c.more 150 rfl)
  xc_TooLarge := excB_ok (exB_at c.more 151 rfl)
  em_TooLarge_LossError := of_decide_eq_true (exB_at c.more 152 rfl)
  ki_TooLarge_LossError := of_decide_eq_true (exB_at c.more 153 rfl)
  em_TooLarge_BadText := of_decide_eq_true (exB_at c.more 154 rfl)
  ki_TooLarge_BadText := of_decide_eq_true (exB_at c.more 155 rfl)
  em_TooLarge_BadRatio := of_decide_eq_true (exB_at c.more 156 rfl)
  ki_TooLarge_BadRatio := of_decide_eq_true (exB_at c.more 157 rfl)
  em_TooLarge_BadPlan := of_decide_eq_true (exB_at c.more 158 rfl)
  ki_TooLarge_BadPlan := of_decide_eq_true (exB_at c.more 159 rfl)
  em_TooLarge_BadPaper := of_decide_eq_true (exB_at c.more 160 rfl)
  ki_TooLarge_BadPaper := of_decide_eq_true (exB_at c.more 161 rfl)
  em_TooLarge_NoShare := of_decide_eq_true (exB_at c.more 162 rfl)
  ki_TooLarge_NoShare := of_decide_eq_true (exB_at c.more 163 rfl)
  em_TooLarge_NoPlan := of_decide_eq_true (exB_at c.more 164 rfl)
  ki_TooLarge_NoPlan := of_decide_eq_true (exB_at c.more 165 rfl)
  em_TooLarge_TooLarge := of_decide_eq_true (exB_at c.more 166 rfl)
  ki_TooLarge_TooLarge := of_decide_eq_true (exB_at c.more 167 rfl)
  kv_TooLarge := of_decide_eq_true (exB_at c.more 168 rfl)
  sb_BadText := (exB_at c.more 169 rfl)
  xf_BadText := L2.xfB_ok (exB_at c.more 170 rfl)
  xn_BadText := eqO_ok (exB_at c.more 171 rfl)
  sb_BadPlan := (exB_at c.more 172 rfl)
  xf_BadPlan := L2.xfB_ok (exB_at c.more 173 rfl)
  xn_BadPlan := eqO_ok (exB_at c.more 174 rfl)
  sb_BadPaper := (exB_at c.more 175 rfl)
  xf_BadPaper := L2.xfB_ok (exB_at c.more 176 rfl)
  xn_BadPaper := eqO_ok (exB_at c.more 177 rfl)
  sb_NoShare := (exB_at c.more 178 rfl)
  xf_NoShare := L2.xfB_ok (exB_at c.more 179 rfl)
  xn_NoShare := eqO_ok (exB_at c.more 180 rfl)
  sb_NoPlan := (exB_at c.more 181 rfl)
  xf_NoPlan := L2.xfB_ok (exB_at c.more 182 rfl)
  xn_NoPlan := eqO_ok (exB_at c.more 183 rfl)
  sb_TooLarge := (exB_at c.more 184 rfl)
  xf_TooLarge := L2.xfB_ok (exB_at c.more 185 rfl)
  xn_TooLarge := eqO_ok (exB_at c.more 186 rfl)
  s_BadText := SupX.sup_of (P := PR) (x := "at") (exB_at c.more 169 rfl) (He.zsW_at z 0 rfl rfl) (by decide +kernel) (fun _ _ _ _ _ _ _ _ _ => rfl) rfl rfl rfl rfl rfl rfl (by decide +kernel) (by decide +kernel) (by decide +kernel) (by decide +kernel) (by decide +kernel) (by decide) (by decide) (fun _ _ _ _ => rfl) ⟨_, fun _ _ _ _ => rfl⟩ (fun _ _ _ _ => rfl) (fun _ _ _ _ => rfl)
  s_BadPlan := SupX.sup_of (P := PR) (x := "at") (exB_at c.more 172 rfl) (He.zsW_at z 1 rfl rfl) (by decide +kernel) (fun _ _ _ _ _ _ _ _ _ => rfl) rfl rfl rfl rfl rfl rfl (by decide +kernel) (by decide +kernel) (by decide +kernel) (by decide +kernel) (by decide +kernel) (by decide) (by decide) (fun _ _ _ _ => rfl) ⟨_, fun _ _ _ _ => rfl⟩ (fun _ _ _ _ => rfl) (fun _ _ _ _ => rfl)
  s_BadPaper := SupX.sup_of (P := PR) (x := "at") (exB_at c.more 175 rfl) (He.zsW_at z 2 rfl rfl) (by decide +kernel) (fun _ _ _ _ _ _ _ _ _ => rfl) rfl rfl rfl rfl rfl rfl (by decide +kernel) (by decide +kernel) (by decide +kernel) (by decide +kernel) (by decide +kernel) (by decide) (by decide) (fun _ _ _ _ => rfl) ⟨_, fun _ _ _ _ => rfl⟩ (fun _ _ _ _ => rfl) (fun _ _ _ _ => rfl)
  s_NoShare := SupX.sup_of (P := PR) (x := "what") (exB_at c.more 178 rfl) (He.zsW_at z 3 rfl rfl) (by decide +kernel) (fun _ _ _ _ _ _ _ _ _ => rfl) rfl rfl rfl rfl rfl rfl (by decide +kernel) (by decide +kernel) (by decide +kernel) (by decide +kernel) (by decide +kernel) (by decide) (by decide) (fun _ _ _ _ => rfl) ⟨_, fun _ _ _ _ => rfl⟩ (fun _ _ _ _ => rfl) (fun _ _ _ _ => rfl)
  s_NoPlan := SupX.sup_of (P := PR) (x := "least") (exB_at c.more 181 rfl) (He.zsW_at z 4 rfl rfl) (by decide +kernel) (fun _ _ _ _ _ _ _ _ _ => rfl) rfl rfl rfl rfl rfl rfl (by decide +kernel) (by decide +kernel) (by decide +kernel) (by decide +kernel) (by decide +kernel) (by decide) (by decide) (fun _ _ _ _ => rfl) ⟨_, fun _ _ _ _ => rfl⟩ (fun _ _ _ _ => rfl) (fun _ _ _ _ => rfl)
  s_TooLarge := SupX.sup_of (P := PR) (x := "what") (exB_at c.more 184 rfl) (He.zsW_at z 5 rfl rfl) (by decide +kernel) (fun _ _ _ _ _ _ _ _ _ => rfl) rfl rfl rfl rfl rfl rfl (by decide +kernel) (by decide +kernel) (by decide +kernel) (by decide +kernel) (by decide +kernel) (by decide) (by decide) (fun _ _ _ _ => rfl) ⟨_, fun _ _ _ _ => rfl⟩ (fun _ _ _ _ => rfl) (fun _ _ _ _ => rfl)
/-! ### the head's run -/
def names0 : List Str := ["LossError", "BadText", "BadRatio", "BadPlan", "BadPaper", "NoShare", "NoPlan", "TooLarge", "KEYS", "SIGNS", "SEATS", "LETTERS", "GREATEST", "MOST_NAMES", "MOST_PARTS", "MOST_BRANCHES", "DEEPEST", "DEEPEST_IF", "is_name", "number_of", "Game", "Reader", "read_game", "expression_words", "block_words", "game_text", "_law_pool", "_law_draw", "_law_spend", "_law_number"]
def names1 : List Str := ["_law_same", "_law_value", "_law_statement", "_law_block", "_law_names", "_law_game", "_law_value_words", "_law_block_words", "_law_words", "_law_is_name", "_law_is_number", "_law_values", "_law_begins", "_law_blocks", "_law_next", "_law_wrong", "_law_menu", "_law_near", "_law_changed", "_law_walked", "_law_moves"]
def names : List Str := names0 ++ names1
abbrev lawAt : Nat := 54
abbrev hk : PySem.W.Hook := He.hookY 4 fa fn tabs exB zs zv
def ob (s : PySem.W.SharedT) : He.AlX × List SupX.FnZ := He.obsY 4 fa fn tabs exB zs (HandSHeadRun.getT s)
theorem ob_eq (s : PySem.W.SharedT) : ob s = hk.obs s.abs := He.obsY_eq (HandSHeadRun.getT_eq s)
theorem runF (w : World) : HandSHeadRun.RunEq R (PySem.W.view R.prog [lawAt]) hk ob 60000 names (w.withFollow "special-get-raises" false) := by
  intro os
  kernel_rfl
theorem runT (w : World) : HandSHeadRun.RunEq R (PySem.W.view R.prog [lawAt]) hk ob 60000 names (w.withFollow "special-get-raises" true) := by
  intro os
  kernel_rfl
theorem run (w : World) : HandSHeadRun.RunEq R (PySem.W.view R.prog [lawAt]) hk ob 60000 names w :=
  PySem.W.byRow2 "special-get-raises" (P := fun w => HandSHeadRun.RunEq R (PySem.W.view R.prog [lawAt]) hk ob 60000 names w) runF runT w
end LL
namespace LL
open PySem PySem.Spec PyProof.Rows L2 He Evl
/-! ### rules of own operators, own str -/
section
variable {X : Cx} {CX : CXT} {n : Nat} {C g : Addr} {sp : Sp} {E : XK}
def rOwnB (C : Addr) (sp : Sp) (E : XK) : R2 := fun x y H Q => ∃ a dx fs b dy gs, x = .ref a ∧ y = .ref b ∧ H a = some (.ins C dx fs) ∧ H b = some (.ins C dy gs) ∧ sp [x, y] H Q E
theorem op_ownB {op : Operator} (hc : PySem.W.selfFirst X.K C = true) (hs : PySem.W.findIn X.K (.ref C) (PySem.dunder op.info.2) = some (some (.ref g))) (hf : PySem.W.isFn X.K (.ref g) = true) (F : FnR X.prog X.w X.K X.mg X.base CX n g sp)
    (hr : Room n X.A) (hx : Passes CX X E) : OpR X (binaryOp op) (rOwnB C sp E) := by
  intro pins s σ H x y v u Q I rx ry h
  obtain ⟨a, dx, fs, b, dy, gs, rfl, rfl, ha, hb, q⟩ := h
  cases (show v = Value.ref a from rx)
  cases (show u = Value.ref b from ry)
  obtain ⟨mA, O, _⟩ := ins_get I.hok ha
  obtain ⟨od, J, _⟩ := O.look
  obtain ⟨mB, O2, _⟩ := ins_get I.hok hb
  obtain ⟨od2, J2, _⟩ := O2.look
  obtain ⟨m, hF⟩ := I.fr
  refine PySem.W.binop_K hF I.ok.mod.kin J J2.type hc hs hf ?_
  refine wpAny_mono (wpAny_call (run_fnR (us := [.ref a, .ref b]) (vs := [.ref a, .ref b]) F hr hx I (.cons rfl (.cons rfl .nil)) q)) (fun w s' z => ?_) fun _ _ x => x
  obtain ⟨z', H', I', rz, qz⟩ := z
  exact SlX.cmpback rz ⟨z', H', I', rz, qz⟩
theorem op_ownC {op : CmpOp} (hop : ∀ a b, compareOp op a b = richCompare op a b) (hn : PySem.W.notFirst X.K C (.ref C) = true) (hs : PySem.W.findIn X.K (.ref C) (cmpInfo op).2.1 = some (some (.ref g))) (hf : PySem.W.isFn X.K (.ref g) = true) (F : FnR X.prog X.w X.K X.mg X.base CX n g sp)
    (hr : Room n X.A) (hx : Passes CX X E) : OpR X (compareOp op) (rOwnB C sp E) := by
  intro pins s σ H x y v u Q I rx ry h
  obtain ⟨a, dx, fs, b, dy, gs, rfl, rfl, ha, hb, q⟩ := h
  cases (show v = Value.ref a from rx)
  cases (show u = Value.ref b from ry)
  obtain ⟨mA, O, _⟩ := ins_get I.hok ha
  obtain ⟨od, J, _⟩ := O.look
  obtain ⟨mB, O2, _⟩ := ins_get I.hok hb
  obtain ⟨od2, J2, _⟩ := O2.look
  obtain ⟨m, hF⟩ := I.fr
  rw [hop]
  refine PySem.W.cmp_K (op := op) (tb := .ref C) hr.units0 hF I.ok.mod.kin J J2.type hn hs hf ?_
  refine wpAny_mono (wpAny_call (run_fnR (us := [.ref a, .ref b]) (vs := [.ref a, .ref b]) F hr hx I (.cons rfl (.cons rfl .nil)) q)) (fun w s' z => ?_) fun _ _ x => x
  obtain ⟨z', H', I', rz, qz⟩ := z
  exact SlX.cmpback rz ⟨z', H', I', rz, qz⟩
def rStrOwn (C : Addr) (sp : Sp) (E : XK) : List V → Hp → VK → Prop := fun xs H Q => ∃ a dx fs, xs = [.ref a] ∧ H a = some (.ins C dx fs) ∧ sp [.ref a] H (fun z H' => ∃ y, z = .str y ∧ Q (.str y) H') E
open Builtin Builtin.Str PySem.W in
theorem call_strOwn (hs : PySem.W.findIn X.K (.ref C) "__str__" = some (some (.ref g))) (hf : PySem.W.isFn X.K (.ref g) = true) (F : FnR X.prog X.w X.K X.mg X.base CX n g sp) (hr : Room (n + 2) X.A) (hx : Passes CX X E) : CallR X (.type "str") (rStrOwn C sp E) := by
  intro pins s σ H xs us Q I r h
  obtain ⟨a, dx, fs, rfl, ha, q⟩ := h
  obtain ⟨u, rfl, ru⟩ := r.one
  cases (show u = Value.ref a from ru)
  obtain ⟨mA, O, _⟩ := ins_get I.hok ha
  obtain ⟨od, J, _⟩ := O.look
  have hr2 : Room n X.A.in1.in1 := (show Room (n + 1) X.A.in1 from Room.in1 hr).in1
  refine callType_codes (T := "str") (Bi := Builtin.«object.__init__») (Q₁ := fun r s₁ => ∃ y u, r = .str y u ∧ EP X pins σ Q r s₁) PySem.F.called_str (PySem.F.typeCall_str_1 _) PySem.F.entry_object_init ?_ ?_
  · refine codeAny_of_tree ?_
    show wpAny _ X.A.in1.in1 (do checkBuiltinCall "str.__new__" ⟨[.type "str", .ref a], []⟩; again (.builtin "str.__new__" ⟨[.type "str", .ref a], []⟩)) _ _ s
    refine wpAny_bind (wpAny_of_eq (PySem.F.newCall_str_1 _) (wpAny_pure ⟨plainId_quiet (by decide +kernel) _, codeAny_builtin PySem.F.entry_str_new ?_⟩))
    rw [Around.under_plainId (by decide +kernel) _]
    rw [str_new_tree]
    refine wpAny_bind (wpAny_pure ?_)
    refine wpAny_bind (wpAny_of_eq isSubtype_str_str ?_)
    have key : wpAny (model X.prog X.w) X.A.in1.in1 (PySem.Builtin.Str.strOf (.ref a)) (fun r s₁ => ∃ y u, r = .str y u ∧ EP X pins σ Q r s₁) X.xe s := by
      unfold PySem.Builtin.Str.strOf
      rw [show isExactStr (.ref a) = false from rfl]
      refine wpAny_bind (m := cRoomFor _ _) (wpAny_cRoomFor hr2.units0 ?_)
      refine wpAny_bind (m := callSpecial? (.ref a) (Str.ofString "__str__")) (special_fn I.kIn J hs (beq_iff_eq.mp hf) (wpAny_mono (wpAny_call (SlX.run_at (us := [.ref a]) (ws := [.ref a]) F hr2 I.env0.in1.in1 hx I (.cons rfl .nil) q)) (fun r s' z => ?_) fun _ _ y => y))
      obtain ⟨z', H', I', rz, y, ez, qz⟩ := z
      subst ez
      obtain ⟨t, e⟩ := (show ∃ t, r = Value.str y t from rz)
      cases e
      exact wpAny_pure ⟨_, _, rfl, .str y, H', I', ⟨t, rfl⟩, qz⟩
    exact wpAny_bind (wpAny_mono key (fun r s₁ hr => wpAny_pure hr) fun _ _ y => y)
  · rintro obj s₁ ⟨y, u, rfl, hq⟩
    exact ⟨typeIs_str _ _ _, PySem.F.args_object_init_2 _ _, object_init_meets PySem.F.called_str.init.lookup PySem.F.called_str.made (by decide) X.prog X.w X.A.in1 _ s₁ ⟨typeIs_str _ _ _, rfl, hq⟩⟩
end
section
variable {P : Program} {w : World} {K : PySem.W.Frag} {mg : Str → Option Value} {base : Heap}
abbrev Fn (P : Program) (w : World) (K : PySem.W.Frag) (mg : Str → Option Value) (base : Heap) (k : Nat) (f : Addr) (sp : Sp) : Prop := FnR P w K mg base (L2.CX P w) k f sp
/-- what a call lets out is what the def lets out -/
theorem pc {N : List Str} {qual : Str} {scope : Scope} {f : Addr} {cd : Value} {A : Around} {outer : List Env} {s : Shared} {H : Hp} {E : XK} (h : scope.kind = .function := by rfl) : Passes (L2.CX P w) (cxOf (L2.CX P w) P w K mg base N qual scope f cd A outer s H E) E :=
  passes_call (takes_of rfl rfl rfl rfl) (fun _ _ _ _ h => h)
theorem fn_def {x qual : Str} {st : Stmt} {f : Addr} {N ps : List Str} {k : Nat} {sp : Sp} (D : ∃ fd, FunD K x qual (defArgs st) (defBody st) (defScope st) [] [] f fd) (S : FnScope N ps (defScope st))
    (hb : ∀ (kV doc pm : Value) (an : Option Addr) (cdv ct : Value) (us : List Value), us.length = ps.length → bindArgs (PySem.W.fnOf x qual (defArgs st) (defBody st) (defScope st) .none kV doc pm an cdv ct) ⟨us, []⟩ = pure (ps.zip us))
    (len : ∀ vs H Q E, sp vs H Q E → vs.length = ps.length)
    (hbody : ∀ (cdv : Value) (A : Around) (outer : List Env) (s : Shared) (H : Hp) (vs : List V) (Q : VK) (E : XK), Room k (A.deeper (envOfC qual (defScope st) s.heap.objs.size f cdv)) → sp vs H Q E →
      ∃ t, PSs (cxOf (L2.CX P w) P w K mg base N qual (defScope st) f cdv A outer s H E) (defBody st) t ∧ t { nx := fun _ H' => Q .non H', rt := Q } (start N vs) H) : Fn P w K mg base (k + 1) f sp := by
  obtain ⟨fd, F⟩ := D
  exact (FnOk.raw (F.ok S len hbody) (F.bindsN hb) (dvs := []) .nil).imp (fun vs H Q E h => by simpa using h)
theorem pe_gr {X : Cx} {x : Str} {a : Addr} {pos : Pos} (hm : X.mg x = some (.ref a)) (hg : Gl X x := by rfl) (hd : (x == ("__debug__" : Str)) = false := by decide) : PE X (.Name x pos) (tC (.ref a)) := pe_glob hg hm rfl hd
/-! ### further rules -/
theorem kp_of {x qual : Str} {st : Stmt} {f : Addr} {dvs : List V} (D : ∃ fd, FunD K x qual (defArgs st) (defBody st) (defScope st) dvs [] f fd) : PySem.W.keepIn K (.ref f) = true := by
  obtain ⟨fd, F⟩ := D
  exact F.kp
theorem pe_fn {X : Cx} {CX : CXT} {k : Nat} {f : Addr} {sp : Sp} {E : XK} {x x' qual : Str} {st : Stmt} {dvs : List V} {e : Expr} {es : List Expr} {t : TA} {p pos : Pos} (D : ∃ fd, FunD X.K x' qual (defArgs st) (defBody st) (defScope st) dvs [] f fd)
    (F : FnR X.prog X.w X.K X.mg X.base CX k f sp) (hr : Room k X.A) (hm : X.mg x = some (.ref f)) (hx : Passes CX X E) (ha : PA X (e :: es) t) (hg : Gl X x := by rfl) (hdb : (x == ("__debug__" : Str)) = false := by decide)
    (he : starEach (e :: es) X.env = (false, eval e X.env) :: starEach es X.env := by rfl) (hpl : (backTo pos (starEach es X.env)).any (·.1) = false := by rfl) :
    PE X (.Call (.Name x p) (e :: es) [] pos) (fun σ H Q => t σ H fun vs H1 => sp vs H1 Q E) := by
  refine ⟨fun pins s σ H Q I h => ?_⟩
  refine wpAny_Call_Name_kw (ld_glob I hg hm ?_ hdb)
  refine PySem.W.callWith_K (h₀ := X.base) I.ok.mod.kin (kp_of D) (thn (ha.run pos pins s σ H _ I h) fun us s1 ⟨vs, H1, I1, r, q⟩ => ⟨I1.kIn, ?_⟩) he hpl
  exact wpAny_call (run_fnR F hr hx I1 r q)
theorem pe_methR0 {X : Cx} {CX : CXT} {k : Nat} {C f : Addr} {m : Str} {sp : Sp} {E : XK} {o : Expr} {ta : TE} {apos pos : Pos} {pl : Sem Bool} (he : PE X o ta) (c : Cls X.K C) (hm : Meth X.K C m f)
    (F : FnR X.prog X.w X.K X.mg X.base CX k f sp) (hr : Room k X.A) (hx : Passes CX X E)
    (ht : eval (.Call (.Attribute o m apos) [] [] pos) X.env = (do
      let ov ← eval o X.env
      standAt apos.atName
      let (f, first) ← holding [ov] (getMethod ov m pl)
      callWith pos f first (backTo pos (starEach [] X.env)) (backToKw pos (keywordEach [] X.env))) := by rfl) :
    PE X (.Call (.Attribute o m apos) [] [] pos) (tMethR C m sp E ta tNil) := by
  refine ⟨fun pins s σ H Q I h => ?_⟩
  refine PySem.W.methodCall_KW (pl := pl) (thn (he.run pins s σ H _ I h) fun u s1 ⟨x, H1, I1, rx, a, dx, fs, ex, ea, l, q⟩ => ?_) ht
  subst ex
  obtain rfl : u = Value.ref a := rx
  refine getmeth_ok I1 ea c hm l ?_
  exact PySem.W.callWith_K0 (first := [.ref a]) I1.kIn hm.kp (wpAny_call (run_fnR (us := [.ref a]) (vs := [.ref a]) F hr hx I1 (.cons rfl .nil) q))
theorem pe_gi {X : Cx} {x : Str} {i : Int} {pos : Pos} (h : ∃ t, X.mg x = some (.int i t)) (hg : Gl X x := by rfl) (hd : (x == ("__debug__" : Str)) = false := by decide) : PE X (.Name x pos) (tC (.int i)) := by
  obtain ⟨t, hm⟩ := h
  exact pe_glob hg hm ⟨_, rfl⟩ hd
theorem pe_gs {X : Cx} {x z : Str} {pos : Pos} (h : ∃ t, X.mg x = some (.str z t)) (hg : Gl X x := by rfl) (hd : (x == ("__debug__" : Str)) = false := by decide) : PE X (.Name x pos) (tC (.str z)) := by
  obtain ⟨t, hm⟩ := h
  exact pe_glob hg hm ⟨_, rfl⟩ hd
theorem run_makeR0 {X : Cx} {CX : CXT} {k : Nat} {f C : Addr} {sp : Sp} {E : XK} {pins : List (Addr × Obj)} {σ : L2.St} {H : Hp} {s : Shared} {Q : VK} (M : Mk X.K C f) (F : FnR X.prog X.w X.K X.mg X.base CX k f sp) (hr : Room (k + 1) X.A) (hx : Passes CX X E) (I : Inv X pins σ H s)
    (h : ∀ x dx, H x = Option.none → H dx = Option.none → dx ≠ x → sp [V.ref x] (upd (upd H dx (.own x)) x (.ins C dx [])) (fun v H2 => v = .non ∧ Q (.ref x) H2) E) :
    wpAny (model X.prog X.w) X.A (call (.ref C) []) (EP X pins σ Q) X.xe s := StX.run_makeR M F hr hx I .nil h
end
/-! ### calls in a try: what is let out is wished for at the slots -/
section
variable {X : Cx} {CX : CXT} {k : Nat} {f C : Addr} {sp : Sp} {E : L2.St → XK} {x : Str} {e : Expr} {es : List Expr} {t : TA} {p pos : Pos}
theorem run_makeRS {pins : List (Addr × Obj)} {σ : L2.St} {H : Hp} {s : Shared} {Q : VK} {us : List Value} {vs : List V} {E : XK} (M : Mk X.K C f) (F : FnR X.prog X.w X.K X.mg X.base CX k f sp) (hr : Room (k + 1) X.A) (hx : PassesAt CX X σ E) (I : Inv X pins σ H s) (r : Vals vs us)
    (h : ∀ x dx, H x = Option.none → H dx = Option.none → dx ≠ x → sp (V.ref x :: vs) (upd (upd H dx (.own x)) x (.ins C dx [])) (fun v H2 => v = .non ∧ Q (.ref x) H2) E) :
    wpAny (model X.prog X.w) X.A (call (.ref C) us) (EP X pins σ Q) X.xe s := by
  have hq := h (s.heap.objs.size + 1) s.heap.objs.size (I.hok.fresh (Nat.le_succ _)) (I.hok.fresh (Nat.le_refl _)) (Nat.ne_of_lt (Nat.lt_succ_self _))
  have I2 := Inv.made (C := C) I
  have r2 : Vals (V.ref (s.heap.objs.size + 1) :: vs) (Value.ref (s.heap.objs.size + 1) :: us) := .cons rfl r
  refine wpAny_call (make_map (f := f) I.kIn M.makes M.init (beq_iff_eq.mp M.fn) (codeAny_mono (F _ X.stack _ _ (Value.ref (s.heap.objs.size + 1) :: us) _ _ E (hr.make C us []) (I2.env0.make C us []) r2 hq) fun r s' hq' => ?_))
  cases r with
  | error e => exact hx pins _ _ e s' I2 hq'
  | ok fl =>
    cases fl with
    | ret u =>
      obtain ⟨v, H', I3, rv, ev, q3⟩ := I2.after hq'
      subst ev
      exact ⟨rv, ⟨V.ref (s.heap.objs.size + 1), H', I3, rfl, q3⟩⟩
    | next => exact False.elim hq'
    | brk => exact False.elim hq'
    | cont => exact False.elim hq'
def tMakeRS (C : Addr) (sp : Sp) (E : L2.St → XK) (t : TA) : TE := fun σ H Q => StX.tMakeR C sp (E σ) t σ H Q
theorem pe_makeRS (M : Mk X.K C f) (F : FnR X.prog X.w X.K X.mg X.base CX k f sp) (hr : Room (k + 1) X.A) (hg : Gl X x) (hm : X.mg x = some (.ref C)) (hx : ∀ σ, PassesAt CX X σ (E σ)) (ha : PA X (e :: es) t) (hdb : (x == ("__debug__" : Str)) = false := by decide)
    (he : starEach (e :: es) X.env = (false, eval e X.env) :: starEach es X.env := by rfl) (hpl : (backTo pos (starEach es X.env)).any (·.1) = false := by rfl) : PE X (.Call (.Name x p) (e :: es) [] pos) (tMakeRS C sp E t) := by
  refine ⟨fun pins s σ H Q I h => ?_⟩
  refine wpAny_Call_Name_kw (ld_glob I hg hm ?_ hdb)
  refine PySem.W.callWith_K (h₀ := X.base) I.ok.mod.kin M.kp (thn (ha.run pos pins s σ H _ I h) fun us s1 ⟨vs, H1, I1, r, q⟩ => ⟨I1.kIn, ?_⟩) he hpl
  exact run_makeRS M F hr (hx σ) I1 r q
theorem run_fnRS {pins : List (Addr × Obj)} {σ : L2.St} {H : Hp} {s : Shared} {E : XK} {Q : VK} {us : List Value} {vs : List V} (F : FnR X.prog X.w X.K X.mg X.base CX k f sp) (hr : Room k X.A) (hx : PassesAt CX X σ E) (I : Inv X pins σ H s) (r : Vals vs us) (h : sp vs H Q E) :
    codeAny (model X.prog X.w) X.A (.call (.ref f) ⟨us, []⟩) (fun r s' => match r with | .ok (.ret v) => EP X pins σ Q v s' | .ok _ => False | .error e => X.xe e s') s := by
  refine codeAny_mono (F X.A X.stack s H us vs Q E hr I.env0 r h) fun r s' hq => ?_
  cases r with
  | error e => exact hx pins H s e s' I hq
  | ok fl =>
    cases fl with
    | ret u => exact I.after hq
    | next => exact hq.elim
    | brk => exact hq.elim
    | cont => exact hq.elim
def tMethRS (C : Addr) (m : Str) (sp : Sp) (E : L2.St → XK) (ta : TE) (t : TA) : TE := fun σ H Q => tMethR C m sp (E σ) ta t σ H Q
theorem pe_methRS {m : Str} {o : Expr} {ta : TE} {apos : Pos} {pl : Sem Bool} (he : PE X o ta) (c : Cls X.K C) (hm : Meth X.K C m f)
    (F : FnR X.prog X.w X.K X.mg X.base CX k f sp) (hr : Room k X.A) (hx : ∀ σ, PassesAt CX X σ (E σ)) (ha : PA X (e :: es) t)
    (hst : starEach (e :: es) X.env = (false, eval e X.env) :: starEach es X.env := by rfl) (hpl : (backTo pos (starEach es X.env)).any (·.1) = false := by rfl)
    (ht : eval (.Call (.Attribute o m apos) (e :: es) [] pos) X.env = (do
      let ov ← eval o X.env
      standAt apos.atName
      let (f, first) ← holding [ov] (getMethod ov m pl)
      callWith pos f first (backTo pos (starEach (e :: es) X.env)) (backToKw pos (keywordEach [] X.env))) := by rfl) :
    PE X (.Call (.Attribute o m apos) (e :: es) [] pos) (tMethRS C m sp E ta t) := by
  refine ⟨fun pins s σ H Q I h => ?_⟩
  refine PySem.W.methodCall_KW (pl := pl) (thn (he.run pins s σ H _ I h) fun u s1 ⟨x, H1, I1, rx, a, dx, fs, ex, ea, l, q⟩ => ?_) ht
  subst ex
  obtain rfl : u = Value.ref a := rx
  refine getmeth_ok I1 ea c hm l ?_
  refine PySem.W.callWith_K (first := [.ref a]) (h₀ := X.base) I.ok.mod.kin hm.kp (thn (ha.run pos pins s1 σ H1 _ I1 q) fun us s2 ⟨vs, H2, I2, r, q2⟩ => ⟨I2.kIn, ?_⟩) hst hpl
  exact wpAny_call (run_fnRS (us := .ref a :: us) (vs := .ref a :: vs) F hr (hx σ) I2 (.cons rfl r) q2)
/-! ### the same rules with the written part by name (in a try) -/
theorem ixk_tup {X : Cx} (K : PySem.W.Frag) (h : X.K = K := by rfl) : IxR X (rIxT K) := by subst h; exact ix_tup
theorem ixk_list {X : Cx} (K : PySem.W.Frag) (h : X.K = K := by rfl) : IxR X (rIxL K) := by subst h; exact ix_list
theorem callk_isi {X : Cx} (K : PySem.W.Frag) (h : X.K = K := by rfl) : CallR X (.builtin "isinstance") (rIsi K) := by subst h; exact call_isi
theorem pek_fld {X : Cx} (K : PySem.W.Frag) {e : Expr} {ta : TE} {f : Str} {pos : Pos} (ha : PE X e ta) (hb : attributeBase e f X.env (eval e X.env) = eval e X.env) (h : X.K = K := by rfl) : PE X (.Attribute e f pos) (tFld K ta f) := by subst h; exact pe_fld ha hb
/-- a suite that is read under a condition -/
theorem pss_given {p : Prop} {st : List Stmt} {t : TS} (h : p → PSs X st t) : PSs X st (fun D σ H => p ∧ t D σ H) := ⟨fun pins s σ H D I hw => (h hw.1).run pins s σ H D I hw.2⟩
/-- isinstance(e, (c1, ..)), e the exception that the suite holds -/
def rIsET (K : PySem.W.Frag) (D a : Addr) : List V → Hp → VK → Prop := fun xs H Q => ∃ (tp : Addr) (cs : List V) (us : List Value) (b : Bool), xs = [.ref a, .ref tp] ∧ H tp = some (.tup cs) ∧ Paired ClsV cs us ∧ PySem.W.kitAny K (.ref D) us = some b ∧ Q (.bl b) H
theorem call_isET {a D : Addr} {oe : Obj} {pn : List (Addr × Obj)} (C : ExcC X.K D) (hz : Zc (.ref D) none oe) (hf : ∃ vs, oe.data = .fields vs) : CallR (X.suite a ((a, oe) :: pn)) (.builtin "isinstance") (rIsET X.K D a) := by
  intro pins s σ H xs us Q I r h
  obtain ⟨tp, cs, ws, b, rfl, hT, k, e, q⟩ := h
  obtain ⟨u1, u2, rfl, r1, r2⟩ := vals2 r
  cases (show u1 = Value.ref a from r1)
  cases (show u2 = Value.ref tp from r2)
  obtain ⟨_, its, rv, o, h1, h2, n, h3⟩ := (show ObjOk X.prog X.w H s.heap tp (.tup cs) from I.hok tp _ hT)
  have e3 := ClsV.all k rv
  subst e3
  obtain ⟨oc, od, dt, sl⟩ := o
  simp only at h2 h3
  subst h2 h3
  obtain ⟨hget, _⟩ := I.pin (a, oe) (List.mem_append.mpr (.inl List.mem_cons_self))
  obtain ⟨vs, hv⟩ := hf
  have J : PySem.W.InstAt s.heap a oe D none := by
    obtain ⟨oc, od, oda, osl⟩ := oe
    obtain ⟨h1, h2⟩ := hz
    dsimp only at h1 h2 hv
    subst h1 h2 hv
    exact ⟨hget, rfl, rfl, trivial⟩
  exact PySem.W.kia_tup (PySem.W.handS_kitx_exc C.hg C.hk C.hs C.hd C.ha C.hn C.ht C.hm) I.kIn J h1 e (fun z => nomatch z) fun tk => ⟨.bl b, H, I.kept (t' := tk) fun _ _ z => z, rfl, q⟩
theorem callk_isE (K : PySem.W.Frag) {a D : Addr} {oe : Obj} {pn : List (Addr × Obj)} (C : ExcC K D) (hz : Zc (.ref D) none oe) (hf : ∃ vs, oe.data = .fields vs) (h : X.K = K := by rfl) : CallR (X.suite a ((a, oe) :: pn)) (.builtin "isinstance") (rIsE K D a) := by subst h; exact call_isE C hz hf
theorem callk_isET (K : PySem.W.Frag) {a D : Addr} {oe : Obj} {pn : List (Addr × Obj)} (C : ExcC K D) (hz : Zc (.ref D) none oe) (hf : ∃ vs, oe.data = .fields vs) (h : X.K = K := by rfl) : CallR (X.suite a ((a, oe) :: pn)) (.builtin "isinstance") (rIsET K D a) := by subst h; exact call_isET C hz hf
end
end LL
namespace LL
open PySem PySem.Spec PyProof.Rows L2 He Evl
/-! ### the law's pool of draws -/
structure Pl where
  cells : List Int
  at_ : Addr
  ix : Nat
  big : Int
  st : Int
  run : Int
  bud : Int
def Pl.l (P : Pl) : List V := [.ref P.at_, .int P.ix, .int P.big, .int P.st, .int P.run, .int P.bud]
/-- the pool P stands at p -/
structure PoolAt (H : Hp) (p : Addr) (P : Pl) : Prop where
  l : H p = some (.lst P.l)
  c : H P.at_ = some (.lst (P.cells.map V.int))
  n : P.cells.length ≤ 63
theorem PoolAt.ne {H : Hp} {p : Addr} {P : Pl} (h : PoolAt H p P) : P.at_ ≠ p := by
  intro e
  have h1 := h.c
  rw [e, h.l] at h1
  simp only [Option.some.injEq, HO.lst.injEq, Pl.l] at h1
  cases hc : P.cells with
  | nil => rw [hc] at h1; simp at h1
  | cons a r => rw [hc] at h1; simp at h1
/-- all but what stands at p is as it was -/
def But (p : Addr) (H H' : Hp) : Prop := ∀ b o, b ≠ p → H b = some o → H' b = some o
theorem But.refl {p : Addr} (H : Hp) : But p H H := fun _ _ _ h => h
theorem But.trans {p : Addr} {H H1 H2 : Hp} (a : But p H H1) (b : But p H1 H2) : But p H H2 := fun c o n h => b c o n (a c o n h)
theorem But.same {p : Addr} {H H' : Hp} (e : Same H H') : But p H H' := fun b o _ h => e b o h
theorem But.upd {p : Addr} {H : Hp} {o : HO} : But p H (upd H p o) := fun b _ n h => (upd_ne n).trans h
theorem But.put {p : Addr} {H H' : Hp} {o : HO} (h : But p H H') : But p H (L2.upd H' p o) := h.trans .upd
theorem PoolAt.put {H : Hp} {p : Addr} {P P' : Pl} (h : PoolAt H p P) (e : P'.at_ = P.at_ ∧ P'.cells = P.cells) : PoolAt (upd H p (.lst P'.l)) p P' :=
  ⟨upd_same, by rw [e.1, e.2, upd_ne h.ne]; exact h.c, by rw [e.2]; exact h.n⟩
theorem PoolAt.mono {H H' : Hp} {p : Addr} {P : Pl} (e : Same H H') (h : PoolAt H p P) : PoolAt H' p P := ⟨e _ _ h.l, e _ _ h.c, h.n⟩
def spPool (K : PySem.W.Frag) : Sp := fun vs H Q _ => ∃ (a : Addr) (ns : List Int) (b : Int), vs = [.ref a, .int b] ∧ SqL K H a (ns.map V.int) ∧ ns.length ≤ 63 ∧ ∀ p H' P, Same H H' → H p = none → H P.at_ = none → PoolAt H' p P → P.bud = b → Q (.ref p) H'
/-- _law_draw(pool, n): some number from 0 to n - 1, the pool changed -/
def spDraw : Sp := fun vs H Q _ => ∃ (p : Addr) (n : Int) (P : Pl), vs = [.ref p, .int n] ∧ PoolAt H p P ∧ 0 < n ∧ n < 1073741824 ∧
  ∀ (r : Int) (P' : Pl), 0 ≤ r → r < n → P'.at_ = P.at_ → P'.cells = P.cells → P'.bud = P.bud → Q (.int r) (upd H p (.lst P'.l))
section
variable {P : Program} {w : World} {K : PySem.W.Frag} {mg : Str → Option Value} {base : Heap}
theorem fn_l_pool (T : Txt K mg) : Fn P w K mg base 1 (ga K "_law_pool") (spPool K) := by
  refine fn_def T.d_l_pool sc_l_pool (fun _ _ _ _ _ _ us hl => match us, hl with | [_, _], _ => rfl) (fun vs H Q E h => ?_) (fun cdv A outer s H vs Q E hr h => ?_)
  · obtain ⟨a, ns, b, rfl, _⟩ := h
    rfl
  · obtain ⟨a, ns, b, rfl, hS, hz, k⟩ := h
    refine ⟨_, pss_one (ps_ret (pe_lst (pa_cons (pe_callTy call_list_of (by rfl) T.f_list (by decide +kernel) (pa_cons (pv 0) pa_nil)) (pa_cons (pe_int) (pa_cons (pe_int) (pa_cons (pe_int) (pa_cons (pe_int) (pa_cons (pv 1) pa_nil)))))))), ?_⟩
    refine ⟨_, rfl, a, _, rfl, .inl hS, fun c nc => ?_⟩
    refine ⟨_, rfl, (by show 6 ≤ sizeLine; decide), fun p np => ?_⟩
    have ncp : c ≠ p := ne_of_none upd_same np
    have np0 : H p = none := by rw [upd_ne ncp.symm] at np; exact np
    refine k p _ ⟨ns, c, 0, 0, 1, 0, b⟩ (fun x o e => ?_) np0 nc ⟨upd_same, (upd_ne ncp).trans upd_same, hz⟩ rfl
    rw [upd_ne (ne_of_none e np0), upd_ne (ne_of_none e nc)]
    exact e
theorem w_ix {σ : L2.St} {H : Hp} {Q : VK} {i : Nat} {p : Addr} {xs : List V} {k : Int} {v : V} (hp : H p = some (.lst xs)) (ha : atI xs k = some v) (q : Q v H) (hs : σ[i]? = some (some (.ref p)) := by rfl) : tOp (rIxL K) (tVar i) (tC (.int k)) σ H Q :=
  ⟨_, hs, p, xs, k, v, rfl, rfl, SqL.of hp, ha, q⟩
theorem fn_l_draw (T : Txt K mg) : Fn P w K mg base 1 (ga K "_law_draw") (spDraw) := by
  refine fn_def T.d_l_draw sc_l_draw (fun _ _ _ _ _ _ us hl => match us, hl with | [_, _], _ => rfl) (fun vs H Q E h => ?_) (fun cdv A outer s H vs Q E hr h => ?_)
  · obtain ⟨a, ns, b, rfl, _⟩ := h
    rfl
  · obtain ⟨p, n, ⟨cells, at_, ix, big, st, run, bud⟩, rfl, hP, h0, h1, k⟩ := h
    have nd := sc_l_draw.nd
    refine ⟨_, Evl.pss_cut (ps_if (PW.pt (pw_and (pt_cmpR op_le (pe_ix ix_list (pv 0) (pe_int) (fun _ _ => rfl)) (pe_int) (nomark _)) (pw_and (pt_cmpR op_le (pe_ix ix_list (pv 0) (pe_int) (fun _ _ => rfl)) (pe_int) (nomark _)) (pw_and1 (pt_cmpR op_lt (pe_ix ix_list (pv 0) (pe_int) (fun _ _ => rfl)) (pe_callB call_len_seq (by rfl) T.f_len PySem.boot_len (pa_cons (pe_ix ix_list (pv 0) (pe_int) (fun _ _ => rfl)) pa_nil)) (nomark _)))))) (pss_cons (ps_set (i := 2) nd rfl (by first | exact Or.inl rfl | exact Or.inr rfl) (pe_ix ix_list (pe_ix ix_list (pv 0) (pe_int) (fun _ _ => rfl)) (pe_ix ix_list (pv 0) (pe_int) (fun _ _ => rfl)) (fun _ _ => rfl)))
      (pss_cons (ps_asg (pe_op op_add (pe_ix ix_list (pv 0) (pe_int) (fun _ _ => rfl)) (pe_int)) (pg_sub (pv 0) (pe_int) set_list))
      (pss_cons (ps_asg (pe_op op_mod (pe_callTy call_int1 (by rfl) T.f_int (by decide +kernel) (pa_cons (pe_op op_add (pe_op op_mul (pe_ix ix_list (pv 0) (pe_int) (fun _ _ => rfl)) (pe_int)) (pv 2)) pa_nil)) (pe_int)) (pg_sub (pv 0) (pe_int) set_list))
      (pss_cons (ps_asg (pe_int) (pg_sub (pv 0) (pe_int) set_list))
      (pss_one (ps_if (pt_cmpR op_ge (pv 2) (pe_op op_pow (pe_int) (pe_int)) (nomark _)) (pss_one (ps_asg (pv 2) (pg_sub (pv 0) (pe_int) set_list))) (pss_nil))))))) (pss_nil))
      (pss_cons (ps_if (pt_cmpR op_gt (pe_ix ix_list (pv 0) (pe_int) (fun _ _ => rfl)) (pe_int) (nomark _)) (pss_cons (ps_set (i := 3) nd rfl (by first | exact Or.inl rfl | exact Or.inr rfl) (pe_op op_mod (pe_callTy call_int1 (by rfl) T.f_int (by decide +kernel) (pa_cons (pe_ix ix_list (pv 0) (pe_int) (fun _ _ => rfl)) pa_nil)) (pv 1)))
      (pss_cons (ps_asg (pe_op op_fdiv (pe_ix ix_list (pv 0) (pe_int) (fun _ _ => rfl)) (pv 1)) (pg_sub (pv 0) (pe_int) set_list))
      (pss_cons (ps_asg (pe_int) (pg_sub (pv 0) (pe_int) set_list))
      (pss_one (ps_ret (pv 3)))))) (pss_nil))
      (pss_cons (ps_asg (pe_op op_sub (pe_ix ix_list (pv 0) (pe_int) (fun _ _ => rfl)) (pe_int)) (pg_sub (pv 0) (pe_int) set_list))
      (pss_cons (ps_asg (pe_op op_mod (pe_callTy call_int1 (by rfl) T.f_int (by decide +kernel) (pa_cons (pe_op op_add (pe_op op_mul (pe_ix ix_list (pv 0) (pe_int) (fun _ _ => rfl)) (pe_int)) (pe_int)) pa_nil)) (pe_int)) (pg_sub (pv 0) (pe_int) set_list))
      (pss_one (ps_ret (pe_op op_mod (pe_op op_mod (pe_callTy call_int1 (by rfl) T.f_int (by decide +kernel) (pa_cons (pe_op op_add (pe_op op_mul (pe_ix ix_list (pv 0) (pe_int) (fun _ _ => rfl)) (pe_int)) (pe_int)) pa_nil)) (pe_int)) (pv 1))))))), ?_⟩
    have hl : H p = some (.lst [.ref at_, .int ix, .int big, .int st, .int run, .int bud]) := hP.l
    have hc : H at_ = some (.lst (cells.map V.int)) := hP.c
    have nac : at_ ≠ p := hP.ne
    refine ⟨fun σ H' => ∃ (P' : Pl) (v : Option V), σ = [some (.ref p), some (.int n), v, none] ∧ H' = upd H p (.lst P'.l) ∧ P'.at_ = at_ ∧ P'.cells = cells ∧ P'.bud = bud, ?_, ?_⟩
    · have no : ∃ (P' : Pl) (v : Option V), L2.start n_l_draw [V.ref p, V.int n] = [some (.ref p), some (.int n), v, none] ∧ H = upd H p (.lst (Pl.l P')) ∧ P'.at_ = at_ ∧ P'.cells = cells ∧ P'.bud = bud := by
        refine ⟨⟨cells, at_, ix, big, st, run, bud⟩, none, rfl, ?_, rfl, rfl, rfl⟩
        funext b
        by_cases e : b = p
        · subst e; rw [upd_same]; exact hl
        · rw [upd_ne e]
      refine ⟨_, rfl, p, _, _, _, rfl, rfl, SqL.of hl, rfl, _, _, rfl, rfl, _, rfl, ite2 (fun c1 => ?_) fun c1 => iteF no⟩
      refine ⟨_, rfl, p, _, _, _, rfl, rfl, SqL.of hl, rfl, _, _, rfl, rfl, _, rfl, ite2 (fun c2 => ?_) fun c2 => iteF no⟩
      refine ⟨_, rfl, p, _, _, _, rfl, rfl, SqL.of hl, rfl, _, rfl, p, _, _, _, rfl, rfl, SqL.of hl, rfl, at_, _, rfl, .inl (SqL.of hc), _, _, rfl, rfl, _, rfl, ite2 (fun c3 => ?_) fun c3 => no⟩
      have c3' : ix < cells.length := by
        have := of_decide_eq_true c3
        rw [List.length_map] at this
        omega
      have hx : atI (cells.map V.int) (ix : Int) = some (V.int cells[ix]) := at_of (j := ix) rfl (by rw [List.getElem?_map, List.getElem?_eq_getElem c3']; rfl)
      refine ⟨_, rfl, p, _, _, _, rfl, rfl, SqL.of hl, rfl, _, rfl, p, _, _, _, rfl, rfl, SqL.of hl, rfl, at_, _, _, _, rfl, rfl, SqL.of hc, hx, ?_⟩
      refine ⟨_, rfl, p, _, _, _, rfl, rfl, SqL.of hl, rfl, _, _, rfl, rfl, _, rfl, p, _, _, _, rfl, rfl, hl, rfl, ?_⟩
      refine ⟨_, rfl, p, _, _, _, rfl, rfl, SqL.of upd_same, rfl, _, _, rfl, rfl, .inr ⟨by decide, by decide⟩, _, rfl, _, _, rfl, rfl, .inl ⟨_, rfl, _, _, rfl, rfl, (by show (0 : Int) < 2147483647; decide), _, rfl, p, _, _, _, rfl, rfl, upd_same, rfl, ?_⟩⟩
      refine ⟨_, rfl, p, _, _, _, rfl, rfl, upd_same, rfl, ?_⟩
      refine ⟨_, rfl, _, _, rfl, rfl, ⟨by decide, by decide, by decide⟩, _, _, rfl, rfl, _, rfl, ite2 (fun c4 => ?_) fun c4 => ?_⟩
      · refine ⟨_, rfl, _, rfl, p, _, _, _, rfl, rfl, upd_same, rfl, ?_⟩
        refine ⟨⟨cells, at_, ix + 1, cells[ix], (st * 31 + cells[ix]) % 2147483647, 7, bud⟩, _, rfl, ?_, rfl, rfl, rfl⟩
        rw [upd_upd, upd_upd, upd_upd]
        rfl
      · refine ⟨⟨cells, at_, ix + 1, big, (st * 31 + cells[ix]) % 2147483647, 7, bud⟩, _, rfl, ?_, rfl, rfl, rfl⟩
        rw [upd_upd, upd_upd]
        rfl
    · rintro σ H' ⟨⟨cells', at', ix', big', st', run', bud'⟩, v, rfl, rfl, e1, e2, e3⟩
      dsimp only at e1 e2 e3
      subst e1 e2 e3
      refine ⟨_, rfl, p, _, _, _, rfl, rfl, SqL.of upd_same, rfl, _, _, rfl, rfl, _, rfl, ite2 (fun c5 => ?_) fun c5 => ?_⟩
      · refine ⟨_, rfl, p, _, _, _, rfl, rfl, SqL.of upd_same, rfl, .inl ⟨_, rfl, _, rfl, _, _, rfl, rfl, h0, ?_⟩⟩
        refine ⟨_, rfl, p, _, _, _, rfl, rfl, SqL.of upd_same, rfl, _, rfl, _, _, rfl, rfl, ⟨h0, h1⟩, _, rfl, p, _, _, _, rfl, rfl, upd_same, rfl, ?_⟩
        refine ⟨_, rfl, p, _, _, _, rfl, rfl, upd_same, rfl, _, rfl, ?_⟩
        rw [upd_upd, upd_upd]
        exact k (big' % n) ⟨cells', at', ix', big' / n, st', 0, bud'⟩ (Int.emod_nonneg _ (by omega)) (Int.emod_lt_of_pos _ h0) rfl rfl rfl
      · refine ⟨_, rfl, p, _, _, _, rfl, rfl, SqL.of upd_same, rfl, _, _, rfl, rfl, _, rfl, p, _, _, _, rfl, rfl, upd_same, rfl, ?_⟩
        refine ⟨_, rfl, p, _, _, _, rfl, rfl, SqL.of upd_same, rfl, _, _, rfl, rfl, .inr ⟨by decide, by decide⟩, _, _, rfl, rfl, .inl ⟨_, rfl, _, _, rfl, rfl, (by show (0 : Int) < 2147483647; decide), _, rfl, p, _, _, _, rfl, rfl, upd_same, rfl, ?_⟩⟩
        refine ⟨_, rfl, p, _, _, _, rfl, rfl, SqL.of upd_same, rfl, _, _, rfl, rfl, .inr ⟨by decide, by decide⟩, _, _, rfl, rfl, .inl ⟨_, rfl, _, _, rfl, rfl, (by show (0 : Int) < 2147483647; decide), _, rfl, _, _, rfl, rfl, h0, ?_⟩⟩
        rw [upd_upd, upd_upd]
        exact k _ ⟨cells', at', ix', big', (st' * 48271 + 12345) % 2147483647, run' - 1, bud'⟩ (Int.emod_nonneg _ (by omega)) (Int.emod_lt_of_pos _ h0) rfl rfl rfl
theorem PoolAt.step {H : Hp} {p : Addr} {P P' : Pl} (h : PoolAt H p P) (e1 : P'.at_ = P.at_) (e2 : P'.cells = P.cells) : PoolAt (upd H p (.lst P'.l)) p P' ∧ But p H (upd H p (.lst P'.l)) := ⟨h.put ⟨e1, e2⟩, .upd⟩
theorem at3 {a b c : V} {r : Int} (h0 : 0 ≤ r) (h1 : r < 3) : ∃ v, atI [a, b, c] r = some v ∧ (v = a ∨ v = b ∨ v = c) := by
  rcases (show r = 0 ∨ r = 1 ∨ r = 2 by omega) with rfl | rfl | rfl
  · exact ⟨_, rfl, .inl rfl⟩
  · exact ⟨_, rfl, .inr (.inl rfl)⟩
  · exact ⟨_, rfl, .inr (.inr rfl)⟩
theorem at2 {a b : V} {r : Int} (h0 : 0 ≤ r) (h1 : r < 2) : ∃ v, atI [a, b] r = some v ∧ (v = a ∨ v = b) := by
  rcases (show r = 0 ∨ r = 1 by omega) with rfl | rfl
  · exact ⟨_, rfl, .inl rfl⟩
  · exact ⟨_, rfl, .inr rfl⟩
end
section
variable {P : Program} {w : World} {K : PySem.W.Frag} {mg : Str → Option Value} {base : Heap}
/-! ### data and their kinds -/
def Dep : Nat → PyData → Prop
  | 0, .list _ => False
  | 0, .tuple _ => False
  | n + 1, .list ds => ds.length ≤ 100000 ∧ ∀ d ∈ ds, Dep n d
  | n + 1, .tuple ds => ds.length ≤ 100000 ∧ ∀ d ∈ ds, Dep n d
  | _, .dict _ => False
  | _, _ => True
def tyN : PyData → String
  | .none => "NoneType" | .bool _ => "bool" | .int _ => "int" | .str _ => "str" | .list _ => "list" | .tuple _ => "tuple" | .dict _ => "dict"
def isTup : PyData → Bool | .tuple _ => true | _ => false
def isLst : PyData → Bool | .list _ => true | _ => false
def isBoo : PyData → Bool | .bool _ => true | _ => false
def isInt : PyData → Bool | .bool _ => true | .int _ => true | _ => false
def isStr : PyData → Bool | .str _ => true | _ => false
theorem ty_dp {H : Hp} {v : V} {d : PyData} (h : Dp K H v d) : TyX K H v (.type (tyN d)) := by
  cases h with
  | non => exact .base .non
  | bl b => exact .base (.bl b)
  | int i => exact .base (.int i)
  | str x => exact .base (.str x)
  | lst hs _ =>
    rcases hs with (h | ⟨o, h⟩) | ⟨o, its, n, h, c, _⟩
    · exact .base (.lst h)
    · exact .base (.frz h)
    · exact .kList h c
  | tup hs _ =>
    rcases hs with (h | ⟨o, h⟩) | ⟨o, its, n, h, c, _⟩
    · exact .base (.tup h)
    · exact .fTuple h
    · exact .kTuple h c
theorem kit_tup (d : PyData) : PySem.W.kitOne K (.type (tyN d)) (.type "tuple") = some (isTup d) := by cases d <;> (simp only [tyN, isTup, isLst, isBoo, isInt, isStr]; exact kit_ty (by decide +kernel))
theorem kit_lst (d : PyData) : PySem.W.kitOne K (.type (tyN d)) (.type "list") = some (isLst d) := by cases d <;> (simp only [tyN, isTup, isLst, isBoo, isInt, isStr]; exact kit_ty (by decide +kernel))
theorem kit_boo (d : PyData) : PySem.W.kitOne K (.type (tyN d)) (.type "bool") = some (isBoo d) := by cases d <;> (simp only [tyN, isTup, isLst, isBoo, isInt, isStr]; exact kit_ty (by decide +kernel))
theorem kit_int (d : PyData) : PySem.W.kitOne K (.type (tyN d)) (.type "int") = some (isInt d) := by cases d <;> (simp only [tyN, isTup, isLst, isBoo, isInt, isStr]; exact kit_ty (by decide +kernel))
theorem kit_str (d : PyData) : PySem.W.kitOne K (.type (tyN d)) (.type "str") = some (isStr d) := by cases d <;> (simp only [tyN, isTup, isLst, isBoo, isInt, isStr]; exact kit_ty (by decide +kernel))
theorem dp_all_len {H : Hp} : ∀ {xs : List V} {ds : List PyData}, DpAll K H xs ds → xs.length = ds.length
  | _, _, .nil => rfl
  | _, _, .cons _ t => congrArg (· + 1) (dp_all_len t)
theorem dp_all_get {H : Hp} : ∀ {xs : List V} {ds : List PyData} {i : Nat}, DpAll K H xs ds → i < xs.length → ∃ x d, xs[i]? = some x ∧ ds[i]? = some d ∧ Dp K H x d
  | _, _, 0, .cons h _, _ => ⟨_, _, rfl, rfl, h⟩
  | _, _, i + 1, .cons _ t, l => dp_all_get (i := i) t (by simpa using l)
  | _, _, _, .nil, l => by simp at l
def isNon : PyData → Bool | .none => true | _ => false
theorem dp_non {H : Hp} {v : V} {d : PyData} (h : Dp K H v d) : decide (v = .non) = isNon d := by
  cases h <;> simp [isNon]
mutual
theorem dp_mono {H H' : Hp} (e : Ex H H') : ∀ {v : V} {d : PyData}, Dp K H v d → Dp K H' v d
  | _, _, .non => .non
  | _, _, .bl b => .bl b
  | _, _, .int i => .int i
  | _, _, .str x => .str x
  | _, _, .lst h a => .lst (ex_l e h) (dpa_mono e a)
  | _, _, .tup h a => .tup (ex_t e h) (dpa_mono e a)
theorem dpa_mono {H H' : Hp} (e : Ex H H') : ∀ {vs : List V} {ds : List PyData}, DpAll K H vs ds → DpAll K H' vs ds
  | _, _, .nil => .nil
  | _, _, .cons h a => .cons (dp_mono e h) (dpa_mono e a)
end
theorem ev_isi {σ : L2.St} {H : Hp} {ta : TE} {x : V} {d : PyData} {n : String} {b : Bool} (ha : Ev ta σ H x) (hd : Dp K H x d) (hk : PySem.W.kitOne K (.type (tyN d)) (.type n) = some b) : Ev (tCB (rIsi K) (tCons ta (tCons (tC (.ty n)) tNil))) σ H (.bl b) :=
  fun H1 e Q q => ha H1 e _ fun H2 e2 => ⟨_, _, _, _, b, rfl, ClsV.ty _, ty_dp (dp_mono (e.trans e2) hd), hk, q H2 e2⟩
theorem ev_isN {σ : L2.St} {H : Hp} {ta : TE} {x : V} {d : PyData} (ha : Ev ta σ H x) (hd : Dp K H x d) : Ev (tOp (fun x y H Q => y = .non ∧ Q (.bl (decide (x = .non))) H) ta (tC .non)) σ H (.bl (isNon d)) :=
  fun H1 e Q q => ha H1 e _ fun H2 e2 => ⟨rfl, by rw [dp_non hd]; exact q H2 e2⟩
theorem ev_eqD {σ : L2.St} {H : Hp} {ta tb : TE} {x y : V} {d f : PyData} (ha : Ev ta σ H x) (hb : Ev tb σ H y) (hd : Dp K H x d) (hf : Dp K H y f) (s1 : SeqAt.shaped d = true) (s2 : SeqAt.shaped f = true) : Ev (tOp (rEqD K) ta tb) σ H (.bl (PyData.eqv d f)) :=
  fun H1 e Q q => ha H1 e _ fun H2 e2 => hb H2 (e.trans e2) _ fun H3 e3 => ⟨d, f, dp_mono ((e.trans e2).trans e3) hd, dp_mono ((e.trans e2).trans e3) hf, s1, s2, q H3 (e2.trans e3)⟩
theorem ev_lenS {σ : L2.St} {H : Hp} {ta : TE} {a : Addr} {xs : List V} (ha : Ev ta σ H (.ref a)) (h : SqL K H a xs ∨ SqT K H a xs) : Ev (tCB (rLenS K) (tCons ta tNil)) σ H (.int (xs.length : Int)) :=
  fun H1 e Q q => ha H1 e _ fun H2 e2 => ⟨_, xs, rfl, h.imp (ex_l (e.trans e2)) (ex_t (e.trans e2)), q H2 e2⟩
open Classical in
noncomputable def same (d e : PyData) : Bool := decide (d = e)
theorem same_t {d e : PyData} (h : d = e) : same d e = true := by simp [same, h]
theorem same_f {d e : PyData} (h : d ≠ e) : same d e = false := by simp [same, h]
theorem same_of {d e : PyData} {b : Bool} (h : b = true ↔ d = e) : b = same d e := by
  cases b with
  | true => exact (same_t (h.mp rfl)).symm
  | false => exact (same_f fun z => by simpa using h.mpr z).symm
def spSame (K : PySem.W.Frag) (n : Nat) : Sp := fun vs H Q _ => ∃ (x y : V) (d e : PyData), vs = [x, y] ∧ Dp K H x d ∧ Dp K H y e ∧ Dep n e ∧ ∀ H', Ex H H' → Q (.bl (same d e)) H'
theorem sv_same {n : Nat} {H : Hp} {x y : V} {d e : PyData} (hd : Dp K H x d) (he : Dp K H y e) (hn : Dep n e) : SpV (spSame K n) [x, y] H (.bl (same d e)) :=
  fun H1 e1 Q q E => ⟨x, y, d, e, rfl, dp_mono e1 hd, dp_mono e1 he, hn, fun H' e2 => q H' e2⟩
theorem ev_fn {sp : Sp} {vs : List V} {E : XK} {ta : TA} {σ : L2.St} {H : Hp} {z : V} (h : EvA ta σ H vs) (hs : SpV sp vs H z) : Ev (fun σ H Q => ta σ H fun vs H1 => sp vs H1 Q E) σ H z := fun H1 e Q q =>
  h H1 e _ fun H2 e2 => hs H2 (e.trans e2) Q (fun H3 e3 => q H3 (e2.trans e3)) E
theorem rv_seq {H : Hp} {p : Addr} {xs : List V} {i : Int} {v : V} (h : SqL K H p xs ∨ SqT K H p xs) (ha : atI xs i = some v) : RV (fun x y H Q => rIxL K x y H Q ∨ rIxT K x y H Q ∨ rIxS x y H Q) (.ref p) (.int i) H v :=
  fun H1 e Q q => h.elim (fun h => .inl (rv_ixL h ha H1 e Q q)) (fun h => .inr (.inl (rv_ixT h ha H1 e Q q)))
theorem leaf_eq {H : Hp} {x y : V} {d e : PyData} (hd : Dp K H x d) (he : Dp K H y e) (ht : tyN d = tyN e) (h1 : isTup e = false) (h2 : isLst e = false) : scal x y = true ∧ decide (x = y) = same d e := by
  have hs : scal x y = true := by cases hd <;> cases he <;> first | rfl | (simp [tyN] at ht; done) | (simp [isTup] at h1; done) | (simp [isLst] at h2; done)
  refine ⟨hs, same_of ?_⟩
  cases hd <;> cases he <;> first | (simp [tyN] at ht; done) | (simp [isTup] at h1; done) | (simp [isLst] at h2; done) | simp
def spPrev (K : PySem.W.Frag) : Nat → Sp
  | 0 => fun _ _ _ _ => False
  | n + 1 => spSame K n
theorem dp_seq {H : Hp} {a : Addr} {e : PyData} (h : Dp K H (.ref a) e) : ∃ xs ds, DpAll K H xs ds ∧ ((e = .list ds ∧ SqL K H a xs) ∨ (e = .tuple ds ∧ SqT K H a xs)) := by
  cases h with
  | lst h1 h2 => exact ⟨_, _, h2, .inl ⟨rfl, h1⟩⟩
  | tup h1 h2 => exact ⟨_, _, h2, .inr ⟨rfl, h1⟩⟩
theorem fn_l_same (T : Txt K mg) : ∀ n, Fn P w K mg base (n + 1) (ga K "_law_same") (spSame K n) := by
  have go : ∀ n, Fn P w K mg base n (ga K "_law_same") (spPrev K n) → Fn P w K mg base (n + 1) (ga K "_law_same") (spSame K n) := by
    intro n IH
    refine fn_def T.d_l_same sc_l_same (fun _ _ _ _ _ _ us hl => match us, hl with | [_, _], _ => rfl) (fun vs H Q E h => ?_) (fun cdv A outer s H vs Q E hr h => ?_)
    · obtain ⟨a, ns, _, b, rfl, _⟩ := h
      rfl
    · obtain ⟨x, y, d, e, rfl, hd, he, hde, k⟩ := h
      have nd := sc_l_same.nd
      refine ⟨_, pss_cons (ps_if (PW.pt (pw_or (pt_val (pe_callB call_isi (by rfl) T.f_isinstance (by decide +kernel) (pa_cons (pv 1) (pa_cons (pe_bltn (v := .ty "tuple") rfl T.f_tuple (by decide +kernel) rfl) pa_nil)))) (pw_or1 (pt_val (pe_callB call_isi (by rfl) T.f_isinstance (by decide +kernel) (pa_cons (pv 1) (pa_cons (pe_bltn (v := .ty "list") rfl T.f_list (by decide +kernel) rfl) pa_nil))))))) (pss_cons (ps_if (PW.pt (pw_or (pt_cmpR op_ne (pe_callB call_isi (by rfl) T.f_isinstance (by decide +kernel) (pa_cons (pv 1) (pa_cons (pe_bltn (v := .ty "tuple") rfl T.f_tuple (by decide +kernel) rfl) pa_nil))) (pe_callB call_isi (by rfl) T.f_isinstance (by decide +kernel) (pa_cons (pv 0) (pa_cons (pe_bltn (v := .ty "tuple") rfl T.f_tuple (by decide +kernel) rfl) pa_nil))) (nomark _)) (pw_or1 (pt_cmpR op_ne (pe_callB call_isi (by rfl) T.f_isinstance (by decide +kernel) (pa_cons (pv 1) (pa_cons (pe_bltn (v := .ty "list") rfl T.f_list (by decide +kernel) rfl) pa_nil))) (pe_callB call_isi (by rfl) T.f_isinstance (by decide +kernel) (pa_cons (pv 0) (pa_cons (pe_bltn (v := .ty "list") rfl T.f_list (by decide +kernel) rfl) pa_nil))) (nomark _))))) (pss_one (ps_ret (pe_bl))) (pss_nil))
      (pss_cons (ps_if (pt_cmpR op_ne (pe_callB call_len_seq (by rfl) T.f_len PySem.boot_len (pa_cons (pv 0) pa_nil)) (pe_callB call_len_seq (by rfl) T.f_len PySem.boot_len (pa_cons (pv 1) pa_nil)) (nomark _)) (pss_one (ps_ret (pe_bl))) (pss_nil))
      (pss_cons (ps_for (passes_of rfl) rfl (pi_range1 rfl T.f_range (pa_cons (pe_callB call_len_seq (by rfl) T.f_len PySem.boot_len (pa_cons (pv 1) pa_nil)) pa_nil)) (pg_name (i := 2) nd rfl (by first | exact Or.inl rfl | exact Or.inr rfl)) (pss_one (ps_if (pt_not (pt_val (pe_fn T.d_l_same IH hr T.g_l_same pc (pa_cons (pe_ix ix_seq (pv 0) (pv 2) (fun _ _ => rfl)) (pa_cons (pe_ix ix_seq (pv 1) (pv 2) (fun _ _ => rfl)) pa_nil))))) (pss_one (ps_ret (pe_bl))) (pss_nil))))
      (pss_one (ps_ret (pe_bl)))))) (pss_nil))
      (pss_cons (ps_if (PW.pt (pw_or (pt_cmpR op_isN (pv 1) (pe_non) (nomark _)) (pw_or1 (pt_val (pe_callB call_isi (by rfl) T.f_isinstance (by decide +kernel) (pa_cons (pv 1) (pa_cons (pe_bltn (v := .ty "bool") rfl T.f_bool (by decide +kernel) rfl) pa_nil))))))) (pss_one (ps_ret (pe_and (pe_cmpR op_eq (pe_cmpR op_isN (pv 0) (pe_non) (nomark _)) (pe_cmpR op_isN (pv 1) (pe_non) (nomark _)) (nomark _)) (pe_and (pe_or (pe_cmpR op_isN (pv 1) (pe_non) (nomark _)) (pe_one (pe_callB call_isi (by rfl) T.f_isinstance (by decide +kernel) (pa_cons (pv 0) (pa_cons (pe_bltn (v := .ty "bool") rfl T.f_bool (by decide +kernel) rfl) pa_nil))))) (pe_one (pe_cmpR op_eq (pv 0) (pv 1) (nomark _))))))) (pss_nil))
      (pss_cons (ps_if (pt_val (pe_callB call_isi (by rfl) T.f_isinstance (by decide +kernel) (pa_cons (pv 1) (pa_cons (pe_bltn (v := .ty "int") rfl T.f_int (by decide +kernel) rfl) pa_nil)))) (pss_one (ps_ret (pe_and (pe_callB call_isi (by rfl) T.f_isinstance (by decide +kernel) (pa_cons (pv 0) (pa_cons (pe_bltn (v := .ty "int") rfl T.f_int (by decide +kernel) rfl) pa_nil))) (pe_and (pe_not (pe_callB call_isi (by rfl) T.f_isinstance (by decide +kernel) (pa_cons (pv 0) (pa_cons (pe_bltn (v := .ty "bool") rfl T.f_bool (by decide +kernel) rfl) pa_nil)))) (pe_one (pe_cmpR op_eq (pv 0) (pv 1) (nomark _))))))) (pss_nil))
      (pss_one (ps_ret (pe_and (pe_callB call_isi (by rfl) T.f_isinstance (by decide +kernel) (pa_cons (pv 0) (pa_cons (pe_bltn (v := .ty "str") rfl T.f_str (by decide +kernel) rfl) pa_nil))) (pe_one (pe_cmpR op_eq (pv 0) (pv 1) (nomark _)))))))), ?_⟩
      have vx : ∀ H1, Ev (tVar 0) (L2.start n_l_same [x, y]) H1 x := fun H1 => ev_var rfl
      have vy : ∀ H1, Ev (tVar 1) (L2.start n_l_same [x, y]) H1 y := fun H1 => ev_var rfl
      refine s_if (et_or (et_B (ev_isi (vy _) he (kit_tup e))) fun _ => et_B (ev_isi (vy _) he (kit_lst e))) (fun hb H1 e1 => ?_) (fun hb H1 e1 => ?_)
      · have hb' : isTup e = true ∨ isLst e = true := by
          cases h1 : isTup e with
          | true => exact .inl rfl
          | false => rw [h1] at hb; exact .inr (by simpa using hb)
        have hd1 := dp_mono e1 hd
        have he1 := dp_mono e1 he
        refine s_if (et_or (et_test (ev_op (ev_isi (vy _) he1 (kit_tup e)) (ev_isi (vx _) hd1 (kit_tup d)) (rv_ne rfl))) fun _ => et_test (ev_op (ev_isi (vy _) he1 (kit_lst e)) (ev_isi (vx _) hd1 (kit_lst d)) (rv_ne rfl))) (fun hc H2 e2 => ?_) (fun hc H2 e2 => ?_)
        · have ne : d ≠ e := fun z => by subst z; simp at hc
          exact s_ret ev_c fun H3 e3 => by rw [same_f ne] at k; exact k H3 ((e1.trans e2).trans e3)
        · have h1 : isTup e = isTup d := by
            cases h1 : isTup e <;> cases h2 : isTup d <;> rw [h1, h2] at hc <;> simp at hc ⊢
          have h2 : isLst e = isLst d := by
            cases h1 : isLst e <;> cases h2 : isLst d <;> rw [h1, h2] at hc <;> simp at hc ⊢
          have both : ∃ (a b : Addr) (xs ys : List V) (ds es : List PyData), x = .ref a ∧ y = .ref b ∧ DpAll K H xs ds ∧ DpAll K H ys es ∧ (SqL K H a xs ∨ SqT K H a xs) ∧ (SqL K H b ys ∨ SqT K H b ys) ∧ (d = e ↔ ds = es) ∧ es.length ≤ 100000 ∧ ∃ m, n = m + 1 ∧ ∀ z ∈ es, Dep m z := by
            cases he with
            | lst g1 g2 =>
              cases hd with
              | lst f1 f2 =>
                cases n with
                | zero => exact hde.elim
                | succ m => exact ⟨_, _, _, _, _, _, rfl, rfl, f2, g2, .inl f1, .inl g1, by simp, hde.1, m, rfl, hde.2⟩
              | _ => simp [isLst] at h2
            | tup g1 g2 =>
              cases hd with
              | tup f1 f2 =>
                cases n with
                | zero => exact hde.elim
                | succ m => exact ⟨_, _, _, _, _, _, rfl, rfl, f2, g2, .inr f1, .inr g1, by simp, hde.1, m, rfl, hde.2⟩
              | _ => simp [isTup] at h1
            | _ => simp [isTup, isLst] at hb'
          obtain ⟨a, b, xs, ys, ds, es, rfl, rfl, fx, fy, sx, sy, hiff, hlen, m, rfl, hdm⟩ := both
          have lx := dp_all_len fx
          have ly := dp_all_len fy
          have e12 := e1.trans e2
          have sx2 := sx.imp (ex_l e12) (ex_t e12)
          have sy2 := sy.imp (ex_l e12) (ex_t e12)
          refine s_if (et_test (ev_op (ev_lenS (vx _) sx2) (ev_lenS (vy _) sy2) (rv_ne rfl))) (fun hc H3 e3 => ?_) (fun hc H3 e3 => ?_)
          · have ne : d ≠ e := fun z => by
              have := hiff.mp z
              subst this
              simp [lx, ly] at hc
            exact s_ret ev_c fun H4 e4 => by rw [same_f ne] at k; exact k H4 ((e12.trans e3).trans e4)
          · have el : xs.length = ys.length := by
              have : (xs.length : Int) = ys.length := by simpa using hc
              omega
            have e13 := e12.trans e3
            have sy3 := sy.imp (ex_l e13) (ex_t e13)
            have sx3 := sx.imp (ex_l e13) (ex_t e13)
            refine s_forR1 (n := (ys.length : Int)) (ea_cons (ev_lenS (vy _) sy3) ea_nil) (by omega) (fun i σ' H' => Ex H H' ∧ (∃ v, σ' = [some (.ref a), some (.ref b), v]) ∧ ds.take i = es.take i) (fun H4 e4 => ⟨e13.trans e4, ⟨none, rfl⟩, rfl⟩) ?_ ?_
            · rintro i σ' H' hi ⟨e4, ⟨v, rfl⟩, ht⟩
              have hi' : i < ys.length := by omega
              obtain ⟨x1, d1, gx, gd, gp⟩ := dp_all_get fx (by omega : i < xs.length)
              obtain ⟨y1, d2, gy, ge, gq⟩ := dp_all_get fy hi'
              have sx4 := sx.imp (ex_l e4) (ex_t e4)
              have sy4 := sy.imp (ex_l e4) (ex_t e4)
              have r1 : Ev (tOp (fun x y H Q => rIxL K x y H Q ∨ rIxT K x y H Q ∨ rIxS x y H Q) (tVar 0) (tVar 2)) [some (.ref a), some (.ref b), some (.int (i : Int))] H' x1 := ev_op (ev_var rfl) (ev_var rfl) (rv_seq sx4 (atI_nat gx))
              have r2 : Ev (tOp (fun x y H Q => rIxL K x y H Q ∨ rIxT K x y H Q ∨ rIxS x y H Q) (tVar 1) (tVar 2)) [some (.ref a), some (.ref b), some (.int (i : Int))] H' y1 := ev_op (ev_var rfl) (ev_var rfl) (rv_seq sy4 (atI_nat gy))
              have td : ds.take (i + 1) = ds.take i ++ [d1] := by rw [List.take_add_one, gd]; rfl
              have te : es.take (i + 1) = es.take i ++ [d2] := by rw [List.take_add_one, ge]; rfl
              refine s_if (et_not (et_B (ev_fn (ea_cons r1 (ea_cons r2 ea_nil)) (sv_same (dp_mono e4 gp) (dp_mono e4 gq) (hdm _ (List.mem_of_getElem? ge)))))) (fun hc H5 e5 => ?_) (fun hc H5 e5 => ?_)
              · have n1 : d1 ≠ d2 := fun z => by rw [same_t z] at hc; simp at hc
                have ne : d ≠ e := fun z => by
                  have := hiff.mp z
                  subst this
                  rw [gd] at ge
                  exact n1 (Option.some.inj ge)
                exact s_ret ev_c fun H6 e6 => by rw [same_f ne] at k; exact k H6 ((e4.trans e5).trans e6)
              · have n1 : d1 = d2 := Classical.byContradiction fun z => by rw [same_f z] at hc; simp at hc
                exact ⟨e4.trans e5, ⟨_, rfl⟩, by rw [td, te, ht, n1]⟩
            · rintro σ' H' ⟨e4, ⟨v, rfl⟩, ht⟩
              have eq : ds = es := by
                have h1 : ds.take ds.length = ds := List.take_length
                have h2 : es.take es.length = es := List.take_length
                have z1 : ((ys.length : Int)).toNat = ds.length := by omega
                have z2 : ((ys.length : Int)).toNat = es.length := by omega
                rw [z1] at ht
                rw [h1] at ht
                rw [ht]
                rw [← z1, z2, h2]
              dsimp only
              exact s_ret ev_c fun H5 e5 => by rw [same_t (hiff.mpr eq)] at k; exact k H5 (e4.trans e5)
      · have n1 : isTup e = false := by cases h : isTup e <;> rw [h] at hb <;> simp at hb ⊢
        have n2 : isLst e = false := by cases h : isLst e <;> rw [h] at hb <;> simp at hb ⊢
        have hd1 := dp_mono e1 hd
        have he1 := dp_mono e1 he
        refine s_if (et_or (et_test (ev_isN (vy _) he1)) fun _ => et_B (ev_isi (vy _) he1 (kit_boo e))) (fun hc H2 e2 => ?_) (fun hc H2 e2 => ?_)
        · have hd2 := dp_mono e2 hd1
          have he2 := dp_mono e2 he1
          refine s_ret (ev_is (ev_andV (ev_op (ev_isN (vx _) hd2) (ev_isN (vy _) he2) (rv_eq rfl)) (fun h => ev_andV (ev_orV (ev_isN (vy _) he2) (fun _ => ev_isi (vx _) hd2 (kit_boo d))) (fun h2 => ev_op (vx _) (vy _) (rv_eq (leaf_eq hd2 he2 ?_ n1 n2).1)))) ?_) fun H3 e3 => k H3 ((e1.trans e2).trans e3)
          · cases d <;> cases e <;> simp [isNon, isBoo] at h h2 hc <;> rfl
          · congr 1
            by_cases ht : tyN d = tyN e
            · rw [(leaf_eq hd2 he2 ht n1 n2).2]
              cases d <;> cases e <;> simp [isNon, isBoo, tyN] at hc ht ⊢
            · rw [same_f (fun z => ht (by rw [z]))]
              cases d <;> cases e <;> simp [isNon, isBoo, tyN] at hc ht ⊢
        · refine s_if (et_B (ev_isi (vy _) (dp_mono e2 he1) (kit_int e))) (fun hi H3 e3 => ?_) (fun hi H3 e3 => ?_)
          · have hd2 := dp_mono (e2.trans e3) hd1
            have he2 := dp_mono (e2.trans e3) he1
            refine s_ret (ev_is (ev_andV (ev_isi (vx _) hd2 (kit_int d)) (fun h => ev_andV (ev_notV (ev_isi (vx _) hd2 (kit_boo d))) (fun h2 => ev_op (vx _) (vy _) (rv_eq (leaf_eq hd2 he2 ?_ n1 n2).1)))) ?_) fun H4 e4 => k H4 (((e1.trans e2).trans e3).trans e4)
            · cases d <;> cases e <;> simp [isNon, isBoo, isInt] at h h2 hc hi <;> rfl
            · congr 1
              by_cases ht : tyN d = tyN e
              · rw [(leaf_eq hd2 he2 ht n1 n2).2]
                cases d <;> cases e <;> simp [isNon, isBoo, isInt, tyN] at hc hi ht ⊢
              · rw [same_f (fun z => ht (by rw [z]))]
                cases d <;> cases e <;> simp [isNon, isBoo, isInt, tyN] at hc hi ht ⊢
          · have hd2 := dp_mono (e2.trans e3) hd1
            have he2 := dp_mono (e2.trans e3) he1
            have es : ∃ s, e = .str s := by cases he <;> simp [isNon, isBoo, isInt, isTup, isLst] at hc hi n1 n2 ⊢
            obtain ⟨z, rfl⟩ := es
            refine s_ret (ev_is (ev_andV (ev_isi (vx _) hd2 (kit_str d)) (fun h => ev_op (vx _) (vy _) (rv_eq (leaf_eq hd2 he2 ?_ n1 n2).1))) ?_) fun H4 e4 => k H4 (((e1.trans e2).trans e3).trans e4)
            · cases d <;> simp [isStr] at h <;> rfl
            · congr 1
              by_cases ht : tyN d = tyN (.str z)
              · rw [(leaf_eq hd2 he2 ht n1 n2).2]
                cases d <;> simp [isStr, tyN] at ht ⊢
              · rw [same_f (fun z => ht (by rw [z]))]
                cases d <;> simp [isStr, tyN] at ht ⊢
  intro n
  induction n with
  | zero => exact go 0 (fun _ _ _ _ _ _ _ _ _ _ _ h => h.elim)
  | succ n ih => exact go (n + 1) ih
end
end LL
namespace LL
open PySem PySem.Spec PyProof.Rows L2 He Evl
/-! ### readings that give some value of which a thing is true -/
abbrev VP := V → Hp → Prop
def Mono (P : VP) : Prop := ∀ v H H', Ex H H' → P v H → P v H'
def EvP (te : TE) (σ : L2.St) (H : Hp) (R : VP) : Prop := ∀ H1, Ex H H1 → ∀ Q : VK, (∀ v H2, Ex H1 H2 → R v H2 → Q v H2) → te σ H1 Q
def SpP (sp : Sp) (vs : List V) (H : Hp) (R : VP) : Prop := ∀ (Q : VK) (E : XK), (∀ v H2, Ex H H2 → R v H2 → Q v H2) → sp vs H Q E
section
variable {σ : L2.St} {H H' : Hp} {te ta tb : TE} {R R1 R2 : VP} {D : Ends} {i : Nat} {v : V} {sp : Sp} {E : XK}
theorem EvP.mono (e : Ex H H') (h : EvP te σ H R) : EvP te σ H' R := fun H1 a Q q => h H1 (e.trans a) Q q
theorem ev_p (h : Ev te σ H v) : EvP te σ H (fun w _ => w = v) := fun H1 e Q q => h H1 e Q fun H2 e2 => q v H2 e2 rfl
theorem EvP.ev (h : EvP te σ H (fun w _ => w = v)) : Ev te σ H v := fun H1 e Q q => h H1 e Q fun w H2 e2 z => by subst z; exact q H2 e2
theorem EvP.imp (h : EvP te σ H R) (f : ∀ v H1, Ex H H1 → R v H1 → R1 v H1) : EvP te σ H R1 := fun H1 e Q q => h H1 e Q fun w H2 e2 z => q w H2 e2 (f w H2 (e.trans e2) z)
theorem evp_var (h : σ[i]? = some (some v)) (m : Mono R) (r : R v H) : EvP (tVar i) σ H R := fun H1 e _ q => ⟨v, h, q v H1 (Ex.refl H1) (m _ _ _ e r)⟩
theorem s_asgP (h : EvP te σ H R) (k : ∀ v H1, Ex H H1 → R v H1 → D.nx (σ.set i (some v)) H1) : tAsg te (gName i) D σ H := h H (Ex.refl H) _ fun v H1 e r => k v H1 e r
theorem s_retP (h : EvP te σ H R) (k : ∀ v H1, Ex H H1 → R v H1 → D.rt v H1) : tRet te D σ H := h H (Ex.refl H) _ fun v H1 e r => k v H1 e r
theorem evp_fn1 (h1 : EvP ta σ H R1) (hs : ∀ x H1, Ex H H1 → R1 x H1 → SpP sp [x] H1 R) : EvP (fun σ H Q => tCons ta tNil σ H fun vs H1 => sp vs H1 Q E) σ H R := fun H1 e Q q =>
  h1 H1 e _ fun x H2 e2 r1 => hs x H2 (e.trans e2) r1 Q E fun v H3 e3 r => q v H3 (e2.trans e3) r
theorem evp_fn2 (h1 : EvP ta σ H R1) (m1 : Mono R1) (h2 : EvP tb σ H R2) (hs : ∀ x y H1, Ex H H1 → R1 x H1 → R2 y H1 → SpP sp [x, y] H1 R) : EvP (fun σ H Q => tCons ta (tCons tb tNil) σ H fun vs H1 => sp vs H1 Q E) σ H R := fun H1 e Q q =>
  h1 H1 e _ fun x H2 e2 r1 => h2 H2 (e.trans e2) _ fun y H3 e3 r2 => hs x y H3 ((e.trans e2).trans e3) (m1 _ _ _ e3 r1) r2 Q E fun v H4 e4 r => q v H4 ((e2.trans e3).trans e4) r
theorem evp_op {r : L2.R2} (h1 : EvP ta σ H R1) (m1 : Mono R1) (h2 : EvP tb σ H R2) (hs : ∀ x y H1, Ex H H1 → R1 x H1 → R2 y H1 → ∀ Q : VK, (∀ v H2, Ex H1 H2 → R v H2 → Q v H2) → r x y H1 Q) : EvP (tOp r ta tb) σ H R := fun H1 e Q q =>
  h1 H1 e _ fun x H2 e2 r1 => h2 H2 (e.trans e2) _ fun y H3 e3 r2 => hs x y H3 ((e.trans e2).trans e3) (m1 _ _ _ e3 r1) r2 Q fun v H4 e4 r => q v H4 ((e2.trans e3).trans e4) r
theorem mono_eq : Mono (fun w _ => w = v) := fun _ _ _ _ h => h
end
end LL
namespace LL
open PySem PySem.Spec PyProof.Rows L2 He Evl
/-! ### a base that never changes beside cells that do: B is part of H, B2 of H2; B2 has B's things and new ones; of the rest only the cells ms may have changed -/
structure Stp (ms : List Addr) (B H B2 H2 : Hp) : Prop where
  base : Ex B B2
  in_ : Ex B2 H2
  nw : ∀ b, B b = none → H b ≠ none → B2 b = none
  fr : ∀ b o, b ∉ ms → H b = some o → H2 b = some o
  al : ∀ b, H b ≠ none → H2 b ≠ none
theorem ex_none {B H : Hp} {b : Addr} (e : Ex B H) (h : H b = none) : B b = none := fresh_back e h
namespace Stp
variable {ms ns : List Addr} {B H B2 H2 B3 H3 : Hp} {p : Addr} {o u : HO}
theorem refl (e : Ex B H) : Stp ms B H B H := ⟨Ex.refl B, e, fun _ h _ => h, fun _ _ _ h => h, fun _ h => h⟩
theorem trans (a : Stp ms B H B2 H2) (b : Stp ms B2 H2 B3 H3) : Stp ms B H B3 H3 :=
  ⟨a.base.trans b.base, b.in_, fun c h1 h2 => b.nw c (a.nw c h1 h2) (a.al c h2), fun c o n h => b.fr c o n (a.fr c o n h), fun c h => b.al c (a.al c h)⟩
theorem wk (a : Stp ms B H B2 H2) (h : ∀ x ∈ ms, x ∈ ns) : Stp ns B H B2 H2 := ⟨a.base, a.in_, a.nw, fun b o n => a.fr b o fun z => n (h b z), a.al⟩
theorem nil (a : Stp [] B H B2 H2) : Stp ns B H B2 H2 := a.wk fun _ h => nomatch h
/-- a new thing of the base -/
theorem new (e : Ex B H) (h : H p = none) : Stp ms B H (upd B p o) (upd H p o) :=
  ⟨Ex.new (ex_none e h), fun b u hb => by
      by_cases z : b = p
      · subst z; rw [upd_same] at hb ⊢; exact hb
      · rw [upd_ne z] at hb ⊢; exact e b u hb,
    fun b h1 h2 => by rw [upd_ne (fun z => by subst z; exact h2 h)]; exact h1,
    fun b u _ hb => by rw [upd_ne (ne_of_none hb h)]; exact hb,
    fun b hb => by
      by_cases z : b = p
      · subst z; rw [upd_same]; exact fun q => nomatch q
      · rw [upd_ne z]; exact hb⟩
/-- a new cell beside the base -/
theorem cell (e : Ex B H) (h : H p = none) : Stp ms B H B (upd H p o) :=
  ⟨Ex.refl B, Ex.mut e (ex_none e h), fun _ h1 _ => h1, fun b u _ hb => by rw [upd_ne (ne_of_none hb h)]; exact hb,
    fun b hb => by
      by_cases z : b = p
      · subst z; rw [upd_same]; exact fun q => nomatch q
      · rw [upd_ne z]; exact hb⟩
/-- a store to a cell -/
theorem put (e : Ex B H) (h : B p = none) (m : p ∈ ms) : Stp ms B H B (upd H p o) :=
  ⟨Ex.refl B, Ex.mut e h, fun _ h1 _ => h1, fun b u hn hb => by rw [upd_ne (fun z => hn (by rw [z]; exact m))]; exact hb,
    fun b hb => by
      by_cases z : b = p
      · subst z; rw [upd_same]; exact fun q => nomatch q
      · rw [upd_ne z]; exact hb⟩
/-- a cell becomes a thing of the base -/
theorem keep (e : Ex B H) (h : H p = some o) (hb : B p = none) : Ex B (upd B p o) ∧ Ex (upd B p o) H :=
  ⟨Ex.new hb, fun b u q => by
    by_cases z : b = p
    · subst z; rw [upd_same] at q; rw [h]; exact q
    · rw [upd_ne z] at q; exact e b u q⟩
/-- what is no thing of the base and was there is no thing of the new base -/
theorem off (a : Stp ms B H B2 H2) (h : B p = none) (h2 : H p = some o) : B2 p = none := a.nw p h (by rw [h2]; exact fun q => nomatch q)
theorem ne (a : Stp ms B H B2 H2) (h : H p = some o) (h2 : H2 p = none) : False := a.al p (by rw [h]; exact fun q => nomatch q) h2
/-- from another's step: what stood is as it was -/
theorem ofEx (e : Ex B H) (x : Ex H H2) : Stp ms B H B H2 := ⟨Ex.refl B, e.trans x, fun _ h _ => h, fun b o _ h => x b o h, fun b h q => by
  cases hb : H b with
  | none => exact h hb
  | some o => rw [x b o hb] at q; cases q⟩
end Stp
/-- a step of a def that began with the local cell p (not known to its caller): the caller sees none of it -/
theorem Stp.drop {ms : List Addr} {B H B2 H2 : Hp} {p : Addr} (a : Stp (p :: ms) B H B2 H2) (h : H p = none) : Stp ms B H B2 H2 :=
  ⟨a.base, a.in_, a.nw, fun b o n hb => a.fr b o (fun z => by
    rcases List.mem_cons.mp z with e | e
    · subst e; rw [h] at hb; cases hb
    · exact n e) hb, a.al⟩
/-- behind the making of a local cell: the whole way, seen from ahead of it -/
theorem Stp.with {ms : List Addr} {B H B2 H2 : Hp} {p : Addr} {o : HO} (h : H p = none) (a : Stp (p :: ms) B (upd H p o) B2 H2) : Stp ms B H B2 H2 :=
  ⟨a.base, a.in_, fun b h1 h2 => a.nw b h1 (by rw [upd_ne (fun z => by subst z; exact h2 h)]; exact h2), fun b u n hb => a.fr b u (fun z => by
      rcases List.mem_cons.mp z with e | e
      · subst e; rw [h] at hb; cases hb
      · exact n e) (by rw [upd_ne (ne_of_none hb h)]; exact hb),
    fun b hb => a.al b (by rw [upd_ne (fun z => by subst z; exact hb h)]; exact hb)⟩
/-- the local cell q is done: it goes into the base -/
theorem Stp.close {ms : List Addr} {B H B2 H2 : Hp} {q : Addr} {o0 o : HO} (e : Ex B H) (hq : H q = none) (a : Stp (q :: ms) B (upd H q o0) B2 H2) (hv : H2 q = some o) : Stp ms B H (upd B2 q o) H2 := by
  have b2 : B2 q = none := a.off (ex_none e hq) upd_same
  have w := Stp.with hq a
  obtain ⟨k1, k2⟩ := Stp.keep w.in_ hv b2
  refine ⟨w.base.trans k1, k2, fun b h1 h2 => ?_, w.fr, w.al⟩
  rw [upd_ne (fun z => by subst z; exact h2 hq)]
  exact w.nw b h1 h2
/-- the pool stands at p; its copy of the script is a thing of the base -/
def Pool (p : Addr) (B H : Hp) : Prop := ∃ P : Pl, H p = some (.lst P.l) ∧ B P.at_ = some (.lst (P.cells.map V.int)) ∧ P.cells.length ≤ 63
theorem Pool.at {p : Addr} {B H : Hp} (h : Pool p B H) : ∃ o, H p = some o := let ⟨_, z, _⟩ := h; ⟨_, z⟩
theorem Pool.of {p : Addr} {B B2 H H2 : Hp} (h : Pool p B H) (e : Ex B B2) (hp : H2 p = H p) : Pool p B2 H2 := let ⟨P, h1, h2, h3⟩ := h; ⟨P, hp.trans h1, e _ _ h2, h3⟩
theorem Pool.ne {p q : Addr} {B H : Hp} (h : Pool p B H) (n : H q = none) : q ≠ p := fun z => by
  subst z
  obtain ⟨o, ho⟩ := h.at
  rw [n] at ho
  cases ho
theorem Pool.n1 {p q : Addr} {B H : Hp} {o : HO} (h : Pool p B H) (n : H q = none) : Pool p B (upd H q o) := h.of (Ex.refl B) (upd_ne (h.ne n).symm)
theorem Pool.n2 {p q : Addr} {B H : Hp} {o : HO} (h : Pool p B H) (e : Ex B H) (n : H q = none) : Pool p (upd B q o) (upd H q o) := h.of (Ex.new (ex_none e n)) (upd_ne (h.ne n).symm)
theorem Pool.p1 {p q : Addr} {B H : Hp} {o : HO} (h : Pool p B H) (n : q ≠ p) : Pool p B (upd H q o) := h.of (Ex.refl B) (upd_ne n.symm)
theorem Pool.stp {ms : List Addr} {p : Addr} {B H B2 H2 : Hp} (h : Pool p B H) (a : Stp ms B H B2 H2) (n : p ∉ ms) : Pool p B2 H2 := by
  obtain ⟨o, ho⟩ := h.at
  exact h.of a.base ((a.fr _ _ n ho).trans ho.symm)
/-- a draw: the base stays, some number comes -/
theorem draw_s {p : Addr} {B H : Hp} {n : Int} {Q : VK} {E : XK} (e : Ex B H) (hb : B p = none) (hP : Pool p B H) (h0 : 0 < n) (h1 : n < 1073741824)
    (k : ∀ (r : Int) (H2 : Hp), 0 ≤ r → r < n → Stp [p] B H B H2 → Pool p B H2 → (∀ b, b ≠ p → H2 b = H b) → Q (.int r) H2) : spDraw [.ref p, .int n] H Q E := by
  obtain ⟨P, hl, hc, hz⟩ := hP
  refine ⟨p, n, P, rfl, ⟨hl, e _ _ hc, hz⟩, h0, h1, fun r P' a b e1 e2 _ => k r _ a b (Stp.put e hb (.head _)) ⟨P', upd_same, by rw [e1, e2]; exact hc, by rw [e2]; exact hz⟩ fun b hb => upd_ne hb⟩
end LL
namespace LL
open PySem PySem.Spec PyProof.Rows L2 He Evl
/-! ### expressions, statements, blocks, games as data -/
def SIGNS_ : List Str := ["+", "-", "*", "/", "mod", "<", "="]
def istr (i : Int) : Str := Str.ofString (toString i)
/-- an expression of depth n, and its words -/
inductive IsE (ns : List Str) : Nat → PyData → List Str → Prop
  | num {n : Nat} {i : Int} (h0 : 0 ≤ i) (h1 : i ≤ 65535) : IsE ns (n + 1) (.tuple [.str "number", .int i]) [istr i]
  | var {n : Nat} {x : Str} (h : x ∈ ns) : IsE ns (n + 1) (.tuple [.str "variable", .str x]) [x]
  | op {n : Nat} {s : Str} {a b : PyData} {wa wb : List Str} (h : s ∈ SIGNS_) (ha : IsE ns n a wa) (hb : IsE ns n b wb) : IsE ns (n + 1) (.tuple [.str s, a, b]) (s :: (wa ++ wb))
theorem IsE.mono {ns : List Str} {m n : Nat} {d : PyData} {ws : List Str} (h : IsE ns m d ws) (l : m ≤ n) : IsE ns n d ws := by
  induction h generalizing n with
  | num h0 h1 =>
    obtain ⟨k, rfl⟩ : ∃ k, n = k + 1 := ⟨n - 1, by omega⟩
    exact .num h0 h1
  | var h =>
    obtain ⟨k, rfl⟩ : ∃ k, n = k + 1 := ⟨n - 1, by omega⟩
    exact .var h
  | op h _ _ iha ihb =>
    obtain ⟨k, rfl⟩ : ∃ k, n = k + 1 := ⟨n - 1, by omega⟩
    exact .op h (iha (by omega)) (ihb (by omega))
def IsEw (ns : List Str) (n : Nat) (d : PyData) : Prop := ∃ ws, IsE ns n d ws
section
variable {P : Program} {w : World} {K : PySem.W.Frag} {mg : Str → Option Value} {base : Heap}
/-- a number below n, drawn -/
def spNum (n : Int) : Sp := fun vs H Q _ => ∃ (B : Hp) (p : Addr), vs = [.ref p] ∧ Ex B H ∧ B p = none ∧ Pool p B H ∧ ∀ (r : Int) (H2 : Hp), 0 ≤ r → r < n → Stp [p] B H B H2 → Pool p B H2 → Q (.int r) H2
theorem fn_l_number (T : Txt K mg) : Fn P w K mg base 2 (ga K "_law_number") (spNum 65536) := by
  refine fn_def T.d_l_number sc_l_number (fun _ _ _ _ _ _ us hl => match us, hl with | [_], _ => rfl) (fun vs H Q E h => ?_) (fun cdv A outer s H vs Q E hr h => ?_)
  · obtain ⟨B, p, rfl, _⟩ := h
    rfl
  · obtain ⟨B, p, rfl, e, hb, hP, k⟩ := h
    have nd := sc_l_number.nd
    refine ⟨_, pss_cons (ps_if (pt_cmpR op_eq (pe_fn T.d_l_draw (fn_l_draw T) (hr.mono (by decide)) T.g_l_draw pc (pa_cons (pv 0) (pa_cons (pe_int) pa_nil))) (pe_int) (nomark _)) (pss_one (ps_ret (pe_fn T.d_l_draw (fn_l_draw T) (hr.mono (by decide)) T.g_l_draw pc (pa_cons (pv 0) (pa_cons (pe_int) pa_nil))))) (pss_nil))
      (pss_one (ps_ret (pe_fn T.d_l_draw (fn_l_draw T) (hr.mono (by decide)) T.g_l_draw pc (pa_cons (pv 0) (pa_cons (pe_int) pa_nil))))), ?_⟩
    refine ⟨_, rfl, ?_⟩
    dsimp only [tCons, tNil, tC]
    refine draw_s e hb hP (by decide) (by decide) fun r H2 a0 a1 st hP2 _ => ?_
    refine ⟨rfl, _, rfl, ite2 (fun c => ?_) fun c => ?_⟩
    · refine ⟨_, rfl, ?_⟩
      dsimp only [tCons, tNil, tC]
      exact draw_s st.in_ hb hP2 (by decide) (by decide) fun r H3 b0 b1 st2 hP3 _ => k r H3 b0 b1 (st.trans st2) hP3
    · refine ⟨_, rfl, ?_⟩
      dsimp only [tCons, tNil, tC]
      exact draw_s st.in_ hb hP2 (by decide) (by decide) fun r H3 b0 b1 st2 hP3 _ => k r H3 b0 (by omega) (st.trans st2) hP3
def spValue (K : PySem.W.Frag) (n : Nat) : Sp := fun vs H Q _ => ∃ (B : Hp) (p : Addr) (x : V) (ns : List Str), vs = [.ref p, x, .int (n : Int)] ∧ Ex B H ∧ B p = none ∧ Pool p B H ∧ Dp K B x (.list (ns.map PyData.str)) ∧ ns.length ≤ 63 ∧
  ∀ (v : V) (B2 H2 : Hp) (d : PyData), Stp [p] B H B2 H2 → Pool p B2 H2 → Dp K B2 v d → IsEw ns (n + 1) d → Q v H2
def spValueP (K : PySem.W.Frag) : Nat → Sp
  | 0 => fun _ _ _ _ => False
  | n + 1 => spValue K n
theorem dp_strs {H : Hp} : ∀ {ns : List Str} {vs : List V}, DpAll K H vs (ns.map PyData.str) → vs = ns.map V.str
  | [], _, h => by cases h; rfl
  | n :: ns, _, h => by
    cases h with
    | cons h1 h2 =>
      cases h1
      rw [dp_strs h2]
      rfl
theorem dpa_strs {H : Hp} : ∀ (ns : List Str), DpAll K H (ns.map V.str) (ns.map PyData.str)
  | [] => .nil
  | a :: r => .cons (.str a) (dpa_strs r)
theorem dp_list {H : Hp} {v : V} {ds : List PyData} (h : Dp K H v (.list ds)) : ∃ a vs, v = .ref a ∧ SqL K H a vs ∧ DpAll K H vs ds := by
  cases h with
  | lst h1 h2 => exact ⟨_, _, rfl, h1, h2⟩
theorem dp_tup {H : Hp} {v : V} {ds : List PyData} (h : Dp K H v (.tuple ds)) : ∃ a vs, v = .ref a ∧ SqT K H a vs ∧ DpAll K H vs ds := by
  cases h with
  | tup h1 h2 => exact ⟨_, _, rfl, h1, h2⟩
theorem at_get {α : Type} {xs : List α} {r : Int} (h0 : 0 ≤ r) (h1 : r < xs.length) : ∃ x, atI xs r = some x ∧ x ∈ xs ∧ xs[r.toNat]? = some x := by
  obtain ⟨j, rfl⟩ : ∃ j : Nat, r = j := ⟨r.toNat, by omega⟩
  have hj : j < xs.length := by omega
  exact ⟨xs[j], by unfold atI; rw [ixN_nat hj]; simp [hj], List.getElem_mem hj, by simp [hj]⟩
theorem fn_l_value (T : Txt K mg) : ∀ n, Fn P w K mg base (n + 3) (ga K "_law_value") (spValue K n) := by
  have go : ∀ n, Fn P w K mg base (n + 2) (ga K "_law_value") (spValueP K n) → Fn P w K mg base (n + 3) (ga K "_law_value") (spValue K n) := by
    intro n IH
    refine fn_def T.d_l_value sc_l_value (fun _ _ _ _ _ _ us hl => match us, hl with | [_, _, _], _ => rfl) (fun vs H Q E h => ?_) (fun cdv A outer s H vs Q E hr h => ?_)
    · obtain ⟨B, p, x, ns, rfl, _⟩ := h
      rfl
    · obtain ⟨B, p, x, ns, rfl, e, hb, hP, hx, hl, k⟩ := h
      have nd := sc_l_value.nd
      obtain ⟨a, vs, rfl, sx, dx⟩ := dp_list hx
      have ev := dp_strs dx
      subst ev
      have hr1 : Room 1 _ := hr.mono (by omega)
      have hr2 : Room 2 _ := hr.mono (by omega)
      refine ⟨_, pss_cons (ps_set (i := 3) nd rfl (by first | exact Or.inl rfl | exact Or.inr rfl) (pe_fn T.d_l_draw (fn_l_draw T) hr1 T.g_l_draw pc (pa_cons (pv 0) (pa_cons (pe_int) pa_nil))))
      (Evl.pss_cut (ps_if (PW.pt (pw_and (pt_cmpR op_lt (pv 3) (pe_int) (nomark _)) (pw_and1 (pt_cmpR op_gt (pv 2) (pe_int) (nomark _))))) (pss_cons (ps_set (i := 4) nd rfl (by first | exact Or.inl rfl | exact Or.inr rfl) (pe_ix ix_tup (pe_tup (pa_cons (pe_str) (pa_cons (pe_str) (pa_cons (pe_str) (pa_cons (pe_str) (pa_cons (pe_str) (pa_cons (pe_str) (pa_cons (pe_str) pa_nil)))))))) (pe_fn T.d_l_draw (fn_l_draw T) hr1 T.g_l_draw pc (pa_cons (pv 0) (pa_cons (pe_int) pa_nil))) (fun _ _ => rfl)))
      (pss_cons (ps_set (i := 5) nd rfl (by first | exact Or.inl rfl | exact Or.inr rfl) (pe_fn T.d_l_value IH hr T.g_l_value pc (pa_cons (pv 0) (pa_cons (pv 1) (pa_cons (pe_op op_sub (pv 2) (pe_int)) pa_nil)))))
      (pss_one (ps_ret (pe_tup (pa_cons (pv 4) (pa_cons (pv 5) (pa_cons (pe_fn T.d_l_value IH hr T.g_l_value pc (pa_cons (pv 0) (pa_cons (pv 1) (pa_cons (pe_op op_sub (pv 2) (pe_int)) pa_nil)))) pa_nil)))))))) (pss_nil))
      (Evl.pss_cut (ps_if (PW.pt (pw_and (pt_cmpR op_lt (pv 3) (pe_int) (nomark _)) (pw_and1 (pt_cmpR op_gt (pe_callB call_len_seq (by rfl) T.f_len PySem.boot_len (pa_cons (pv 1) pa_nil)) (pe_int) (nomark _))))) (pss_one (ps_ret (pe_tup (pa_cons (pe_str) (pa_cons (pe_ix ix_list (pv 1) (pe_fn T.d_l_draw (fn_l_draw T) hr1 T.g_l_draw pc (pa_cons (pv 0) (pa_cons (pe_callB call_len_seq (by rfl) T.f_len PySem.boot_len (pa_cons (pv 1) pa_nil)) pa_nil))) (fun _ _ => rfl)) pa_nil))))) (pss_nil))
      (pss_one (ps_ret (pe_tup (pa_cons (pe_str) (pa_cons (pe_ix ix_tup (pe_tup (pa_cons (pe_fn T.d_l_draw (fn_l_draw T) hr1 T.g_l_draw pc (pa_cons (pv 0) (pa_cons (pe_int) pa_nil))) (pa_cons (pe_fn T.d_l_draw (fn_l_draw T) hr1 T.g_l_draw pc (pa_cons (pv 0) (pa_cons (pe_int) pa_nil))) (pa_cons (pe_fn T.d_l_number (fn_l_number T) hr2 T.g_l_number pc (pa_cons (pv 0) pa_nil)) pa_nil)))) (pe_fn T.d_l_draw (fn_l_draw T) hr1 T.g_l_draw pc (pa_cons (pv 0) (pa_cons (pe_int) pa_nil))) (fun _ _ => rfl)) pa_nil))))))), ?_⟩
      have hx7 : (7 : Nat) ≤ sizeLine := by decide
      refine ⟨_, rfl, ?_⟩
      dsimp only [tCons, tNil, tC]
      refine draw_s e hb hP (by decide) (by decide) fun r1 H1 a0 a1 s1 hP1 _ => ?_
      refine ⟨fun σ H' => σ = [some (.ref p), some (.ref a), some (.int (n : Int)), some (.int r1), none, none] ∧ H1 = H', ?_, ?_⟩
      · refine ⟨_, rfl, _, _, rfl, rfl, _, rfl, ite2 (fun c1 => ?_) fun c1 => iteF ⟨rfl, rfl⟩⟩
        refine ⟨_, rfl, _, _, rfl, rfl, _, rfl, ite2 (fun c2 => ?_) fun c2 => ⟨rfl, rfl⟩⟩
        obtain ⟨m, rfl⟩ : ∃ m, n = m + 1 := ⟨n - 1, by have := of_decide_eq_true c2; omega⟩
        refine ⟨hx7, fun t nt => ?_⟩
        have s2 := s1.trans (Stp.cell (p := t) (o := .tup [.str "+", .str "-", .str "*", .str "/", .str "mod", .str "<", .str "="]) s1.in_ nt)
        have hP2 := Pool.n1 (o := .tup [.str "+", .str "-", .str "*", .str "/", .str "mod", .str "<", .str "="]) hP1 nt
        refine ⟨_, rfl, ?_⟩
        dsimp only [tCons, tNil, tC]
        refine draw_s s2.in_ hb hP2 (by decide) (by decide) fun r2 H3 b0 b1 s3 hP3 hne => ?_
        have htp : t ≠ p := fun z => by subst z; obtain ⟨o, ho⟩ := hP1.at; rw [nt] at ho; cases ho
        obtain ⟨y, ey, my, _⟩ := at_get (xs := [V.str "+", V.str "-", V.str "*", V.str "/", V.str "mod", V.str "<", V.str "="]) b0 b1
        obtain ⟨sg, rfl, hsg⟩ : ∃ sg, y = V.str sg ∧ sg ∈ SIGNS_ := by
          simp only [List.mem_cons, List.not_mem_nil, or_false] at my
          rcases my with rfl | rfl | rfl | rfl | rfl | rfl | rfl <;> exact ⟨_, rfl, by simp [SIGNS_]⟩
        refine ⟨t, _, _, _, rfl, rfl, SqT.of ((hne t htp).trans upd_same), ey, ?_⟩
        have s4 := s2.trans s3
        refine ⟨_, rfl, _, rfl, _, rfl, _, _, rfl, rfl, ?_⟩
        have en : ((m + 1 : Nat) : Int) - 1 = (m : Int) := by omega
        refine ⟨B, p, .ref a, ns, by show [V.ref p, V.ref a, V.int (((m + 1 : Nat) : Int) - 1)] = _; rw [en], s4.in_, hb, hP3, hx, hl, fun v1 B5 H5 d1 s5 hP5 dv1 ⟨_, ie1⟩ => ?_⟩
        have s6 := s4.trans s5
        refine ⟨_, rfl, _, rfl, _, rfl, _, rfl, _, rfl, _, _, rfl, rfl, ?_⟩
        have hb5 := s5.off hb hP3.at.choose_spec
        refine ⟨B5, p, .ref a, ns, by show [V.ref p, V.ref a, V.int (((m + 1 : Nat) : Int) - 1)] = _; rw [en], s6.in_, hb5, hP5, dp_mono s6.base hx, hl, fun v2 B7 H7 d2 s7 hP7 dv2 ⟨_, ie2⟩ => ?_⟩
        have s8 := s6.trans s7
        refine ⟨(by show 3 ≤ sizeLine; decide), fun u nu => ?_⟩
        have s9 := Stp.new (ms := [p]) (o := .tup [.str sg, v1, v2]) s8.in_ nu
        exact k _ _ _ _ (s8.trans s9) (Pool.n2 hP7 s8.in_ nu) (.tup (SqT.of upd_same) (.cons (.str _) (.cons (dp_mono (s7.base.trans s9.base) dv1) (.cons (dp_mono s9.base dv2) .nil)))) ⟨_, .op hsg ie1 ie2⟩
      rintro σ H' ⟨rfl, rfl⟩
      refine ⟨fun σ H' => σ = [some (.ref p), some (.ref a), some (.int (n : Int)), some (.int r1), none, none] ∧ H1 = H', ?_, ?_⟩
      · refine ⟨_, rfl, _, _, rfl, rfl, _, rfl, ite2 (fun c1 => ?_) fun c1 => iteF ⟨rfl, rfl⟩⟩
        have sx1 := ex_l s1.in_ sx
        refine ⟨_, rfl, a, _, rfl, .inl sx1, _, _, rfl, rfl, _, rfl, ite2 (fun c2 => ?_) fun c2 => ⟨rfl, rfl⟩⟩
        have hl0 : 0 < ns.length := by
          have := of_decide_eq_true c2
          rw [List.length_map] at this
          omega
        refine ⟨_, rfl, _, rfl, _, rfl, a, _, rfl, .inl sx1, ?_⟩
        dsimp only [tCons, tNil, tC]
        refine draw_s s1.in_ hb hP1 (by rw [List.length_map]; omega) (by rw [List.length_map]; omega) fun r2 H3 b0 b1 s3 hP3 hne => ?_
        obtain ⟨y, ey, my, _⟩ := at_get (xs := ns.map V.str) b0 b1
        obtain ⟨z, hz, rfl⟩ := List.mem_map.mp my
        have s4 := s1.trans s3
        refine ⟨a, _, _, _, rfl, rfl, ex_l s4.in_ sx, ey, (by show 2 ≤ sizeLine; decide), fun u nu => ?_⟩
        have s9 := Stp.new (ms := [p]) (o := .tup [.str "variable", .str z]) s4.in_ nu
        exact k _ _ _ _ (s4.trans s9) (Pool.n2 hP3 s4.in_ nu) (.tup (SqT.of upd_same) (.cons (.str _) (.cons (.str _) .nil))) ⟨_, .var hz⟩
      rintro σ H' ⟨rfl, rfl⟩
      refine ⟨_, rfl, ?_⟩
      dsimp only [tCons, tNil, tC]
      refine draw_s s1.in_ hb hP1 (by decide) (by decide) fun r2 H2 b0 b1 s2 hP2 _ => ?_
      have s12 := s1.trans s2
      refine ⟨_, rfl, ?_⟩
      dsimp only [tCons, tNil, tC]
      refine draw_s s12.in_ hb hP2 (by decide) (by decide) fun r3 H3 c0 c1 s3 hP3 _ => ?_
      have s13 := s12.trans s3
      refine ⟨_, rfl, B, p, rfl, s13.in_, hb, hP3, fun r4 H4 d0 d1 s4 hP4 => ?_⟩
      have s14 := s13.trans s4
      refine ⟨(by show 3 ≤ sizeLine; decide), fun t nt => ?_⟩
      have s15 := s14.trans (Stp.cell (p := t) (o := .tup [.int r2, .int r3, .int r4]) s14.in_ nt)
      have hP5 := Pool.n1 (o := .tup [.int r2, .int r3, .int r4]) hP4 nt
      have htp : t ≠ p := fun z => by subst z; obtain ⟨o, ho⟩ := hP4.at; rw [nt] at ho; cases ho
      refine ⟨_, rfl, ?_⟩
      dsimp only [tCons, tNil, tC]
      refine draw_s s15.in_ hb hP5 (by decide) (by decide) fun r5 H5 f0 f1 s5 hP6 hne => ?_
      have s16 := s15.trans s5
      obtain ⟨y, ey, my⟩ := at3 (a := .int r2) (b := .int r3) (c := .int r4) f0 f1
      obtain ⟨i, rfl, i0, i1⟩ : ∃ i : Int, y = .int i ∧ 0 ≤ i ∧ i ≤ 65535 := by
        rcases my with rfl | rfl | rfl <;> exact ⟨_, rfl, by omega, by omega⟩
      refine ⟨t, _, _, _, rfl, rfl, SqT.of ((hne t htp).trans upd_same), ey, (by show 2 ≤ sizeLine; decide), fun u nu => ?_⟩
      have s9 := Stp.new (ms := [p]) (o := .tup [.str "number", .int i]) s16.in_ nu
      exact k _ _ _ _ (s16.trans s9) (Pool.n2 hP6 s16.in_ nu) (.tup (SqT.of upd_same) (.cons (.str _) (.cons (.int _) .nil))) ⟨_, .num i0 i1⟩
  intro n
  induction n with
  | zero => exact go 0 (fun _ _ _ _ _ _ _ _ _ _ _ h => h.elim)
  | succ n ih => exact go (n + 1) ih
end
end LL
namespace LL
open PySem PySem.Spec PyProof.Rows L2 He Evl
def KEYS_ : List Str := ["var", "set", "draw", "choose", "come", "show", "chooser", "comer", "pay", "take", "if", "else", "end", "mod"]
structure IsName (x : Str) : Prop where
  l1 : 1 ≤ x.length
  l8 : x.length ≤ 8
  lo : ∀ c ∈ x.cps.toList, 97 ≤ c ∧ c ≤ 122
  nk : x ∉ KEYS_
section
variable {P : Program} {w : World} {K : PySem.W.Frag} {mg : Str → Option Value} {base : Heap}
def spSpend : Sp := fun vs H Q _ => ∃ (B : Hp) (p : Addr), vs = [.ref p] ∧ Ex B H ∧ B p = none ∧ Pool p B H ∧ ∀ (b : Bool) (H2 : Hp), Stp [p] B H B H2 → Pool p B H2 → Q (.bl b) H2
theorem fn_l_spend (T : Txt K mg) : Fn P w K mg base 1 (ga K "_law_spend") (spSpend) := by
  refine fn_def T.d_l_spend sc_l_spend (fun _ _ _ _ _ _ us hl => match us, hl with | [_], _ => rfl) (fun vs H Q E h => ?_) (fun cdv A outer s H vs Q E hr h => ?_)
  · obtain ⟨B, p, rfl, _⟩ := h
    rfl
  · obtain ⟨B, p, rfl, e, hb, ⟨⟨cells, at_, ix, big, st, run, bud⟩, hl, hc, hz⟩, k⟩ := h
    have nd := sc_l_spend.nd
    have hl : H p = some (.lst [.ref at_, .int ix, .int big, .int st, .int run, .int bud]) := hl
    refine ⟨_, pss_cons (ps_asg (pe_op op_sub (pe_ix ix_list (pv 0) (pe_int) (fun _ _ => rfl)) (pe_int)) (pg_sub (pv 0) (pe_int) set_list))
      (pss_one (ps_ret (pe_cmpR op_ge (pe_ix ix_list (pv 0) (pe_int) (fun _ _ => rfl)) (pe_int) (nomark _)))), ?_⟩
    refine ⟨_, rfl, p, _, _, _, rfl, rfl, SqL.of hl, rfl, _, _, rfl, rfl, _, rfl, p, _, _, _, rfl, rfl, hl, rfl, ?_⟩
    refine ⟨_, rfl, p, _, _, _, rfl, rfl, SqL.of upd_same, rfl, _, _, rfl, rfl, ?_⟩
    exact k _ _ (Stp.put e hb (.head _)) ⟨⟨cells, at_, ix, big, st, run, bud - 1⟩, upd_same, hc, hz⟩
theorem inV_strs (x : Str) (ns : List Str) : inV (.str x) (ns.map V.str) = decide (x ∈ ns) := by
  rw [Bool.eq_iff_iff]
  simp only [inV, List.any_map, List.any_eq_true, Function.comp, eqV, beq_iff_eq, decide_eq_true_eq]
  exact ⟨fun ⟨y, h1, h2⟩ => h2 ▸ h1, fun h => ⟨x, h, rfl⟩⟩
theorem flat_strs (ns : List Str) : (ns.map V.str).all flatV = true := by
  rw [List.all_map, List.all_eq_true]
  exact fun _ _ => rfl
theorem wrd : ∀ x ∈ (["x", "y", "z", "ended", "i", "sets", "mods", "comers", "payed", "abcdefgh", "q", "aa", "bb", "cc", "dd", "ee", "ff"] : List Str), 1 ≤ x.length ∧ x.length ≤ 8 ∧ ∀ c ∈ x.cps.toList, 97 ≤ c ∧ c ≤ 122 := by decide +kernel
theorem wnk : ∀ x ∈ (["q", "aa", "bb", "cc", "dd", "ee", "ff"] : List Str), x ∉ KEYS_ := by decide +kernel
/-- the letters that a name may have -/
def Low (x : Str) : Prop := 1 ≤ x.length ∧ x.length ≤ 8 ∧ ∀ c ∈ x.cps.toList, 97 ≤ c ∧ c ≤ 122
/-- the search for a free name -/
def pick (ns : List Str) (os : List Str) (x : Str) : Str := os.foldl (fun y o => if y ∈ ns then o else y) x
theorem pick_free {ns : List Str} : ∀ {os : List Str} {x : Str}, x ∉ ns → pick ns os x = x
  | [], _, _ => rfl
  | o :: os, x, h => by
    show pick ns os (if x ∈ ns then o else x) = x
    rw [if_neg h]
    exact pick_free h
theorem pick_off {ns : List Str} : ∀ {os : List Str} {x : Str}, pick ns os x ∈ ns → ∀ o ∈ os, o ∈ ns
  | [], _, _, o, ho => by simp at ho
  | o' :: os, x, h, o, ho => by
    have h' : pick ns os (if x ∈ ns then o' else x) ∈ ns := h
    by_cases hx : x ∈ ns
    · rw [if_pos hx] at h'
      rcases List.mem_cons.mp ho with e | e
      · subst e
        exact Classical.byContradiction fun z => by rw [pick_free z] at h'; exact z h'
      · exact pick_off h' o e
    · rw [if_neg hx, pick_free hx] at h'
      exact absurd h' hx
def OTH : List Str := ["aa", "bb", "cc", "dd", "ee", "ff"]
theorem pick_in {ns : List Str} : ∀ {os : List Str} {x : Str}, pick ns os x = x ∨ pick ns os x ∈ os
  | [], _ => .inl rfl
  | o :: os, x => by
    show pick ns os (if x ∈ ns then o else x) = x ∨ pick ns os (if x ∈ ns then o else x) ∈ o :: os
    by_cases h : x ∈ ns
    · rw [if_pos h]
      rcases pick_in (ns := ns) (os := os) (x := o) with e | e
      · exact .inr (by rw [e]; exact .head _)
      · exact .inr (.tail _ e)
    · rw [if_neg h, pick_free h]
      exact .inl rfl
theorem sub_len : ∀ {xs ns : List Str}, xs.Nodup → (∀ o ∈ xs, o ∈ ns) → xs.length ≤ ns.length
  | [], _, _, _ => Nat.zero_le _
  | x :: xs, ns, hd, hs => by
    have hd' := List.nodup_cons.mp hd
    have h1 := sub_len (xs := xs) (ns := ns.erase x) hd'.2 fun o ho => (List.mem_erase_of_ne (fun z => by subst z; exact hd'.1 ho)).mpr (hs o (.tail _ ho))
    have h2 := List.length_erase_of_mem (hs x (.head _))
    have h3 : 0 < ns.length := List.length_pos_of_mem (hs x (.head _))
    rw [List.length_cons]
    omega
theorem pick_new {ns : List Str} {x : Str} (h : ns.length ≤ 5) : pick ns OTH x ∉ ns := fun z => by
  have := sub_len (xs := OTH) (ns := ns) (by decide +kernel) (pick_off z)
  have e : OTH.length = 6 := rfl
  omega
def spNames (K : PySem.W.Frag) : Sp := fun vs H Q _ => ∃ (B : Hp) (p : Addr) (c : Int), vs = [.ref p, .int c] ∧ Ex B H ∧ B p = none ∧ Pool p B H ∧ 0 ≤ c ∧ c ≤ 5 ∧
  ∀ (v : V) (B2 H2 : Hp) (ns : List Str), Stp [p] B H B2 H2 → Pool p B2 H2 → Dp K B2 v (.list (ns.map PyData.str)) → ns.Nodup → (∀ x ∈ ns, IsName x) → (ns.length : Int) = c → Q v H2
theorem fn_l_names (T : Txt K mg) : Fn P w K mg base 2 (ga K "_law_names") (spNames K) := by
  refine fn_def T.d_l_names sc_l_names (fun _ _ _ _ _ _ us hl => match us, hl with | [_, _], _ => rfl) (fun vs H Q E h => ?_) (fun cdv A outer s H vs Q E hr h => ?_)
  · obtain ⟨B, p, c, rfl, _⟩ := h
    rfl
  · obtain ⟨B, p, c, rfl, e, hb, hP, c0, c5, k⟩ := h
    have nd := sc_l_names.nd
    refine ⟨_, pss_cons (ps_set (i := 2) nd rfl (by first | exact Or.inl rfl | exact Or.inr rfl) (pe_lst pa_nil))
      (pss_cons (ps_for (passes_of rfl) rfl (pi_range1 rfl T.f_range (pa_cons (pv 1) pa_nil)) (pg_name (i := 3) nd rfl (by first | exact Or.inl rfl | exact Or.inr rfl)) (pss_cons (ps_set (i := 4) nd rfl (by first | exact Or.inl rfl | exact Or.inr rfl) (pe_ix ix_tup (pe_tup (pa_cons (pe_str) (pa_cons (pe_str) (pa_cons (pe_str) (pa_cons (pe_str) (pa_cons (pe_str) (pa_cons (pe_str) (pa_cons (pe_str) (pa_cons (pe_str) (pa_cons (pe_str) (pa_cons (pe_str) pa_nil))))))))))) (pe_fn T.d_l_draw (fn_l_draw T) (hr.mono (by decide)) T.g_l_draw pc (pa_cons (pv 0) (pa_cons (pe_int) pa_nil))) (fun _ _ => rfl)))
      (Evl.pss_cut (ps_if (pt_cmpR op_eq (pe_fn T.d_l_draw (fn_l_draw T) (hr.mono (by decide)) T.g_l_draw pc (pa_cons (pv 0) (pa_cons (pe_int) pa_nil))) (pe_int) (nomark _)) (pss_cons (ps_set (i := 4) nd rfl (by first | exact Or.inl rfl | exact Or.inr rfl) (pe_str))
      (pss_one (ps_for (passes_of rfl) rfl (pi_range1 rfl T.f_range (pa_cons (pe_op op_add (pe_int) (pe_fn T.d_l_draw (fn_l_draw T) (hr.mono (by decide)) T.g_l_draw pc (pa_cons (pv 0) (pa_cons (pe_int) pa_nil)))) pa_nil)) (pg_name (i := 5) nd rfl (by first | exact Or.inl rfl | exact Or.inr rfl)) (pss_one (ps_set (i := 4) nd rfl (by first | exact Or.inl rfl | exact Or.inr rfl) (pe_op op_add_str (pv 4) (pe_ix ix_str (pe_str) (pe_fn T.d_l_draw (fn_l_draw T) (hr.mono (by decide)) T.g_l_draw pc (pa_cons (pv 0) (pa_cons (pe_int) pa_nil))) (fun _ _ => rfl)))))))) (pss_nil))
      (Evl.pss_cut (ps_if (pt_cmpR op_in_seq (pv 4) (pe_tup (pa_cons (pe_str) (pa_cons (pe_str) (pa_cons (pe_str) (pa_cons (pe_str) (pa_cons (pe_str) (pa_cons (pe_str) (pa_cons (pe_str) (pa_cons (pe_str) (pa_cons (pe_str) (pa_cons (pe_str) (pa_cons (pe_str) (pa_cons (pe_str) (pa_cons (pe_str) (pa_cons (pe_str) pa_nil))))))))))))))) rfl) (pss_one (ps_set (i := 4) nd rfl (by first | exact Or.inl rfl | exact Or.inr rfl) (pe_str))) (pss_nil))
      (Evl.pss_cut (ps_for (passes_of rfl) rfl (pi_tup (pe_tup (pa_cons (pe_str) (pa_cons (pe_str) (pa_cons (pe_str) (pa_cons (pe_str) (pa_cons (pe_str) (pa_cons (pe_str) pa_nil)))))))) (pg_name (i := 6) nd rfl (by first | exact Or.inl rfl | exact Or.inr rfl)) (pss_one (ps_if (pt_cmpR op_in_seq (pv 4) (pv 2) rfl) (pss_one (ps_set (i := 4) nd rfl (by first | exact Or.inl rfl | exact Or.inr rfl) (pv 6))) (pss_nil))))
      (pss_one (ps_expr (pe_bm PySem.F.plainAttrs_list PySem.F.slot_list_append PySem.F.type_list_append mt_append (pv 2) (pa_cons (pv 4) pa_nil)))))))))
      (pss_one (ps_ret (pv 2)))), ?_⟩
    refine ⟨(by show 0 ≤ sizeLine; decide), fun q nq => ?_⟩
    have hqp : q ≠ p := hP.ne nq
    have s0 : Stp [q, p] B (upd H q (.lst [])) B (upd H q (.lst [])) := Stp.refl (Ex.mut e (ex_none e nq))
    have hbq := ex_none e nq
    refine ⟨_, rfl, c, rfl, by omega, by omega, for_range (lo := 0) (n := c.toNat) (fun i σ H' => ∃ (ns : List Str) (v3 v4 v5 v6 : Option V), Stp [q, p] B (upd H q (.lst [])) B H' ∧ Pool p B H' ∧ H' q = some (.lst (ns.map V.str)) ∧ ns.length = i ∧ ns.Nodup ∧ (∀ x ∈ ns, IsName x) ∧
        σ = [some (.ref p), some (.int c), some (.ref q), v3, v4, v5, v6])
      ⟨[], none, none, none, none, s0, Pool.n1 hP nq, upd_same, rfl, List.nodup_nil, (fun _ h => nomatch h), rfl⟩ ?_ ?_⟩
    · rintro i σ H1 hi ⟨ns, v3, v4, v5, v6, s1, hP1, hq1, hn, hnd, hnm, rfl⟩
      -- one of ten
      refine ⟨(by show 10 ≤ sizeLine; decide), fun t nt => ?_⟩
      have s2 := s1.trans (Stp.cell (o := .tup [.str "x", .str "y", .str "z", .str "ended", .str "i", .str "sets", .str "mods", .str "comers", .str "payed", .str "abcdefgh"]) s1.in_ nt)
      have hP2 := Pool.n1 (o := .tup [.str "x", .str "y", .str "z", .str "ended", .str "i", .str "sets", .str "mods", .str "comers", .str "payed", .str "abcdefgh"]) hP1 nt
      have htp : t ≠ p := hP1.ne nt
      have hq2 := (Ex.new (o := .tup [.str "x", .str "y", .str "z", .str "ended", .str "i", .str "sets", .str "mods", .str "comers", .str "payed", .str "abcdefgh"]) nt) _ _ hq1
      refine ⟨_, rfl, ?_⟩
      dsimp only [tCons, tNil, tC]
      refine draw_s s2.in_ hb hP2 (by decide) (by decide) fun r H3 a0 a1 s3 hP3 hne => ?_
      have s4 := s2.trans (s3.wk (ns := [q, p]) (by simp))
      have hq3 : H3 q = _ := (hne q hqp).trans hq2
      obtain ⟨y, ey, my, _⟩ := at_get (xs := [V.str "x", V.str "y", V.str "z", V.str "ended", V.str "i", V.str "sets", V.str "mods", V.str "comers", V.str "payed", V.str "abcdefgh"]) a0 a1
      obtain ⟨x0, rfl, hx0⟩ : ∃ x0, y = V.str x0 ∧ Low x0 := by
        simp only [List.mem_cons, List.not_mem_nil, or_false] at my
        rcases my with rfl | rfl | rfl | rfl | rfl | rfl | rfl | rfl | rfl | rfl <;> exact ⟨_, rfl, wrd _ (by simp)⟩
      refine ⟨t, _, _, _, rfl, rfl, SqT.of ((hne t htp).trans upd_same), ey, ?_⟩
      -- or letters
      refine ⟨fun σ H' => ∃ (x : Str) (v5 : Option V), Stp [q, p] B (upd H q (.lst [])) B H' ∧ Pool p B H' ∧ H' q = some (.lst (ns.map V.str)) ∧ Low x ∧ σ = [some (.ref p), some (.int c), some (.ref q), some (.int (0 + (i : Int))), some (.str x), v5, v6], ?_, ?_⟩
      · refine ⟨_, rfl, ?_⟩
        dsimp only [tCons, tNil, tC]
        refine draw_s s4.in_ hb hP3 (by decide) (by decide) fun r2 H4 b0 b1 s5 hP4 hne2 => ?_
        have s6 := s4.trans (s5.wk (ns := [q, p]) (by simp))
        have hq4 : H4 q = _ := (hne2 q hqp).trans hq3
        refine ⟨rfl, _, rfl, ite2 (fun _ => ?_) fun _ => ⟨x0, _, s6, hP4, hq4, hx0, rfl⟩⟩
        refine ⟨_, rfl, ?_⟩
        dsimp only [tCons, tNil, tC]
        refine draw_s s6.in_ hb hP4 (by decide) (by decide) fun r3 H5 c0 c1 s7 hP5 hne3 => ?_
        have s8 := s6.trans (s7.wk (ns := [q, p]) (by simp))
        have hq5 : H5 q = _ := (hne3 q hqp).trans hq4
        refine ⟨_, _, rfl, rfl, 1 + r3, rfl, by omega, by omega, for_range (D := ⟨_, _, fun _ _ => False, fun _ _ => False⟩) (lo := 0) (n := (1 + r3).toNat) (fun j σ H' => ∃ (x : Str) (v5 : Option V), Stp [q, p] B (upd H q (.lst [])) B H' ∧ Pool p B H' ∧ H' q = some (.lst (ns.map V.str)) ∧ x.length = j ∧ (∀ c ∈ x.cps.toList, 97 ≤ c ∧ c ≤ 122) ∧ σ = [some (.ref p), some (.int c), some (.ref q), some (.int (0 + (i : Int))), some (.str x), v5, v6])
          ⟨Str.ofString "", v5, s8, hP5, hq5, rfl, (by decide +kernel), rfl⟩ ?_ ?_⟩
        · rintro j σ H6 hj ⟨x, v5', s9, hP6, hq6, hxl, hxc, rfl⟩
          refine ⟨_, rfl, _, rfl, ?_⟩
          dsimp only [tCons, tNil, tC]
          refine draw_s s9.in_ hb hP6 (by decide) (by decide) fun r4 H7 d0 d1 s10 hP7 hne4 => ?_
          have hal : (Str.ofString "abcdefghijklmnopqrstuvwxyz").cps.toList.length = 26 := by decide +kernel
          obtain ⟨z, ez, mz, _⟩ := at_get (xs := (Str.ofString "abcdefghijklmnopqrstuvwxyz").cps.toList) d0 (by omega)
          have hz : 97 ≤ z ∧ z ≤ 122 := (by decide +kernel : ∀ z ∈ (Str.ofString "abcdefghijklmnopqrstuvwxyz").cps.toList, 97 ≤ z ∧ z ≤ 122) z mz
          refine ⟨_, _, _, rfl, rfl, (by decide +kernel), ez, _, _, rfl, rfl, ?_, ?_⟩
          · have : (Str.mk #[z]).length = 1 := rfl
            have sl : 100000 ≤ sizeLine := by decide
            omega
          · refine ⟨x ++ ⟨#[z]⟩, some (.int (0 + (j : Int))), s9.trans (s10.wk (by simp)), hP7, (hne4 q hqp).trans hq6, by rw [PySem.strLen_append, hxl]; rfl, fun ch hch => ?_, rfl⟩
            have : (x ++ (⟨#[z]⟩ : Str)).cps.toList = x.cps.toList ++ [z] := by
              show (x.cps ++ #[z]).toList = _
              simp
            rw [this] at hch
            rcases List.mem_append.mp hch with hh | hh
            · exact hxc ch hh
            · rw [List.mem_singleton.mp hh]; exact hz
        · rintro σ H6 ⟨x, v5', s9, hP6, hq6, hxl, hxc, rfl⟩
          exact ⟨x, _, s9, hP6, hq6, ⟨by omega, by omega, hxc⟩, rfl⟩
      rintro σ H4 ⟨x1, v5', s5, hP4, hq4, hx1, rfl⟩
      refine ⟨fun σ H' => ∃ (x : Str), Stp [q, p] B (upd H q (.lst [])) B H' ∧ Pool p B H' ∧ H' q = some (.lst (ns.map V.str)) ∧ IsName x ∧ σ = [some (.ref p), some (.int c), some (.ref q), some (.int (0 + (i : Int))), some (.str x), v5', v6], ?_, ?_⟩
      · refine ⟨_, rfl, (by show 14 ≤ sizeLine; decide), fun t2 nt2 => ?_⟩
        have s6 := s5.trans (Stp.cell (p := t2) (o := .tup (KEYS_.map V.str)) s5.in_ nt2)
        have hP5 := Pool.n1 (o := .tup (KEYS_.map V.str)) hP4 nt2
        have hq5 := (Ex.new (o := .tup (KEYS_.map V.str)) nt2) _ _ hq4
        refine ⟨t2, KEYS_.map V.str, rfl, .inr (SqT.of upd_same), rfl, flat_strs _, _, rfl, ite2 (fun c1 => ?_) fun c1 => ?_⟩
        · exact ⟨"q", s6, hP5, hq5, ⟨(wrd "q" (by simp)).1, (wrd "q" (by simp)).2.1, (wrd "q" (by simp)).2.2, wnk "q" (by simp)⟩, rfl⟩
        · have c1' : inV (.str x1) (KEYS_.map V.str) ≠ true := c1
          rw [inV_strs] at c1'
          exact ⟨x1, s6, hP5, hq5, ⟨hx1.1, hx1.2.1, hx1.2.2, fun z => c1' (decide_eq_true z)⟩, rfl⟩
      rintro σ H5 ⟨x2, s6, hP5, hq5, hx2, rfl⟩
      refine ⟨fun σ H' => ∃ (v6 : Option V), Stp [q, p] B (upd H q (.lst [])) B H' ∧ Pool p B H' ∧ H' q = some (.lst (ns.map V.str)) ∧ σ = [some (.ref p), some (.int c), some (.ref q), some (.int (0 + (i : Int))), some (.str (pick ns OTH x2)), v5', v6], ?_, ?_⟩
      · refine ⟨(by show 6 ≤ sizeLine; decide), fun t3 nt3 => ?_⟩
        have s7 := s6.trans (Stp.cell (p := t3) (o := .tup (OTH.map V.str)) s6.in_ nt3)
        have hP6 := Pool.n1 (o := .tup (OTH.map V.str)) hP5 nt3
        have hq6 := (Ex.new (o := .tup (OTH.map V.str)) nt3) _ _ hq5
        refine ⟨t3, rfl, ⟨OTH.map V.str, SqT.of upd_same⟩, for_tup (xs := OTH.map V.str) (fun j σ H' => (upd H5 t3 (.tup (OTH.map V.str))) = H' ∧ ∃ v6, σ = [some (.ref p), some (.int c), some (.ref q), some (.int (0 + (i : Int))), some (.str (pick ns (OTH.take j) x2)), v5', v6]) ⟨rfl, v6, rfl⟩ ?_ ?_ ?_⟩
        · rintro j σ H' _ ⟨rfl, _⟩
          exact SqT.of upd_same
        · rintro j y σ H' hy ⟨rfl, v6', rfl⟩
          obtain ⟨o, ho, rfl⟩ : ∃ o, OTH[j]? = some o ∧ V.str o = y := by
            rw [List.getElem?_map] at hy
            exact Option.map_eq_some_iff.mp hy
          have htk : pick ns (OTH.take (j + 1)) x2 = if pick ns (OTH.take j) x2 ∈ ns then o else pick ns (OTH.take j) x2 := by
            rw [List.take_add_one, ho]
            unfold pick
            rw [List.foldl_append]
            rfl
          refine ⟨_, rfl, _, rfl, q, ns.map V.str, rfl, .inl (SqL.of hq6), rfl, flat_strs _, _, rfl, ite2 (fun c1 => ?_) fun c1 => ?_⟩
          · have c1' : inV (.str (pick ns (OTH.take j) x2)) (ns.map V.str) = true := c1
            rw [inV_strs] at c1'
            have := of_decide_eq_true c1'
            exact ⟨_, rfl, rfl, _, by rw [htk, if_pos this]; rfl⟩
          · have c1' : inV (.str (pick ns (OTH.take j) x2)) (ns.map V.str) ≠ true := c1
            rw [inV_strs] at c1'
            have hh : ¬ pick ns (OTH.take j) x2 ∈ ns := fun z => c1' (decide_eq_true z)
            exact ⟨rfl, _, by rw [htk, if_neg hh]; rfl⟩
        · rintro σ H' ⟨rfl, v6', rfl⟩
          exact ⟨v6', s7, hP6, hq6, rfl⟩
      rintro σ H6 ⟨v6', s7, hP6, hq6, rfl⟩
      have hlen : ns.length ≤ 5 := by omega
      have hnew := pick_new (x := x2) hlen
      have hnm2 : IsName (pick ns OTH x2) := by
        rcases pick_in (ns := ns) (os := OTH) (x := x2) with e1 | e1
        · rw [e1]; exact hx2
        · have h1 := wrd _ (show pick ns OTH x2 ∈ _ from by
            have : ∀ z ∈ OTH, z ∈ (["x", "y", "z", "ended", "i", "sets", "mods", "comers", "payed", "abcdefgh", "q", "aa", "bb", "cc", "dd", "ee", "ff"] : List Str) := by decide +kernel
            exact this _ e1)
          have h2 := wnk _ (show pick ns OTH x2 ∈ _ from by
            have : ∀ z ∈ OTH, z ∈ (["q", "aa", "bb", "cc", "dd", "ee", "ff"] : List Str) := by decide +kernel
            exact this _ e1)
          exact ⟨h1.1, h1.2.1, h1.2.2, h2⟩
      refine ⟨_, rfl, .inl ⟨rfl, _, SqL.of hq6⟩, _, rfl, q, _, _, rfl, rfl, hq6, ?_, ?_⟩
      · rw [List.length_map]; exact small1000 (by omega)
      · refine ⟨ns ++ [pick ns OTH x2], _, _, _, _, s7.trans (Stp.put s7.in_ hbq (.head _)), ?_, ?_, by simp [hn], ?_, ?_, rfl⟩
        · exact hP6.p1 hqp
        · rw [List.map_append]; exact upd_same
        · rw [List.nodup_append]
          refine ⟨hnd, by simp, ?_⟩
          intro a ha b hb2
          rw [List.mem_singleton.mp hb2]
          exact fun z => hnew (z ▸ ha)
        · intro x hx
          rcases List.mem_append.mp hx with hh | hh
          · exact hnm x hh
          · rw [List.mem_singleton.mp hh]; exact hnm2
    · rintro σ H1 ⟨ns, v3, v4, v5, v6, s1, hP1, hq1, hn, hnd, hnm, rfl⟩
      refine ⟨_, rfl, ?_⟩
      have sc := Stp.close e nq s1 hq1
      refine k _ _ _ ns sc (hP1.of sc.base rfl) (.lst (SqL.of upd_same) (dpa_strs ns)) hnd hnm (by omega)
end
end LL
namespace LL
open PySem PySem.Spec PyProof.Rows L2 He Evl
/-- the words of the other part of a choice -/
def elseW (os : List PyData) (wo : List Str) : List Str := if os = [] then [] else "else" :: wo
/-- rows of statements with their words; branches and moves ahead and behind -/
inductive IsB (ns : List Str) : Nat → Nat → Nat → Nat → Nat → List PyData → List Str → Prop
  | nil {r b m : Nat} : IsB ns r b m b m [] []
  | pay {r b m b2 m2 : Nat} {s : Str} {e : PyData} {we : List Str} {ds : List PyData} {ws : List Str} (hs : s ∈ (["pay", "take"] : List Str)) (he : IsE ns 6 e we) (h : IsB ns r b m b2 m2 ds ws) : IsB ns r b m b2 m2 (.tuple [.str s, e] :: ds) (s :: we ++ ws)
  | show_ {r b m b2 m2 : Nat} {s : Str} {e : PyData} {we : List Str} {ds : List PyData} {ws : List Str} (hs : s ∈ (["chooser", "comer"] : List Str)) (he : IsE ns 6 e we) (h : IsB ns r b m b2 m2 ds ws) : IsB ns r b m b2 m2 (.tuple [.str "show", .str s, e] :: ds) (("show" : Str) :: s :: we ++ ws)
  | set_ {r b m b2 m2 : Nat} {s : Str} {e : PyData} {we : List Str} {ds : List PyData} {ws : List Str} (hs : s ∈ ns) (he : IsE ns 6 e we) (h : IsB ns r b m b2 m2 ds ws) : IsB ns r b m b2 m2 (.tuple [.str "set", .str s, e] :: ds) (("set" : Str) :: s :: we ++ ws)
  | draw {r b m b2 m2 : Nat} {s : Str} {n : Int} {ds : List PyData} {ws : List Str} (hs : s ∈ ns) (h0 : 1 ≤ n) (h1 : n ≤ 8) (hb : b < 10) (h : IsB ns r (b + 1) m b2 m2 ds ws) : IsB ns r b m b2 m2 (.tuple [.str "draw", .str s, .int n] :: ds) (("draw" : Str) :: s :: istr n :: ws)
  | move {r b m b2 m2 : Nat} {c s : Str} {n : Int} {ds : List PyData} {ws : List Str} (hc : c ∈ (["choose", "come"] : List Str)) (hs : s ∈ ns) (h0 : 1 ≤ n) (h1 : n ≤ 8) (hb : b < 10) (h : IsB ns r (b + 1) (m + 1) b2 m2 ds ws) : IsB ns r b m b2 m2 (.tuple [.str c, .str s, .int n, .int m] :: ds) (c :: s :: istr n :: ws)
  | ite {r b m b1 m1 b2 m2 b3 m3 : Nat} {e : PyData} {we wt wo ws : List Str} {ts os ds : List PyData} (he : IsE ns 6 e we) (ht : IsB ns r b m b1 m1 ts wt) (ho : IsB ns r b1 m1 b2 m2 os wo) (lt : ts.length ≤ 3) (lo : os.length ≤ 2) (h : IsB ns (r + 1) b2 m2 b3 m3 ds ws) : IsB ns (r + 1) b m b3 m3 (.tuple [.str "if", e, .tuple ts, .tuple os] :: ds) (("if" : Str) :: we ++ wt ++ elseW os wo ++ [("end" : Str)] ++ ws)
theorem IsB.app {ns : List Str} {r b m b1 m1 : Nat} {ds : List PyData} {ws : List Str} (h : IsB ns r b m b1 m1 ds ws) : ∀ {b2 m2 : Nat} {ds2 : List PyData} {ws2 : List Str}, IsB ns r b1 m1 b2 m2 ds2 ws2 → IsB ns r b m b2 m2 (ds ++ ds2) (ws ++ ws2) := by
  induction h with
  | nil => exact fun h => h
  | pay hs he h ih => intro _ _ _ _ h2; have := IsB.pay hs he (ih h2); simpa using this
  | show_ hs he h ih => intro _ _ _ _ h2; have := IsB.show_ hs he (ih h2); simpa using this
  | set_ hs he h ih => intro _ _ _ _ h2; have := IsB.set_ hs he (ih h2); simpa using this
  | draw hs h0 h1 hb h ih => intro _ _ _ _ h2; have := IsB.draw hs h0 h1 hb (ih h2); simpa using this
  | move hc hs h0 h1 hb h ih => intro _ _ _ _ h2; have := IsB.move hc hs h0 h1 hb (ih h2); simpa using this
  | ite he ht ho lt lo h _ _ ih => intro _ _ _ _ h2; have := IsB.ite he ht ho lt lo (ih h2); simpa using this
/-- the head of rows and the rest -/
theorem IsB.split {ns : List Str} {r b m b2 m2 : Nat} {d : PyData} {ds : List PyData} {ws : List Str} (h : IsB ns r b m b2 m2 (d :: ds) ws) : ∃ b1 m1 w1 w2, ws = w1 ++ w2 ∧ IsB ns r b m b1 m1 [d] w1 ∧ IsB ns r b1 m1 b2 m2 ds w2 := by
  cases h with
  | pay hs he h => exact ⟨_, _, _, _, rfl, by simpa using IsB.pay hs he .nil, h⟩
  | show_ hs he h => exact ⟨_, _, _, _, rfl, by simpa using IsB.show_ hs he .nil, h⟩
  | set_ hs he h => exact ⟨_, _, _, _, rfl, by simpa using IsB.set_ hs he .nil, h⟩
  | draw hs h0 h1 hb h => exact ⟨_, _, [_, _, _], _, rfl, IsB.draw hs h0 h1 hb .nil, h⟩
  | move hc hs h0 h1 hb h => exact ⟨_, _, [_, _, _], _, rfl, IsB.move hc hs h0 h1 hb .nil, h⟩
  | ite he ht ho lt lo h => exact ⟨_, _, _, _, rfl, by simpa using IsB.ite he ht ho lt lo .nil, h⟩
def SB : Nat → Nat
  | 0 => 65
  | r + 1 => 66 + 5 * SB r
theorem IsE.len {ns : List Str} {n : Nat} {d : PyData} {ws : List Str} (h : IsE ns n d ws) : ws.length < 2 ^ n := by
  induction h with
  | @num k _ h0 h1 =>
    have := Nat.one_le_two_pow (n := k)
    show 1 < 2 ^ (_ + 1)
    rw [Nat.pow_succ]
    omega
  | @var k _ h =>
    have := Nat.one_le_two_pow (n := k)
    show 1 < 2 ^ (_ + 1)
    rw [Nat.pow_succ]
    omega
  | op h _ _ iha ihb =>
    rw [List.length_cons, List.length_append, Nat.pow_succ]
    omega
theorem sb_le (r : Nat) : 65 ≤ SB r := by
  cases r with
  | zero => exact Nat.le_refl _
  | succ r => show 65 ≤ 66 + _; omega
theorem IsB.len {ns : List Str} {r b m b1 m1 : Nat} {ds : List PyData} {ws : List Str} (h : IsB ns r b m b1 m1 ds ws) : ws.length ≤ ds.length * SB r := by
  induction h with
  | nil => simp
  | @pay r _ _ _ _ _ _ _ _ _ hs he h ih =>
    have h1 := he.len
    have h2 := sb_le r
    simp only [List.length_cons, List.length_append, Nat.add_mul, Nat.one_mul] at *
    omega
  | @show_ r _ _ _ _ _ _ _ _ _ hs he h ih =>
    have h1 := he.len
    have h2 := sb_le r
    simp only [List.length_cons, List.length_append, Nat.add_mul, Nat.one_mul] at *
    omega
  | @set_ r _ _ _ _ _ _ _ _ _ hs he h ih =>
    have h1 := he.len
    have h2 := sb_le r
    simp only [List.length_cons, List.length_append, Nat.add_mul, Nat.one_mul] at *
    omega
  | @draw r _ _ _ _ _ _ _ _ hs h0 h1 hb h ih =>
    have h2 := sb_le r
    simp only [List.length_cons, List.length_append, Nat.add_mul, Nat.one_mul] at *
    omega
  | @move r _ _ _ _ _ _ _ _ _ hc hs h0 h1 hb h ih =>
    have h2 := sb_le r
    simp only [List.length_cons, List.length_append, Nat.add_mul, Nat.one_mul] at *
    omega
  | @ite r _ _ _ _ _ _ _ _ _ we wt wo ws ts os ds he ht ho lt lo h iht iho ih =>
    have h1 := he.len
    have h3 : ts.length * SB r ≤ 3 * SB r := Nat.mul_le_mul_right _ lt
    have h4 : os.length * SB r ≤ 2 * SB r := Nat.mul_le_mul_right _ lo
    have h5 : (elseW os wo).length ≤ 1 + 2 * SB r := by
      unfold elseW
      split
      · simp
      · rw [List.length_cons]; omega
    have h6 : SB (r + 1) = 66 + 5 * SB r := rfl
    simp only [List.length_cons, List.length_append, List.length_nil, Nat.add_mul, Nat.one_mul] at *
    omega
section
variable {P : Program} {w : World} {K : PySem.W.Frag} {mg : Str → Option Value} {base : Heap}
def spValueA (K : PySem.W.Frag) : Sp := fun vs H Q E => ∃ n : Nat, n ≤ 5 ∧ spValue K n vs H Q E
theorem fn_l_valueA (T : Txt K mg) : Fn P w K mg base 8 (ga K "_law_value") (spValueA K) :=
  fun A outer s H us vs Q E hr e0 r ⟨n, hn, h⟩ => (fn_l_value T n).mono (by omega) A outer s H us vs Q E hr e0 r h
theorem val_s {p a : Addr} {B H : Hp} {ns : List Str} {i : Int} {Q : VK} {E : XK} (hi : i = 1 ∨ i = 2 ∨ i = 5) (e : Ex B H) (hb : B p = none) (hP : Pool p B H) (ha : B a = some (.lst (ns.map V.str))) (hl : ns.length ≤ 63)
    (k : ∀ (v : V) (B2 H2 : Hp) (d : PyData) (ws : List Str), Stp [p] B H B2 H2 → Pool p B2 H2 → Dp K B2 v d → IsE ns 6 d ws → Q v H2) : spValueA K [.ref p, .ref a, .int i] H Q E := by
  rcases hi with rfl | rfl | rfl
  · exact ⟨1, by omega, B, p, .ref a, ns, rfl, e, hb, hP, .lst (SqL.of ha) (dpa_strs ns), hl, fun v B2 H2 d s1 hP2 hd ⟨ws, hw⟩ => k v B2 H2 d ws s1 hP2 hd (hw.mono (by omega))⟩
  · exact ⟨2, by omega, B, p, .ref a, ns, rfl, e, hb, hP, .lst (SqL.of ha) (dpa_strs ns), hl, fun v B2 H2 d s1 hP2 hd ⟨ws, hw⟩ => k v B2 H2 d ws s1 hP2 hd (hw.mono (by omega))⟩
  · exact ⟨5, by omega, B, p, .ref a, ns, rfl, e, hb, hP, .lst (SqL.of ha) (dpa_strs ns), hl, fun v B2 H2 d s1 hP2 hd ⟨ws, hw⟩ => k v B2 H2 d ws s1 hP2 hd (hw.mono (by omega))⟩
/-- one of a tuple, drawn -/
theorem pick_t {σ : L2.St} {H : Hp} {Q : VK} {E : XK} {tt : TA} {ti : TE} {p : Addr} {B : Hp} {xs : List V} {n : Int} (e : Ex B H) (hb : B p = none) (hP : Pool p B H) (ht : ∀ H (Q' : List V → Hp → Prop), Q' xs H → tt σ H Q') (hi : ∀ H Q', spDraw [.ref p, .int n] H Q' E → ti σ H Q')
    (hn : (xs.length : Int) = n) (h0 : 0 < n) (h1 : n ≤ 1000)
    (k : ∀ (y : V) (H2 : Hp), y ∈ xs → Stp [p] B H B H2 → Pool p B H2 → Q y H2) : tOp (rIxT K) (tTup tt) ti σ H Q := by
  have hz : xs.length ≤ sizeLine := by
    have h : (1000 : Nat) ≤ sizeLine := by decide
    omega
  refine ht _ _ ⟨hz, fun t nt => hi _ _ ?_⟩
  have s1 := Stp.cell (ms := [p]) (o := .tup xs) e nt
  have hP1 := Pool.n1 (o := .tup xs) hP nt
  have htp : t ≠ p := hP.ne nt
  refine draw_s s1.in_ hb hP1 h0 (by omega) fun r H3 b0 b1 s3 hP3 hne => ?_
  obtain ⟨y, ey, my, _⟩ := at_get (xs := xs) b0 (by omega)
  exact ⟨t, _, _, _, rfl, rfl, SqT.of ((hne t htp).trans upd_same), ey, k y H3 my (s1.trans s3) hP3⟩
/-- one of the names, drawn -/
theorem name_t {σ : L2.St} {H : Hp} {Q : VK} {E : XK} {ta ti : TE} {p a : Addr} {B : Hp} {ns : List Str} (e : Ex B H) (hb : B p = none) (hP : Pool p B H) (ha : B a = some (.lst (ns.map V.str))) (h0 : 0 < ns.length) (hl : ns.length ≤ 63)
    (ht : ∀ Q' : VK, Q' (.ref a) H → ta σ H Q') (hi : ∀ Q', SqL K H a (ns.map V.str) → spDraw [.ref p, .int ((ns.map V.str).length : Int)] H Q' E → ti σ H Q')
    (k : ∀ (z : Str) (H2 : Hp), z ∈ ns → Stp [p] B H B H2 → Pool p B H2 → Q (.str z) H2) : tOp (rIxL K) ta ti σ H Q := by
  refine ht _ (hi _ (SqL.of (e _ _ ha)) ?_)
  refine draw_s e hb hP (by rw [List.length_map]; omega) (by rw [List.length_map]; omega) fun r H3 b0 b1 s3 hP3 hne => ?_
  obtain ⟨y, ey, my, _⟩ := at_get (xs := ns.map V.str) b0 b1
  obtain ⟨z, hz, rfl⟩ := List.mem_map.mp my
  exact ⟨a, _, _, _, rfl, rfl, SqL.of (s3.in_ _ _ ha), ey, k z H3 hz s3 hP3⟩
def scL (a : Addr) (ch co dr : Nat) (m : Int) : List (Key × V) := [(.inr "names", .ref a), (.inr "choose", .int ch), (.inr "come", .int co), (.inr "draw", .int dr), (.inr "most", .int 8), (.inr "next", .int m)]
def Scp (q a : Addr) (ns : List Str) (b m : Nat) (B H : Hp) : Prop := ∃ ch co dr : Nat, H q = some (.dK (scL a ch co dr m)) ∧ B a = some (.lst (ns.map V.str)) ∧ ch + co + dr + b ≤ 10 ∧ B q = none
theorem Scp.stp {q a : Addr} {ns : List Str} {b m : Nat} {ms : List Addr} {B H B2 H2 : Hp} (h : Scp q a ns b m B H) (s : Stp ms B H B2 H2) (n : q ∉ ms) : Scp q a ns b m B2 H2 := by
  obtain ⟨ch, co, dr, h1, h2, h3, h4⟩ := h
  exact ⟨ch, co, dr, s.fr _ _ n h1, s.base _ _ h2, h3, s.off h4 h1⟩
theorem Scp.nep {p q a : Addr} {ns : List Str} {b m : Nat} {B H : Hp} (h : Scp q a ns b m B H) (hP : Pool p B H) : q ≠ p := fun z => by
  obtain ⟨_, _, _, h1, _⟩ := h
  obtain ⟨_, h2, _⟩ := hP
  rw [z, h2] at h1
  cases h1
theorem sc_word {a : Addr} {ch co dr : Nat} {m : Int} {s : Str} (hs : s = "choose" ∨ s = "come" ∨ s = "draw") : ∃ c : Nat, valV (scL a ch co dr m) (.inr s) = some (.int c) ∧ (0 < c → ∃ ch' co' dr' : Nat, putK (scL a ch co dr m) (.inr s) (.int ((c : Int) - 1)) = scL a ch' co' dr' m ∧ ch' + co' + dr' + 1 = ch + co + dr) := by
  rcases hs with rfl | rfl | rfl
  · refine ⟨ch, rfl, fun h => ⟨ch - 1, co, dr, ?_, by omega⟩⟩
    rw [show ((ch : Int) - 1) = ((ch - 1 : Nat) : Int) by omega]
    rfl
  · refine ⟨co, rfl, fun h => ⟨ch, co - 1, dr, ?_, by omega⟩⟩
    rw [show ((co : Int) - 1) = ((co - 1 : Nat) : Int) by omega]
    rfl
  · refine ⟨dr, rfl, fun h => ⟨ch, co, dr - 1, ?_, by omega⟩⟩
    rw [show ((dr : Int) - 1) = ((dr - 1 : Nat) : Int) by omega]
    rfl
end
end LL
namespace LL
open PySem PySem.Spec PyProof.Rows L2 He Evl
section
variable {P : Program} {w : World} {K : PySem.W.Frag} {mg : Str → Option Value} {base : Heap}
def spStmt (K : PySem.W.Frag) (r : Nat) : Sp := fun vs H Q _ => ∃ (B : Hp) (p q a : Addr) (ns : List Str) (b m : Nat), vs = [.ref p, .ref q, .int (r : Int)] ∧ Ex B H ∧ B p = none ∧ Pool p B H ∧ Scp q a ns b m B H ∧ ns.length ≤ 63 ∧
  ∀ (v : V) (B2 H2 : Hp) (d : PyData) (ws : List Str) (b2 m2 : Nat), Stp [p, q] B H B2 H2 → Pool p B2 H2 → Scp q a ns b2 m2 B2 H2 → Dp K B2 v d → IsB ns r b m b2 m2 [d] ws → Q v H2
def spBlock (K : PySem.W.Frag) (r : Nat) : Sp := fun vs H Q _ => ∃ (B : Hp) (p q a : Addr) (ns : List Str) (b m : Nat) (mo : Int), vs = [.ref p, .ref q, .int (r : Int), .int mo] ∧ Ex B H ∧ B p = none ∧ Pool p B H ∧ Scp q a ns b m B H ∧ ns.length ≤ 63 ∧ 0 ≤ mo ∧ mo ≤ 9 ∧
  ∀ (v : V) (B2 H2 : Hp) (ds : List PyData) (ws : List Str) (b2 m2 : Nat), Stp [p, q] B H B2 H2 → Pool p B2 H2 → Scp q a ns b2 m2 B2 H2 → Dp K B2 v (.tuple ds) → IsB ns r b m b2 m2 ds ws → (ds.length : Int) ≤ mo → Q v H2
def spBlockP (K : PySem.W.Frag) : Nat → Sp
  | 0 => fun _ _ _ _ => False
  | r + 1 => spBlock K r
theorem w1 {p q : Addr} : ∀ x ∈ [p], x ∈ [p, q] := by simp
theorem fn_stmt (T : Txt K mg) (r : Nat) (IH : Fn P w K mg base (8 + 2 * r) (ga K "_law_block") (spBlockP K r)) : Fn P w K mg base (8 + 2 * r + 1) (ga K "_law_statement") (spStmt K r) := by
  refine fn_def T.d_l_statement sc_l_statement (fun _ _ _ _ _ _ us hl => match us, hl with | [_, _, _], _ => rfl) (fun vs H Q E h => ?_) (fun cdv A outer s H vs Q E hr h => ?_)
  · obtain ⟨B, p, q, a, ns, b, m, rfl, _⟩ := h
    rfl
  obtain ⟨B, p, q, a, ns, b, m, rfl, e, hb, hP, hS, hl, k⟩ := h
  have nd := sc_l_statement.nd
  have hr1 : Room 1 _ := hr.mono (by omega)
  have hr2 : Room 8 _ := hr.mono (by omega)
  refine ⟨_, pss_cons (ps_set (i := 3) nd rfl (by first | exact Or.inl rfl | exact Or.inr rfl) (pe_fn T.d_l_draw (fn_l_draw T) hr1 T.g_l_draw pc (pa_cons (pv 0) (pa_cons (pe_int) pa_nil))))
      (pss_cons (ps_set (i := 4) nd rfl (by first | exact Or.inl rfl | exact Or.inr rfl) (pe_dget (hu_of hr) (pv 1) (pe_str) (fun _ _ => rfl)))
      (Evl.pss_cut (ps_if (PW.pt (pw_and (pt_cmpR op_lt (pv 3) (pe_int) (nomark _)) (pw_and1 (pt_cmpR op_gt (pe_callB call_len_seq (by rfl) T.f_len PySem.boot_len (pa_cons (pv 4) pa_nil)) (pe_int) (nomark _))))) (pss_cons (ps_set (i := 5) nd rfl (by first | exact Or.inl rfl | exact Or.inr rfl) (pe_ix ix_tup (pe_tup (pa_cons (pe_str) (pa_cons (pe_str) (pa_cons (pe_str) (pa_cons (pe_str) (pa_cons (pe_str) (pa_cons (pe_str) pa_nil))))))) (pv 3) (fun _ _ => rfl)))
      (pss_one (ps_if (pt_cmpR op_gt (pe_dget (hu_of hr) (pv 1) (pv 5) (fun _ _ => rfl)) (pe_int) (nomark _)) (pss_cons (ps_dput (hu_of hr) (pv 1) (pv 5) (pe_op op_sub (pe_dget (hu_of hr) (pv 1) (pv 5) (fun _ _ => rfl)) (pe_int)) rfl)
      (pss_cons (ps_set (i := 6) nd rfl (by first | exact Or.inl rfl | exact Or.inr rfl) (pe_tup (pa_cons (pv 5) (pa_cons (pe_ix ix_list (pv 4) (pe_fn T.d_l_draw (fn_l_draw T) hr1 T.g_l_draw pc (pa_cons (pv 0) (pa_cons (pe_callB call_len_seq (by rfl) T.f_len PySem.boot_len (pa_cons (pv 4) pa_nil)) pa_nil))) (fun _ _ => rfl)) (pa_cons (pe_op op_add (pe_int) (pe_fn T.d_l_draw (fn_l_draw T) hr1 T.g_l_draw pc (pa_cons (pv 0) (pa_cons (pe_dget (hu_of hr) (pv 1) (pe_str) (fun _ _ => rfl)) pa_nil)))) pa_nil)))))
      (pss_cons (ps_if (pt_cmpR op_eq (pv 5) (pe_str) (nomark _)) (pss_one (ps_ret (pv 6))) (pss_nil))
      (pss_cons (ps_dput (hu_of hr) (pv 1) (pe_str) (pe_op op_add (pe_dget (hu_of hr) (pv 1) (pe_str) (fun _ _ => rfl)) (pe_int)) rfl)
      (pss_one (ps_ret (pe_op op_catT (pv 6) (pe_tup (pa_cons (pe_op op_sub (pe_dget (hu_of hr) (pv 1) (pe_str) (fun _ _ => rfl)) (pe_int)) pa_nil))))))))) (pss_nil)))) (pss_nil))
      (Evl.pss_cut (ps_if (PW.pt (pw_and (pt_cmpR op_lt (pv 3) (pe_int) (nomark _)) (pw_and1 (pt_cmpR op_gt (pv 2) (pe_int) (nomark _))))) (pss_cons (ps_set (i := 7) nd rfl (by first | exact Or.inl rfl | exact Or.inr rfl) (pe_fn T.d_l_value (fn_l_valueA T) hr2 T.g_l_value pc (pa_cons (pv 0) (pa_cons (pv 4) (pa_cons (pe_int) pa_nil)))))
      (pss_cons (ps_set (i := 8) nd rfl (by first | exact Or.inl rfl | exact Or.inr rfl) (pe_fn T.d_l_block IH hr T.g_l_block pc (pa_cons (pv 0) (pa_cons (pv 1) (pa_cons (pe_op op_sub (pv 2) (pe_int)) (pa_cons (pe_int) pa_nil))))))
      (pss_one (ps_ret (pe_tup (pa_cons (pe_str) (pa_cons (pv 7) (pa_cons (pv 8) (pa_cons (pe_fn T.d_l_block IH hr T.g_l_block pc (pa_cons (pv 0) (pa_cons (pv 1) (pa_cons (pe_op op_sub (pv 2) (pe_int)) (pa_cons (pe_int) pa_nil))))) pa_nil))))))))) (pss_nil))
      (Evl.pss_cut (ps_if (PW.pt (pw_and (pt_cmpR op_eq (pv 3) (pe_int) (nomark _)) (pw_and1 (pt_cmpR op_gt (pe_callB call_len_seq (by rfl) T.f_len PySem.boot_len (pa_cons (pv 4) pa_nil)) (pe_int) (nomark _))))) (pss_one (ps_ret (pe_tup (pa_cons (pe_str) (pa_cons (pe_ix ix_list (pv 4) (pe_fn T.d_l_draw (fn_l_draw T) hr1 T.g_l_draw pc (pa_cons (pv 0) (pa_cons (pe_callB call_len_seq (by rfl) T.f_len PySem.boot_len (pa_cons (pv 4) pa_nil)) pa_nil))) (fun _ _ => rfl)) (pa_cons (pe_fn T.d_l_value (fn_l_valueA T) hr2 T.g_l_value pc (pa_cons (pv 0) (pa_cons (pv 4) (pa_cons (pe_int) pa_nil)))) pa_nil)))))) (pss_nil))
      (pss_cons (ps_if (pt_cmpR op_lt (pv 3) (pe_int) (nomark _)) (pss_one (ps_ret (pe_tup (pa_cons (pe_str) (pa_cons (pe_ix ix_tup (pe_tup (pa_cons (pe_str) (pa_cons (pe_str) pa_nil))) (pe_fn T.d_l_draw (fn_l_draw T) hr1 T.g_l_draw pc (pa_cons (pv 0) (pa_cons (pe_int) pa_nil))) (fun _ _ => rfl)) (pa_cons (pe_fn T.d_l_value (fn_l_valueA T) hr2 T.g_l_value pc (pa_cons (pv 0) (pa_cons (pv 4) (pa_cons (pe_int) pa_nil)))) pa_nil)))))) (pss_nil))
      (pss_one (ps_ret (pe_tup (pa_cons (pe_ix ix_tup (pe_tup (pa_cons (pe_str) (pa_cons (pe_str) (pa_cons (pe_str) pa_nil)))) (pe_fn T.d_l_draw (fn_l_draw T) hr1 T.g_l_draw pc (pa_cons (pv 0) (pa_cons (pe_int) pa_nil))) (fun _ _ => rfl)) (pa_cons (pe_fn T.d_l_value (fn_l_valueA T) hr2 T.g_l_value pc (pa_cons (pv 0) (pa_cons (pv 4) (pa_cons (pe_int) pa_nil)))) pa_nil)))))))))), ?_⟩
  have hqp : q ≠ p := hS.nep hP
  have hqn : q ∉ [p] := by simpa using hqp
  refine ⟨_, rfl, ?_⟩
  dsimp only [tCons, tNil, tC]
  refine draw_s e hb hP (by decide) (by decide) fun kd H1 a0 a1 s1 hP1 _ => ?_
  have hS1 := hS.stp s1 hqn
  have s1 := s1.wk (w1 (q := q))
  clear hP hS
  obtain ⟨ch, co, dr, hq1, ha, _⟩ := id hS1
  refine ⟨_, rfl, q, _, rfl, DGet.k (k := .inr "names") hq1, ?_⟩
  refine ⟨fun σ H' => ∃ v5 : Option V, Stp [p, q] B H B H' ∧ Pool p B H' ∧ Scp q a ns b m B H' ∧ σ = [some (.ref p), some (.ref q), some (.int (r : Int)), some (.int kd), some (.ref a), v5, none, none, none], ?_, ?_⟩
  · have en : ∃ v5 : Option V, Stp [p, q] B H B H1 ∧ Pool p B H1 ∧ Scp q a ns b m B H1 ∧ [some (V.ref p), some (.ref q), some (.int (r : Int)), some (.int kd), some (.ref a), none, none, none, none] = [some (.ref p), some (.ref q), some (.int (r : Int)), some (.int kd), some (.ref a), v5, none, none, none] := ⟨none, s1, hP1, hS1, rfl⟩
    have sx := SqL.of (K := K) (s1.in_ _ _ ha)
    refine ⟨_, rfl, _, _, rfl, rfl, _, rfl, ite2 (fun c1 => ?_) fun c1 => iteF en⟩
    refine ⟨_, rfl, a, _, rfl, .inl sx, _, _, rfl, rfl, _, rfl, ite2 (fun c2 => ?_) fun c2 => en⟩
    have hl0 : 0 < ns.length := by
      have := of_decide_eq_true c2
      rw [List.length_map] at this
      omega
    have hk6 : kd < 6 := of_decide_eq_true c1
    obtain ⟨y, ey, my, _⟩ := at_get (xs := [V.str "choose", V.str "come", V.str "draw", V.str "choose", V.str "come", V.str "choose"]) a0 (by show kd < 6; exact hk6)
    obtain ⟨wd, rfl, hw⟩ : ∃ wd : Str, y = V.str wd ∧ (wd = "choose" ∨ wd = "come" ∨ wd = "draw") := by
      simp only [List.mem_cons, List.not_mem_nil, or_false] at my
      rcases my with rfl | rfl | rfl | rfl | rfl | rfl
      · exact ⟨_, rfl, .inl rfl⟩
      · exact ⟨_, rfl, .inr (.inl rfl)⟩
      · exact ⟨_, rfl, .inr (.inr rfl)⟩
      · exact ⟨_, rfl, .inl rfl⟩
      · exact ⟨_, rfl, .inr (.inl rfl)⟩
      · exact ⟨_, rfl, .inl rfl⟩
    refine ⟨(by show 6 ≤ sizeLine; decide), fun t nt => ⟨_, rfl, t, _, _, _, rfl, rfl, SqT.of upd_same, ey, ?_⟩⟩
    have t1 := Stp.cell (ms := []) (o := .tup [V.str "choose", V.str "come", V.str "draw", V.str "choose", V.str "come", V.str "choose"]) s1.in_ nt
    have hP2 := hP1.stp t1 (by simp)
    have hS2 := hS1.stp t1 (by simp)
    have s2 := s1.trans t1.nil
    clear en hP1 hS1
    obtain ⟨ch, co, dr, hq2, ha, hsum, hqb⟩ := id hS2
    obtain ⟨c, hc, hput⟩ := sc_word (a := a) (ch := ch) (co := co) (dr := dr) (m := m) hw
    have hg := DGet.k (k := .inr wd) hq2
    rw [hc] at hg
    refine ⟨_, rfl, _, rfl, q, _, rfl, hg, _, _, rfl, rfl, _, rfl, ite2 (fun c3 => ?_) fun c3 => ⟨_, s2, hP2, hS2, rfl⟩⟩
    have hc0 : 0 < c := by
      have := of_decide_eq_true c3
      omega
    obtain ⟨ch2, co2, dr2, hput, hsum2⟩ := hput hc0
    refine ⟨_, rfl, _, rfl, q, _, rfl, hg, _, _, rfl, rfl, _, rfl, _, rfl, q, _, rfl, DPut.k (k := .inr wd) hq2 (by show 6 < sizeLine; decide), ?_⟩
    rw [hput]
    have t2 := Stp.put (ms := [q]) (o := .dK (scL a ch2 co2 dr2 m)) s2.in_ hqb (.head _)
    have s3 := s2.trans (t2.wk (ns := [p, q]) (by simp))
    have hP3 := hP2.stp t2 (by simpa using hqp.symm)
    have hS3 : Scp q a ns (b + 1) m B (upd (upd H1 t (.tup [V.str "choose", V.str "come", V.str "draw", V.str "choose", V.str "come", V.str "choose"])) q (.dK (scL a ch2 co2 dr2 m))) := ⟨ch2, co2, dr2, upd_same, ha, by omega, hqb⟩
    refine ⟨_, rfl, ?_⟩
    dsimp only [tCons, tNil, tC]
    refine name_t s3.in_ hb hP3 ha hl0 hl (fun _ h => ⟨_, rfl, h⟩) (fun _ hx h => ⟨_, rfl, _, rfl, a, _, rfl, .inl hx, h⟩) fun z H4 hz t4 hP4 => ?_
    have hS4 := hS3.stp t4 hqn
    have s4 := s3.trans (t4.wk w1)
    obtain ⟨ch4, co4, dr4, hq4, _⟩ := id hS4
    refine ⟨_, rfl, _, rfl, q, _, rfl, DGet.k (k := .inr "most") hq4, ?_⟩
    refine draw_s (n := 8) s4.in_ hb hP4 (by decide) (by decide) fun n H5 b0 b1 t5 hP5 _ => ?_
    have hS5 := hS4.stp t5 hqn
    have s5 := s4.trans (t5.wk w1)
    refine ⟨_, _, rfl, rfl, (by show 3 ≤ sizeLine; decide), fun u nu => ?_⟩
    have t6 := Stp.new (ms := []) (o := .tup [V.str wd, V.str z, V.int (1 + n)]) s5.in_ nu
    have hP6 := hP5.stp t6 (by simp)
    have hS6 := hS5.stp t6 (by simp)
    have s6 := s5.trans t6.nil
    refine ⟨_, rfl, rfl, _, rfl, ite2 (fun c4 => ?_) fun c4 => ?_⟩
    · have ew : wd = "draw" := V.str.inj (of_decide_eq_true c4)
      subst ew
      refine ⟨_, rfl, k _ _ _ _ _ _ _ s6 hP6 hS6 (.tup (SqT.of upd_same) (.cons (.str _) (.cons (.str _) (.cons (.int _) .nil)))) (.draw hz (by omega) (by omega) (by omega) .nil)⟩
    · have hw2 : wd ∈ (["choose", "come"] : List Str) := by
        rcases hw with rfl | rfl | rfl
        · simp
        · simp
        · exact absurd rfl c4
      obtain ⟨ch6, co6, dr6, hq6, ha6, hs6, hqb6⟩ := id hS6
      refine ⟨_, rfl, q, _, rfl, DGet.k (k := .inr "next") hq6, _, _, rfl, rfl, _, rfl, q, _, rfl, DPut.k (k := .inr "next") hq6 (by show 6 < sizeLine; decide), ?_⟩
      have t7 := Stp.put (ms := [q]) (o := .dK (scL a ch6 co6 dr6 ((m : Int) + 1))) s6.in_ hqb6 (.head _)
      have s7 := s6.trans (t7.wk (ns := [p, q]) (by simp))
      have hP7 := hP6.stp t7 (by simpa using hqp.symm)
      have hS7 : Scp q a ns (b + 1) (m + 1) (upd B u (.tup [V.str wd, V.str z, V.int (1 + n)])) (upd (upd H5 u (.tup [V.str wd, V.str z, V.int (1 + n)])) q (.dK (scL a ch6 co6 dr6 ((m : Int) + 1)))) := ⟨ch6, co6, dr6, by rw [show ((m + 1 : Nat) : Int) = (m : Int) + 1 by omega]; exact upd_same, ha6, by omega, hqb6⟩
      have hq7 : (upd (upd H5 u (.tup [V.str wd, V.str z, V.int (1 + n)])) q (.dK (scL a ch6 co6 dr6 ((m : Int) + 1)))) q = _ := upd_same
      refine ⟨_, rfl, _, rfl, q, _, rfl, DGet.k (k := .inr "next") hq7, _, _, rfl, rfl, (by show 1 ≤ sizeLine; decide), fun x nx => ?_⟩
      have t8 := Stp.cell (ms := []) (o := .tup [V.int ((m : Int) + 1 - 1)]) s7.in_ nx
      have hP8 := hP7.stp t8 (by simp)
      have hS8 := hS7.stp t8 (by simp)
      have s8 := s7.trans t8.nil
      refine ⟨u, x, [V.str wd, V.str z, V.int (1 + n)], [V.int ((m : Int) + 1 - 1)], rfl, rfl, SqT.of (s8.in_ _ _ upd_same), SqT.of upd_same, by simp, (by show 4 ≤ sizeLine; decide), (fun z => nomatch z), fun _ y ny => ?_⟩
      have t9 := Stp.new (ms := []) (o := .tup ([V.str wd, V.str z, V.int (1 + n)] ++ [V.int ((m : Int) + 1 - 1)])) s8.in_ ny
      have ib : IsB ns r b m (b + 1) (m + 1) [.tuple [.str wd, .str z, .int (1 + n), .int ((m : Int) + 1 - 1)]] [wd, z, istr (1 + n)] := by
        rw [show (m : Int) + 1 - 1 = (m : Int) by omega]
        exact .move hw2 hz (by omega) (by omega) (by omega) .nil
      exact k _ _ _ _ _ _ _ (s8.trans t9.nil) (hP8.stp t9 (by simp)) (hS8.stp t9 (by simp)) (.tup (SqT.of upd_same) (.cons (.str _) (.cons (.str _) (.cons (.int _) (.cons (.int _) .nil))))) ib
  rintro σ H2 ⟨v5, s2, hP2, hS2, rfl⟩
  refine ⟨fun σ H' => H2 = H' ∧ σ = [some (.ref p), some (.ref q), some (.int (r : Int)), some (.int kd), some (.ref a), v5, none, none, none], ?_, ?_⟩
  · refine ⟨_, rfl, _, _, rfl, rfl, _, rfl, ite2 (fun c1 => ?_) fun c1 => iteF ⟨rfl, rfl⟩⟩
    refine ⟨_, rfl, _, _, rfl, rfl, _, rfl, ite2 (fun c2 => ?_) fun c2 => ⟨rfl, rfl⟩⟩
    obtain ⟨r', rfl⟩ : ∃ r', r = r' + 1 := ⟨r - 1, by have := of_decide_eq_true c2; omega⟩
    have er : ((r' + 1 : Nat) : Int) - 1 = (r' : Int) := by omega
    refine ⟨_, rfl, _, rfl, ?_⟩
    dsimp only [tCons, tNil, tC]
    have hP3 := hP2
    have hS3 := hS2
    have s3 := s2
    refine val_s (.inl rfl) s3.in_ hb hP3 ha hl fun v4 B4 H4 d4 w4 t4 hP4 hd4 ie => ?_
    have hS4 := hS3.stp t4 hqn
    have s4 := s3.trans (t4.wk w1)
    have hb4 := t4.off hb hP3.at.choose_spec
    refine ⟨_, rfl, _, rfl, _, rfl, _, _, rfl, rfl, ?_⟩
    refine ⟨B4, p, q, a, ns, b, m, 3, by show [V.ref p, V.ref q, V.int (((r' + 1 : Nat) : Int) - 1), V.int 3] = _; rw [er], s4.in_, hb4, hP4, hS4, hl, by decide, by decide, fun v6 B6 H6 ds6 w6 b6 m6 t6 hP6 hS6 hd6 ib6 hl6 => ?_⟩
    have s6 := s4.trans t6
    have hb6 := t6.off hb4 hP4.at.choose_spec
    refine ⟨_, rfl, _, rfl, _, rfl, _, rfl, _, rfl, _, _, rfl, rfl, ?_⟩
    refine ⟨B6, p, q, a, ns, b6, m6, 2, by show [V.ref p, V.ref q, V.int (((r' + 1 : Nat) : Int) - 1), V.int 2] = _; rw [er], s6.in_, hb6, hP6, hS6, hl, by decide, by decide, fun v7 B7 H7 ds7 w7 b7 m7 t7 hP7 hS7 hd7 ib7 hl7 => ?_⟩
    have s7 := s6.trans t7
    refine ⟨(by show 4 ≤ sizeLine; decide), fun u nu => ?_⟩
    have t9 := Stp.new (ms := []) (o := .tup [V.str "if", v4, v6, v7]) s7.in_ nu
    exact k _ _ _ _ _ _ _ (s7.trans t9.nil) (hP7.stp t9 (by simp)) (hS7.stp t9 (by simp)) (.tup (SqT.of upd_same) (.cons (.str _) (.cons (dp_mono (t6.base.trans (t7.base.trans t9.base)) hd4) (.cons (dp_mono (t7.base.trans t9.base) hd6) (.cons (dp_mono t9.base hd7) .nil))))) (.ite ie ib6 ib7 (by omega) (by omega) .nil)
  rintro σ H' ⟨rfl, rfl⟩
  refine ⟨fun σ H' => H2 = H' ∧ σ = [some (.ref p), some (.ref q), some (.int (r : Int)), some (.int kd), some (.ref a), v5, none, none, none], ?_, ?_⟩
  · refine ⟨_, rfl, rfl, _, rfl, ite2 (fun c1 => ?_) fun c1 => iteF ⟨rfl, rfl⟩⟩
    have sx := SqL.of (K := K) (s2.in_ _ _ ha)
    refine ⟨_, rfl, a, _, rfl, .inl sx, _, _, rfl, rfl, _, rfl, ite2 (fun c2 => ?_) fun c2 => ⟨rfl, rfl⟩⟩
    have hl0 : 0 < ns.length := by
      have := of_decide_eq_true c2
      rw [List.length_map] at this
      omega
    dsimp only [tRet, tTup, tCons, tNil, tC]
    refine name_t s2.in_ hb hP2 ha hl0 hl (fun _ h => ⟨_, rfl, h⟩) (fun _ hx h => ⟨_, rfl, _, rfl, a, _, rfl, .inl hx, h⟩) fun z H3 hz t3 hP3 => ?_
    have hS3 := hS2.stp t3 hqn
    have s3 := s2.trans (t3.wk w1)
    refine ⟨_, rfl, _, rfl, ?_⟩
    have hP4 := hP3
    have hS4 := hS3
    have s4 := s3
    refine val_s (.inr (.inl rfl)) s4.in_ hb hP4 ha hl fun v5 B5 H5 d5 w5 t5 hP5 hd5 ie => ?_
    have hS5 := hS4.stp t5 hqn
    have s5 := s4.trans (t5.wk w1)
    refine ⟨(by show 3 ≤ sizeLine; decide), fun u nu => ?_⟩
    have t9 := Stp.new (ms := []) (o := .tup [V.str "set", V.str z, v5]) s5.in_ nu
    exact k _ _ _ _ _ _ _ (s5.trans t9.nil) (hP5.stp t9 (by simp)) (hS5.stp t9 (by simp)) (.tup (SqT.of upd_same) (.cons (.str _) (.cons (.str _) (.cons (dp_mono t9.base hd5) .nil)))) (.set_ hz ie .nil)
  rintro σ H' ⟨rfl, rfl⟩
  refine ⟨_, rfl, _, _, rfl, rfl, _, rfl, ite2 (fun c1 => ?_) fun c1 => ?_⟩
  · dsimp only [tRet, tTup, tCons, tNil, tC]
    refine pick_t (tt := tCons (tC (.str "chooser")) (tCons (tC (.str "comer")) tNil)) (xs := [.str "chooser", .str "comer"]) s2.in_ hb hP2 (fun _ _ h => h) (fun _ _ h => ⟨_, rfl, h⟩) rfl (by decide) (by decide) fun y H3 my t3 hP3 => ?_
    obtain ⟨z, rfl, hz⟩ : ∃ z : Str, y = .str z ∧ z ∈ (["chooser", "comer"] : List Str) := by
      simp only [List.mem_cons, List.not_mem_nil, or_false] at my
      rcases my with rfl | rfl <;> exact ⟨_, rfl, by simp⟩
    have hS3 := hS2.stp t3 hqn
    have s3 := s2.trans (t3.wk w1)
    refine ⟨_, rfl, _, rfl, ?_⟩
    have hP4 := hP3
    have hS4 := hS3
    have s4 := s3
    refine val_s (.inl rfl) s4.in_ hb hP4 ha hl fun v5 B5 H5 d5 w5 t5 hP5 hd5 ie => ?_
    have hS5 := hS4.stp t5 hqn
    have s5 := s4.trans (t5.wk w1)
    refine ⟨(by show 3 ≤ sizeLine; decide), fun u nu => ?_⟩
    have t9 := Stp.new (ms := []) (o := .tup [V.str "show", V.str z, v5]) s5.in_ nu
    exact k _ _ _ _ _ _ _ (s5.trans t9.nil) (hP5.stp t9 (by simp)) (hS5.stp t9 (by simp)) (.tup (SqT.of upd_same) (.cons (.str _) (.cons (.str _) (.cons (dp_mono t9.base hd5) .nil)))) (.show_ hz ie .nil)
  · dsimp only [tNext, tRet, tTup, tCons, tNil, tC]
    refine pick_t (tt := tCons (tC (.str "pay")) (tCons (tC (.str "pay")) (tCons (tC (.str "take")) tNil))) (xs := [.str "pay", .str "pay", .str "take"]) s2.in_ hb hP2 (fun _ _ h => h) (fun _ _ h => ⟨_, rfl, h⟩) rfl (by decide) (by decide) fun y H3 my t3 hP3 => ?_
    obtain ⟨z, rfl, hz⟩ : ∃ z : Str, y = .str z ∧ z ∈ (["pay", "take"] : List Str) := by
      simp only [List.mem_cons, List.not_mem_nil, or_false] at my
      rcases my with rfl | rfl | rfl <;> exact ⟨_, rfl, by simp⟩
    have hS3 := hS2.stp t3 hqn
    have s3 := s2.trans (t3.wk w1)
    refine ⟨_, rfl, _, rfl, ?_⟩
    have hP4 := hP3
    have hS4 := hS3
    have s4 := s3
    refine val_s (.inr (.inl rfl)) s4.in_ hb hP4 ha hl fun v5 B5 H5 d5 w5 t5 hP5 hd5 ie => ?_
    have hS5 := hS4.stp t5 hqn
    have s5 := s4.trans (t5.wk w1)
    refine ⟨(by show 2 ≤ sizeLine; decide), fun u nu => ?_⟩
    have t9 := Stp.new (ms := []) (o := .tup [V.str z, v5]) s5.in_ nu
    exact k _ _ _ _ _ _ _ (s5.trans t9.nil) (hP5.stp t9 (by simp)) (hS5.stp t9 (by simp)) (.tup (SqT.of upd_same) (.cons (.str _) (.cons (dp_mono t9.base hd5) .nil))) (.pay hz ie .nil)
end
end LL
namespace LL
open PySem PySem.Spec PyProof.Rows L2 He Evl
theorem upd_twice {H : Hp} {a : Addr} {o u : HO} : upd (upd H a o) a u = upd H a u := by
  funext b
  by_cases z : b = a
  · subst z; rw [upd_same, upd_same]
  · rw [upd_ne z, upd_ne z, upd_ne z]
theorem dpa_app {K : PySem.W.Frag} {H : Hp} : ∀ {vs : List V} {ds : List PyData}, DpAll K H vs ds → ∀ {v : V} {d : PyData}, Dp K H v d → DpAll K H (vs ++ [v]) (ds ++ [d])
  | _, _, .nil, _, _, h => .cons h .nil
  | _, _, .cons h1 h2, _, _, h => .cons h1 (dpa_app h2 h)
section
variable {P : Program} {w : World} {K : PySem.W.Frag} {mg : Str → Option Value} {base : Heap}
theorem fn_block1 (T : Txt K mg) (r : Nat) (IH : Fn P w K mg base (8 + 2 * r + 1) (ga K "_law_statement") (spStmt K r)) : Fn P w K mg base (8 + 2 * r + 1 + 1) (ga K "_law_block") (spBlock K r) := by
  refine fn_def T.d_l_block sc_l_block (fun _ _ _ _ _ _ us hl => match us, hl with | [_, _, _, _], _ => rfl) (fun vs H Q E h => ?_) (fun cdv A outer s H vs Q E hr h => ?_)
  · obtain ⟨B, p, q, a, ns, b, m, mo, rfl, _⟩ := h
    rfl
  obtain ⟨B, p, q, a, ns, b, m, mo, rfl, e, hb, hP, hS, hl, m0, m9, k⟩ := h
  have nd := sc_l_block.nd
  have hr1 : Room 1 _ := hr.mono (by omega)
  refine ⟨_, pss_cons (ps_set (i := 4) nd rfl (by first | exact Or.inl rfl | exact Or.inr rfl) (pe_lst pa_nil))
      (pss_cons (ps_for (passes_of rfl) rfl (pi_range1 rfl T.f_range (pa_cons (pe_fn T.d_l_draw (fn_l_draw T) hr1 T.g_l_draw pc (pa_cons (pv 0) (pa_cons (pe_op op_add (pv 3) (pe_int)) pa_nil))) pa_nil)) (pg_name (i := 5) nd rfl (by first | exact Or.inl rfl | exact Or.inr rfl)) (pss_one (ps_if (pt_val (pe_fn T.d_l_spend (fn_l_spend T) hr1 T.g_l_spend pc (pa_cons (pv 0) pa_nil))) (pss_one (ps_expr (pe_bm PySem.F.plainAttrs_list PySem.F.slot_list_append PySem.F.type_list_append mt_append (pv 4) (pa_cons (pe_fn T.d_l_statement IH hr T.g_l_statement pc (pa_cons (pv 0) (pa_cons (pv 1) (pa_cons (pv 2) pa_nil)))) pa_nil)))) (pss_nil))))
      (pss_one (ps_ret (pe_callTy call_tuple_of (by rfl) T.f_tuple (by decide +kernel) (pa_cons (pv 4) pa_nil))))), ?_⟩
  have hqp : q ≠ p := hS.nep hP
  have hqn : q ∉ [p] := by simpa using hqp
  refine ⟨(by show 0 ≤ sizeLine; decide), fun c nc => ?_⟩
  have e0 : Ex B (upd H c (.lst [])) := Ex.mut e (ex_none e nc)
  have hcp : c ≠ p := hP.ne nc
  have hP0 := hP.n1 (o := .lst []) nc
  have hS0 := hS.stp (Stp.cell (ms := []) (o := .lst []) e nc) (by simp)
  have hcq : c ≠ q := fun z => by
    obtain ⟨_, _, _, h1, _⟩ := hS
    rw [← z, nc] at h1
    cases h1
  have hcn : c ∉ [p, q] := by simp [hcp, hcq]
  refine ⟨_, rfl, _, rfl, _, _, rfl, rfl, ?_⟩
  dsimp only [tCons, tNil, tC]
  refine draw_s e0 hb hP0 (by omega) (by omega) fun n H1 a0 a1 s1 hP1 hne => ?_
  have hS1 := hS0.stp s1 hqn
  refine ⟨n, rfl, by omega, by omega, for_range (D := ⟨_, _, fun _ _ => False, fun _ _ => False⟩) (lo := 0) (n := n.toNat)
    (fun i σ H' => ∃ (B' : Hp) (vs : List V) (ds : List PyData) (ws : List Str) (b' m' : Nat) (v5 : Option V), Stp [c, p, q] B (upd H c (.lst [])) B' H' ∧ Pool p B' H' ∧ Scp q a ns b' m' B' H' ∧ H' c = some (.lst vs) ∧ DpAll K B' vs ds ∧ IsB ns r b m b' m' ds ws ∧ ds.length ≤ i ∧
      B' p = none ∧ σ = [some (.ref p), some (.ref q), some (.int (r : Int)), some (.int mo), some (.ref c), v5]) ?_ ?_ ?_⟩
  · exact ⟨B, [], [], [], b, m, none, s1.wk (by simp), hP1, hS1, (hne c hcp).trans upd_same, .nil, .nil, Nat.le_refl _, hb, rfl⟩
  · rintro i σ H2 hi ⟨B2, vs, ds, ws, b2, m2, v5, s2, hP2, hS2, hc2, hd2, ib2, hl2, hb2, rfl⟩
    refine ⟨_, rfl, B2, p, rfl, s2.in_, hb2, hP2, fun bb H3 t3 hP3 => ?_⟩
    have hS3 := hS2.stp t3 hqn
    have s3 := s2.trans (t3.wk (ns := [c, p, q]) (by simp))
    have hc3 := t3.fr c _ (by simpa using hcp) hc2
    refine ⟨_, rfl, ite2 (fun c1 => ?_) fun c1 => ⟨B2, vs, ds, ws, b2, m2, _, s3, hP3, hS3, hc3, hd2, ib2, by omega, hb2, rfl⟩⟩
    refine ⟨_, rfl, .inl ⟨rfl, _, SqL.of hc3⟩, _, rfl, _, rfl, _, rfl, B2, p, q, a, ns, b2, m2, rfl, s3.in_, hb2, hP3, hS3, hl, fun v B4 H4 d4 w4 b4 m4 t4 hP4 hS4 hd4 ib4 => ?_⟩
    have s4 := s3.trans (t4.wk (ns := [c, p, q]) (by simp))
    have hc4 := t4.fr c _ hcn hc3
    have hcb4 : B4 c = none := s4.off (ex_none e nc) upd_same
    have hvl := dp_all_len hd2
    refine ⟨c, _, _, rfl, rfl, hc4, small1000 (by omega), B4, vs ++ [v], ds ++ [d4], ws ++ w4, b4, m4, _, s4.trans (Stp.put s4.in_ hcb4 (.head _)), hP4.p1 hcp, hS4.stp (Stp.put (ms := [c]) s4.in_ hcb4 (.head _)) (by simpa using hcq.symm), upd_same,
      dpa_app (dpa_mono t4.base hd2) hd4, ib2.app ib4, by simp; omega, t4.off hb2 hP3.at.choose_spec, rfl⟩
  · rintro σ H2 ⟨B2, vs, ds, ws, b2, m2, v5, s2, hP2, hS2, hc2, hd2, ib2, hl2, hb2, rfl⟩
    refine ⟨_, rfl, c, _, rfl, .inl ⟨SqL.of hc2, fun l nl => ?_⟩⟩
    have s3 := Stp.with nc s2
    have t4 := Stp.new (ms := []) (o := .tup vs) s2.in_ nl
    exact k _ _ _ ds ws b2 m2 (s3.trans t4.nil) (hP2.stp t4 (by simp)) (hS2.stp t4 (by simp)) (.tup (SqT.of upd_same) (dpa_mono t4.base hd2)) ib2 (by omega)
theorem fn_l_block (T : Txt K mg) : ∀ r, Fn P w K mg base (8 + 2 * r + 1 + 1) (ga K "_law_block") (spBlock K r) := by
  intro r
  induction r with
  | zero => exact fn_block1 T 0 (fn_stmt T 0 (fun _ _ _ _ _ _ _ _ _ _ _ h => h.elim))
  | succ r ih => exact fn_block1 T (r + 1) (fn_stmt T (r + 1) ih)
theorem pcN {X : Cx} {P : Program} {w : World} : Passes (L2.CX P w) X (fun _ _ _ => False) := fun _ _ _ _ _ _ _ h => by
  obtain ⟨_, _, _, _, _, _, _, _, _, _, _, _, h⟩ := h
  exact h.elim
theorem yes_if {σ : L2.St} {H : Hp} {A B : Hp → Prop} (h : A H) : tYes σ H (fun b H3 => if b = true then A H3 else B H3) := by
  show (if true = true then A H else B H)
  rw [if_pos rfl]
  exact h
def varD (x : Str × Int) : PyData := .tuple [.str x.1, .int x.2]
/-- a game's variables and rows, and its words -/
structure IsG (xs : List (Str × Int)) (ds : List PyData) (ws : List Str) : Prop where
  nd : (xs.map Prod.fst).Nodup
  ok : ∀ x ∈ xs, IsName x.1 ∧ 1 ≤ x.2 ∧ x.2 ≤ 65535
  l5 : xs.length ≤ 5
  l9 : ds.length ≤ 9
  rows : ∃ b m, IsB (xs.map Prod.fst) 4 0 0 b m ds ws
def spGame (K : PySem.W.Frag) : Sp := fun vs H Q _ => ∃ (B : Hp) (p : Addr), vs = [.ref p, .int 4, .int 8] ∧ Ex B H ∧ B p = none ∧ Pool p B H ∧
  ∀ (v : V) (B2 H2 : Hp) (xs : List (Str × Int)) (ds : List PyData) (ws : List Str), Stp [p] B H B2 H2 → Pool p B2 H2 → Dp K B2 v (.tuple [.tuple (xs.map varD), .tuple ds]) → IsG xs ds ws → Q v H2
theorem fn_l_game (T : Txt K mg) : Fn P w K mg base 19 (ga K "_law_game") (spGame K) := by
  refine fn_def T.d_l_game sc_l_game (fun _ _ _ _ _ _ us hl => match us, hl with | [_, _, _], _ => rfl) (fun vs H Q E h => ?_) (fun cdv A outer s H vs Q E hr h => ?_)
  · obtain ⟨B, p, rfl, _⟩ := h
    rfl
  obtain ⟨B, p, rfl, e, hb, hP, k⟩ := h
  have nd := sc_l_game.nd
  refine ⟨_, pss_cons (ps_set (i := 3) nd rfl (by first | exact Or.inl rfl | exact Or.inr rfl) (pe_fn T.d_l_names (fn_l_names T) (hr.mono (by decide)) T.g_l_names pc (pa_cons (pv 0) (pa_cons (pe_fn T.d_l_draw (fn_l_draw T) (hr.mono (by decide)) T.g_l_draw pc (pa_cons (pv 0) (pa_cons (pe_int) pa_nil))) pa_nil))))
      (pss_cons (ps_setLc (i := 5) (own := [("_law_k", 4)]) (g := gName 4) (tt := tYes) rfl nd rfl rfl (sw_true rfl rfl rfl (by decide +kernel)) (pi_range1 rfl T.f_range (pa_cons (pe_callB call_len_seq (by rfl) T.f_len PySem.boot_len (pa_cons (pv 3) pa_nil)) pa_nil)) (blkOk_by (N := n_l_game) (sc := defScope s_l_game) (by decide +kernel)) (fun _ _ _ _ _ => pg_name (i := 4) nd rfl (by first | exact Or.inl rfl | exact Or.inr rfl)) (fun _ _ _ _ _ => pts_nil) (fun _ _ _ _ _ => pe_tup (pa_cons (pe_ix (ixk_list K) (pv 3) (pv 4) (fun _ _ => rfl)) (pa_cons (pe_op op_add (pe_int) (pe_ix (ixk_tup K) (pe_tup (pa_cons (pe_fn T.d_l_draw (fn_l_draw T) (hr.mono (by decide)) T.g_l_draw pcN (pa_cons (pv 0) (pa_cons (pe_int) pa_nil))) (pa_cons (pe_fn T.d_l_draw (fn_l_draw T) (hr.mono (by decide)) T.g_l_draw pcN (pa_cons (pv 0) (pa_cons (pe_int) pa_nil))) (pa_cons (pe_op op_fdivW (pe_fn T.d_l_number (fn_l_number T) (hr.mono (by decide)) T.g_l_number pcN (pa_cons (pv 0) pa_nil)) (pe_int)) pa_nil)))) (pe_fn T.d_l_draw (fn_l_draw T) (hr.mono (by decide)) T.g_l_draw pcN (pa_cons (pv 0) (pa_cons (pe_int) pa_nil))) (fun _ _ => rfl))) pa_nil))))
      (pss_cons (ps_set (i := 7) nd rfl (by first | exact Or.inl rfl | exact Or.inr rfl) (pe_disp (pps_cons (pe_str) (pe_lc (own := [("_law_row", 6)]) (g := gName 6) (tt := tYes) rfl nd (pi_list (pv 5)) (blkOk_by (N := n_l_game) (sc := defScope s_l_game) (by decide +kernel)) (fun _ _ _ _ _ => pg_name (i := 6) nd rfl (by first | exact Or.inl rfl | exact Or.inr rfl)) (fun _ _ _ _ _ => pts_nil) (fun _ _ _ _ _ => pe_ix (ixk_tup K) (pv 6) (pe_int) (fun _ _ => rfl))) (pps_cons (pe_str) (pv 1) (pps_cons (pe_str) (pv 1) (pps_cons (pe_str) (pe_op op_add (pe_int) (pe_op op_fdivW (pv 1) (pe_int))) (pps_cons (pe_str) (pv 2) (pps_cons (pe_str) (pe_int) pps_nil)))))) rfl rfl (by intro h; cases h) (by decide)))
      (pss_cons (ps_asg (pe_int) (pg_sub (pv 0) (pe_int) set_list))
      (pss_one (ps_ret (pe_tup (pa_cons (pe_callTy call_tuple_of (by rfl) T.f_tuple (by decide +kernel) (pa_cons (pv 5) pa_nil)) (pa_cons (pe_fn T.d_l_block (fn_l_block T 4) (hr.mono (by decide)) T.g_l_block pc (pa_cons (pv 0) (pa_cons (pv 7) (pa_cons (pe_int) (pa_cons (pe_int) pa_nil))))) pa_nil)))))))), ?_⟩
  refine ⟨_, rfl, _, rfl, ?_⟩
  dsimp only [tCons, tNil, tC]
  refine draw_s e hb hP (by decide) (by decide) fun n H1 a0 a1 s1 hP1 hne => ?_
  refine ⟨B, p, n, rfl, s1.in_, hb, hP1, a0, by omega, fun v B2 H2 ns t2 hP2 hd2 hnd hnm hln => ?_⟩
  have s2 := s1.trans t2
  have hb2 := t2.off hb hP1.at.choose_spec
  obtain ⟨a, vs, rfl, sx, dx⟩ := dp_list hd2
  have ev := dp_strs dx
  subst ev
  have sx2 := ex_l s2.in_ sx
  have hl5 : ns.length ≤ 5 := by omega
  have hnn : ((ns.map V.str).length : Int).toNat = ns.length := by rw [List.length_map]; omega
  refine ⟨_, rfl, a, _, rfl, .inl sx2, _, rfl, by omega, by rw [List.length_map]; omega, fun D nD => lc_range (lo := 0) (n := ((ns.map V.str).length : Int).toNat)
    (fun i H' => ∃ (B' : Hp) (xs : List (Str × Int)) (vs : List V), Stp [D, p] B2 (upd H2 D (.lst [])) B' H' ∧ Pool p B' H' ∧ B' p = none ∧ H' D = some (.lst vs) ∧ DpAll K B' vs (xs.map varD) ∧ xs.map Prod.fst = ns.take i ∧ (∀ x ∈ xs, 1 ≤ x.2 ∧ x.2 ≤ 65535)) ?_ ?_ ?_⟩
  · exact ⟨B2, [], [], Stp.refl (Ex.mut s2.in_ (ex_none s2.in_ nD)), hP2.n1 nD, hb2, upd_same, .nil, rfl, fun _ h => nomatch h⟩
  · rintro i H3 hi ⟨B3, xs, vs, s3, hP3, hb3, hD3, hd3, hx3, hok⟩
    rw [hnn] at hi
    have sx3 := ex_l s3.in_ (ex_l s3.base sx)
    have hDp : D ≠ p := hP2.ne nD
    have hDn : D ∉ [p] := by simpa using hDp
    have ei : atI (ns.map V.str) (0 + (i : Int)) = some (.str ns[i]) := by
      unfold atI
      rw [show (0 : Int) + (i : Int) = (i : Int) by omega, ixN_nat (by rw [List.length_map]; exact hi)]
      simp [hi]
    refine ⟨rfl, yes_if ?_⟩
    refine ⟨_, rfl, _, rfl, a, _, _, _, rfl, rfl, sx3, ei, _, rfl, ?_⟩
    dsimp only [tCons, tNil, tC]
    refine draw_s s3.in_ hb3 hP3 (by decide) (by decide) fun r1 H4 c0 c1 t4 hP4 _ => ?_
    have s4 := s3.trans (t4.wk (ns := [D, p]) (by simp))
    have hD4 := t4.fr D _ hDn hD3
    refine ⟨_, rfl, ?_⟩
    refine draw_s s4.in_ hb3 hP4 (by decide) (by decide) fun r2 H5 d0 d1 t5 hP5 _ => ?_
    have s5 := s4.trans (t5.wk (ns := [D, p]) (by simp))
    have hD5 := t5.fr D _ hDn hD4
    refine ⟨_, rfl, B3, p, rfl, s5.in_, hb3, hP5, fun r3 H6 f0 f1 t6 hP6 => ?_⟩
    have s6 := s5.trans (t6.wk (ns := [D, p]) (by simp))
    have hD6 := t6.fr D _ hDn hD5
    refine ⟨_, _, rfl, rfl, ⟨by decide, by decide +kernel⟩, (by show 3 ≤ sizeLine; decide), fun t nt => ?_⟩
    have t7 := Stp.cell (ms := []) (o := .tup [V.int r1, V.int r2, V.int (r3 / 2)]) s6.in_ nt
    have hP7 := hP6.stp t7 (by simp)
    have s7 := s6.trans t7.nil
    have hD7 := t7.fr D _ (by simp) hD6
    have htp : t ≠ p := hP6.ne nt
    refine ⟨_, rfl, ?_⟩
    refine draw_s s7.in_ hb3 hP7 (by decide) (by decide) fun r4 H8 g0 g1 t8 hP8 hne8 => ?_
    have s8 := s7.trans (t8.wk (ns := [D, p]) (by simp))
    have hD8 := t8.fr D _ hDn hD7
    obtain ⟨y, ey, my⟩ := at3 (a := .int r1) (b := .int r2) (c := .int (r3 / 2)) g0 g1
    obtain ⟨j, rfl, j0, j1⟩ : ∃ j : Int, y = .int j ∧ 0 ≤ j ∧ j ≤ 65534 := by
      rcases my with rfl | rfl | rfl <;> exact ⟨_, rfl, by omega, by omega⟩
    refine ⟨t, _, _, _, rfl, rfl, SqT.of ((hne8 t htp).trans upd_same), ey, _, _, rfl, rfl, (by show 2 ≤ sizeLine; decide), fun u nu => ?_⟩
    have t9 := Stp.new (ms := []) (o := .tup [V.str ns[i], V.int (1 + j)]) s8.in_ nu
    have hP9 := hP8.stp t9 (by simp)
    have s9 := s8.trans t9.nil
    have hD9 := t9.fr D _ (by simp) hD8
    have hDb := s9.off (ex_none s2.in_ nD) upd_same
    have hvl := dp_all_len hd3
    have hxl : xs.length = i := by
      have := congrArg List.length hx3
      rw [List.length_map, List.length_take] at this
      omega
    rw [List.length_map] at hvl
    refine ⟨vs, hD9, small1000 (by omega), _, xs ++ [(ns[i], 1 + j)], vs ++ [.ref u], s9.trans (Stp.put s9.in_ hDb (.head _)), hP9.p1 hDp, t9.off hb3 hP8.at.choose_spec, upd_same, ?_, ?_, ?_⟩
    · rw [List.map_append]
      exact dpa_app (dpa_mono t9.base hd3) (.tup (SqT.of upd_same) (.cons (.str _) (.cons (.int _) .nil)))
    · rw [List.map_append, hx3, List.take_add_one]
      simp [hi]
    · intro x hx
      rcases List.mem_append.mp hx with h | h
      · exact hok x h
      · rw [List.mem_singleton.mp h]; exact ⟨by show 1 ≤ 1 + j; omega, by show 1 + j ≤ 65535; omega⟩
  rintro H3 ⟨B3, xs, vs, s3, hP3, hb3, hD3, hd3, hx3, hok⟩
  rw [hnn, List.take_length] at hx3
  have s4 := Stp.close s2.in_ nD s3 hD3
  have hDp : D ≠ p := hP2.ne nD
  have hDb3 := s3.off (ex_none s2.in_ nD) upd_same
  have kk := Stp.keep s3.in_ hD3 hDb3
  have hP4 := hP3.of kk.1 rfl
  have hb4 : (upd B3 D (.lst vs)) p = none := by rw [upd_ne hDp.symm]; exact hb3
  have hd4 := dpa_mono kk.1 hd3
  have hDB4 : (upd B3 D (.lst vs)) D = _ := upd_same
  have s24 := s2.trans s4
  clear hP3 hb3 hd3 hDb3 hD3 s3 s4 s2 hP2 hd2 sx2 hb2
  refine fun q nq => ?_
  have hqp : q ≠ p := hP4.ne nq
  have hqB := ex_none s24.in_ nq
  have t5 := Stp.cell (ms := []) (o := .dK []) s24.in_ nq
  have hP5 := hP4.stp t5 (by simp)
  have s5 := s24.trans t5.nil
  have hvl := dp_all_len hd4
  rw [List.length_map] at hvl
  have hxl : xs.length = ns.length := by rw [← hx3, List.length_map]
  refine ⟨_, rfl, D, rfl, ⟨vs, SqL.of (t5.in_ _ _ hDB4)⟩, fun D2 nD2 => lc_list (xs := vs) (fun i H' => upd (upd H3 q (.dK [])) D2 (.lst ((ns.take i).map V.str)) = H') ?_ ?_ ?_ ?_⟩
  · exact rfl
  · rintro i H' _ rfl
    exact SqL.of ((Ex.new (o := .lst ((ns.take i).map V.str)) nD2) _ _ (t5.in_ _ _ hDB4))
  · rintro i x H' hx rfl
    have hi : i < vs.length := (List.getElem?_eq_some_iff.mp hx).1
    obtain ⟨x', d, hx', hdd, hxd⟩ := dp_all_get hd4 hi
    rw [hx] at hx'
    cases hx'
    rw [List.getElem?_map, List.getElem?_eq_getElem (by omega)] at hdd
    cases hdd
    obtain ⟨u, us, rfl, su, du⟩ := dp_tup hxd
    have hix : i < xs.length := by omega
    obtain ⟨z2, rfl⟩ : ∃ z2, us = [.str xs[i].1, z2] := by
      cases du with
      | cons h1 h2 => cases h1; cases h2 with
        | cons h3 h4 => cases h4; exact ⟨_, rfl⟩
    have exx : Ex (upd B3 D (.lst vs)) (upd (upd H3 q (.dK [])) D2 (.lst ((ns.take i).map V.str))) := t5.in_.trans (Ex.new nD2)
    refine ⟨rfl, yes_if ?_⟩
    refine ⟨_, rfl, u, _, _, _, rfl, rfl, ex_t exx su, rfl, _, upd_same, small1000 (by rw [List.length_map, List.length_take]; omega), ?_⟩
    have en : ns[i] = xs[i].1 := by
      have : (xs.map Prod.fst)[i]? = ns[i]? := by rw [hx3]
      rw [List.getElem?_map, List.getElem?_eq_getElem (by omega), List.getElem?_eq_getElem (by omega)] at this
      exact (Option.some.inj this).symm
    rw [upd_twice, List.take_add_one, List.getElem?_eq_getElem (by omega), en, List.map_append]
    rfl
  rintro H5 rfl
  rw [show vs.length = ns.length by omega, List.take_length]
  have hD2q : D2 ≠ q := fun z => by subst z; rw [upd_same] at nD2; cases nD2
  have t6 := Stp.new (ms := []) (o := .lst (ns.map V.str)) s5.in_ nD2
  have hP6 := hP5.stp t6 (by simp)
  have s6 := s5.trans t6.nil
  have hb6 := t6.off hb4 hP5.at.choose_spec
  have hq6 : (upd (upd H3 q (.dK [])) D2 (.lst (ns.map V.str))) q = some (.dK []) := by rw [upd_ne hD2q.symm]; exact upd_same
  have hqB6 := t6.off hqB upd_same
  refine ⟨_, rfl, _, rfl, _, rfl, _, _, rfl, rfl, ⟨by decide, by decide +kernel⟩, _, _, rfl, rfl, _, rfl, hq6, [(.inr "names", .ref D2), (.inr "choose", .int 4), (.inr "come", .int 4), (.inr "draw", .int (1 + 4 / 3)), (.inr "most", .int 8), (.inr "next", .int 0)], rfl, (by show 6 ≤ 15; decide), ?_⟩
  rw [show mergeK [] [(.inr "names", .ref D2), (.inr "choose", .int 4), (.inr "come", .int 4), (.inr "draw", .int (1 + 4 / 3)), (.inr "most", .int 8), (.inr "next", .int 0)] = scL D2 4 4 2 0 from rfl]
  have t7 := Stp.put (ms := [q]) (o := .dK (scL D2 4 4 2 0)) s6.in_ hqB6 (.head _)
  have hqH : H q = none := by
    cases hh : H q with
    | none => rfl
    | some o => exact absurd nq (s24.al q (by rw [hh]; exact fun z => nomatch z))
  have s7 := Stp.drop ((s6.wk (ns := [q, p]) (by simp)).trans (t7.wk (by simp))) hqH
  have hP7 := hP6.stp t7 (by simpa using hqp.symm)
  have hS7 : Scp q D2 ns 0 0 (upd (upd B3 D (.lst vs)) D2 (.lst (ns.map V.str))) (upd (upd (upd H3 q (.dK [])) D2 (.lst (ns.map V.str))) q (.dK (scL D2 4 4 2 0))) := ⟨4, 4, 2, upd_same, upd_same, by decide, hqB6⟩
  obtain ⟨⟨cells, at_, ix, big, st, run, bud⟩, hl7, hc7, hz7⟩ := hP7
  refine ⟨_, rfl, p, _, _, _, rfl, rfl, hl7, rfl, ?_⟩
  have t8 := Stp.put (ms := [p]) (o := .lst (Pl.l ⟨cells, at_, ix, big, st, run, 14⟩)) s7.in_ hb6 (.head _)
  have hP8 : Pool p _ (upd (upd (upd (upd H3 q (.dK [])) D2 (.lst (ns.map V.str))) q (.dK (scL D2 4 4 2 0))) p (.lst (Pl.l ⟨cells, at_, ix, big, st, run, 14⟩))) := ⟨⟨cells, at_, ix, big, st, run, 14⟩, upd_same, hc7, hz7⟩
  have hS8 := hS7.stp t8 (by simpa using hqp)
  have s8 := s7.trans t8
  have hDB8 : (upd (upd B3 D (.lst vs)) D2 (.lst (ns.map V.str))) D = _ := t6.base _ _ hDB4
  refine ⟨_, rfl, D, vs, rfl, .inl ⟨SqL.of (s8.in_ _ _ hDB8), fun l nl => ?_⟩⟩
  have t9 := Stp.new (ms := []) (o := .tup vs) s8.in_ nl
  have hP9 := hP8.stp t9 (by simp)
  have hS9 := hS8.stp t9 (by simp)
  have s9 := s8.trans t9.nil
  have hb9 := t9.off hb6 hP8.at.choose_spec
  refine ⟨_, rfl, _, rfl, _, p, q, D2, ns, 0, 0, 9, rfl, s9.in_, hb9, hP9, hS9, by omega, by decide, by decide, fun v B10 H10 ds ws b10 m10 t10 hP10 hS10 hd10 ib hl10 => ?_⟩
  have s10 := Stp.drop ((s9.wk (ns := [q, p]) (by simp)).trans (t10.wk (by simp))) hqH
  refine ⟨(by show 2 ≤ sizeLine; decide), fun u nu => ?_⟩
  have t11 := Stp.new (ms := []) (o := .tup [.ref l, v]) s10.in_ nu
  have hg : IsG xs ds ws := ⟨by rw [hx3]; exact hnd, fun x hx => ⟨hnm _ (by rw [← hx3]; exact List.mem_map_of_mem hx), hok x hx⟩, by omega, by omega, by rw [hx3]; exact ⟨_, _, ib⟩⟩
  exact k _ _ _ xs ds ws (s10.trans t11.nil) (hP10.stp t11 (by simp)) (.tup (SqT.of upd_same) (.cons (dp_mono t11.base (dp_mono t10.base (.tup (SqT.of upd_same) (dpa_mono t9.base (dpa_mono t6.base hd4))))) (.cons (dp_mono t11.base hd10) .nil))) hg
end
end LL
namespace LL
open PySem PySem.Spec PyProof.Rows L2 He Evl
section
variable {X : Cx}
/-- str of a number or of a text -/
theorem call_strIS : CallR X (.type "str") (fun xs H Q => (∃ i : Int, xs = [.int i] ∧ i.natAbs.log2 < 1920 ∧ Q (.str (istr i)) H) ∨ ∃ a, xs = [.str a] ∧ Q (.str a) H) := by
  intro pins s σ H xs us Q I r h
  rcases h with h | h
  · exact call_str_int pins s σ H xs us Q I r h
  · exact SkE.call_str_str pins s σ H xs us Q I r h
end
theorem log_small {i : Int} (h0 : 0 ≤ i) (h1 : i ≤ 65535) : i.natAbs.log2 < 1920 := by
  by_cases z : i.natAbs = 0
  · rw [z]; decide
  · rw [Nat.log2_lt z]
    have : (2 : Nat) ^ 16 ≤ 2 ^ 1920 := Nat.pow_le_pow_right (by decide) (by decide)
    omega
section
variable {P : Program} {w : World} {K : PySem.W.Frag} {mg : Str → Option Value} {base : Heap}
theorem dp_var {H : Hp} {v : V} {ds : List PyData} (h : Dp K H v (.tuple ds)) : ∃ a vs, v = .ref a ∧ SqT K H a vs ∧ DpAll K H vs ds := dp_tup h
theorem dpa_s {H : Hp} {vs : List V} {x : Str} {ds : List PyData} (h : DpAll K H vs (.str x :: ds)) : ∃ r, vs = .str x :: r ∧ DpAll K H r ds := by
  cases h with
  | cons h1 h2 => cases h1; exact ⟨_, rfl, h2⟩
theorem dpa_i {H : Hp} {vs : List V} {x : Int} {ds : List PyData} (h : DpAll K H vs (.int x :: ds)) : ∃ r, vs = .int x :: r ∧ DpAll K H r ds := by
  cases h with
  | cons h1 h2 => cases h1; exact ⟨_, rfl, h2⟩
theorem dpa_c {H : Hp} {vs : List V} {d : PyData} {ds : List PyData} (h : DpAll K H vs (d :: ds)) : ∃ v r, vs = v :: r ∧ Dp K H v d ∧ DpAll K H r ds := by
  cases h with
  | cons h1 h2 => exact ⟨_, _, rfl, h1, h2⟩
theorem dpa_n {H : Hp} {vs : List V} (h : DpAll K H vs []) : vs = [] := by cases h; rfl
/-- the words of an expression, a new list -/
def spVW (K : PySem.W.Frag) (n : Nat) : Sp := fun vs H Q _ => ∃ (x : V) (ns : List Str) (d : PyData) (ws : List Str), vs = [x] ∧ Dp K H x d ∧ IsE ns n d ws ∧ ∀ (l : Addr) (H2 : Hp), Ex H H2 → H l = none → H2 l = some (.lst (ws.map V.str)) → Q (.ref l) H2
theorem len63 {ns : List Str} {n : Nat} {d : PyData} {ws : List Str} (h : IsE ns n d ws) (hn : n ≤ 6) : ws.length ≤ 63 := by
  have h1 := h.len
  have h2 : (2 : Nat) ^ n ≤ 2 ^ 6 := Nat.pow_le_pow_right (by decide) hn
  omega
theorem big_ {n : Nat} (h : n ≤ 2000000) : n ≤ sizeLine := by
  have : (2000000 : Nat) ≤ sizeLine := by decide
  omega
theorem fn_vw1 (T : Txt K mg) (n : Nat) (hn : n ≤ 5) (IH : Fn P w K mg base n (ga K "_law_value_words") (spVW K n)) : Fn P w K mg base (n + 1) (ga K "_law_value_words") (spVW K (n + 1)) := by
  refine fn_def T.d_l_value_words sc_l_value_words (fun _ _ _ _ _ _ us hl => match us, hl with | [_], _ => rfl) (fun vs H Q E h => ?_) (fun cdv A outer s H vs Q E hr h => ?_)
  · obtain ⟨x, ns, d, ws, rfl, _⟩ := h
    rfl
  obtain ⟨x, ns, d, ws, rfl, hd, ie, k⟩ := h
  have nd := sc_l_value_words.nd
  refine ⟨_, pss_cons (ps_if (pt_cmpR op_eq (pe_callB call_len_seq (by rfl) T.f_len PySem.boot_len (pa_cons (pv 0) pa_nil)) (pe_int) (nomark _)) (pss_one (ps_ret (pe_lst (pa_cons (pe_callTy call_strIS (by rfl) T.f_str (by decide +kernel) (pa_cons (pe_ix ix_tup (pv 0) (pe_int) (fun _ _ => rfl)) pa_nil)) pa_nil)))) (pss_nil))
      (pss_one (ps_ret (pe_op op_cat (pe_op op_cat (pe_lst (pa_cons (pe_ix ix_tup (pv 0) (pe_int) (fun _ _ => rfl)) pa_nil)) (pe_fn T.d_l_value_words IH hr T.g_l_value_words pc (pa_cons (pe_ix ix_tup (pv 0) (pe_int) (fun _ _ => rfl)) pa_nil))) (pe_fn T.d_l_value_words IH hr T.g_l_value_words pc (pa_cons (pe_ix ix_tup (pv 0) (pe_int) (fun _ _ => rfl)) pa_nil))))), ?_⟩
  cases ie with
  | @num _ i h0 h1 =>
    obtain ⟨a, vs, rfl, sx, dx0⟩ := dp_tup hd
    obtain ⟨_, rfl, dx1⟩ := dpa_s dx0
    obtain ⟨_, rfl, dx2⟩ := dpa_i dx1
    cases dpa_n dx2
    refine ⟨_, rfl, a, _, rfl, .inr sx, rfl, _, rfl, ite2 (fun _ => ?_) fun c => absurd rfl c⟩
    exact ⟨_, rfl, a, _, _, _, rfl, rfl, sx, rfl, .inl ⟨i, rfl, log_small h0 h1, (by show 1 ≤ sizeLine; decide), fun l nl => k l _ (Ex.new nl) nl upd_same⟩⟩
  | @var _ x h =>
    obtain ⟨a, vs, rfl, sx, dx0⟩ := dp_tup hd
    obtain ⟨_, rfl, dx1⟩ := dpa_s dx0
    obtain ⟨_, rfl, dx2⟩ := dpa_s dx1
    cases dpa_n dx2
    refine ⟨_, rfl, a, _, rfl, .inr sx, rfl, _, rfl, ite2 (fun _ => ?_) fun c => absurd rfl c⟩
    exact ⟨_, rfl, a, _, _, _, rfl, rfl, sx, rfl, .inr ⟨x, rfl, (by show 1 ≤ sizeLine; decide), fun l nl => k l _ (Ex.new nl) nl upd_same⟩⟩
  | @op _ sg da db wa wb hs ha hb =>
    obtain ⟨a, vs, rfl, sx, dx0⟩ := dp_tup hd
    obtain ⟨_, rfl, dx1⟩ := dpa_s dx0
    obtain ⟨va, _, rfl, hva, dx2⟩ := dpa_c dx1
    obtain ⟨vb, _, rfl, hvb, dx3⟩ := dpa_c dx2
    cases dpa_n dx3
    have la := len63 ha (by omega)
    have lb := len63 hb (by omega)
    refine ⟨_, rfl, a, _, rfl, .inr sx, rfl, _, rfl, ite2 (fun c => ?_) fun _ => ?_⟩
    · exact absurd (of_decide_eq_true c) (fun z => absurd (V.int.inj z) (by show ¬ (3 : Int) = 2; decide))
    refine ⟨_, rfl, a, _, _, _, rfl, rfl, sx, rfl, (by show 1 ≤ sizeLine; decide), fun l nl => ?_⟩
    have e1 : Ex H (upd H l (.lst [V.str sg])) := Ex.new nl
    refine ⟨_, rfl, a, _, _, _, rfl, rfl, ex_t e1 sx, rfl, va, ns, da, wa, rfl, dp_mono e1 hva, ha, fun l1 H1 x1 n1 h1 => ?_⟩
    have e2 := e1.trans x1
    refine ⟨l, l1, _, _, rfl, rfl, x1 _ _ upd_same, h1, big_ (by simp; omega), fun l2 nl2 => ?_⟩
    have e3 := e2.trans (Ex.new (o := .lst ([V.str sg] ++ wa.map V.str)) nl2)
    refine ⟨_, rfl, a, _, _, _, rfl, rfl, ex_t e3 sx, rfl, vb, ns, db, wb, rfl, dp_mono e3 hvb, hb, fun l3 H3 x3 n3 h3 => ?_⟩
    have e4 := e3.trans x3
    refine ⟨l2, l3, _, _, rfl, rfl, x3 _ _ upd_same, h3, big_ (by simp; omega), fun l4 nl4 => ?_⟩
    refine k l4 _ (e4.trans (Ex.new nl4)) (fresh_back e4 nl4) ?_
    rw [upd_same, List.map_cons, List.map_append]
    rfl
theorem fn_vw (T : Txt K mg) : ∀ n, n ≤ 6 → Fn P w K mg base n (ga K "_law_value_words") (spVW K n)
  | 0, _ => fun _ _ _ _ _ _ _ _ _ _ _ ⟨_, _, _, _, _, _, h, _⟩ => nomatch h
  | n + 1, h => fn_vw1 T n (by omega) (fn_vw T n (by omega))
theorem fn_l_value_words (T : Txt K mg) : Fn P w K mg base 7 (ga K "_law_value_words") (spVW K 6) := (fn_vw T 6 (by decide)).mono (by decide)
end
end LL
namespace LL
open PySem PySem.Spec PyProof.Rows L2 He Evl
theorem sb4 {r : Nat} (h : r ≤ 4) : SB r ≤ 50921 := by
  rcases (show r = 0 ∨ r = 1 ∨ r = 2 ∨ r = 3 ∨ r = 4 by omega) with rfl | rfl | rfl | rfl | rfl <;> decide
theorem IsB.big {ns : List Str} {r b m b1 m1 : Nat} {ds : List PyData} {ws : List Str} (h : IsB ns r b m b1 m1 ds ws) (hr : r ≤ 4) (hd : ds.length ≤ 9) : ws.length ≤ 458289 := by
  have h1 := h.len
  have h2 := sb4 hr
  have h3 : ds.length * SB r ≤ 9 * 50921 := Nat.mul_le_mul hd h2
  omega
def MV_ : List Str := ["draw", "choose", "come"]
theorem mvN : ∀ s ∈ (["pay", "take", "show", "set"] : List Str), s ≠ "if" ∧ s ∉ MV_ := by decide +kernel
theorem mvI : ∀ s ∈ MV_, s ≠ "if" := by decide +kernel
section
variable {P : Program} {w : World} {K : PySem.W.Frag} {mg : Str → Option Value} {base : Heap}
def spBW (K : PySem.W.Frag) (r : Nat) : Sp := fun vs H Q _ => ∃ (x : V) (ns : List Str) (b m b2 m2 : Nat) (ds : List PyData) (ws : List Str), vs = [x] ∧ Dp K H x (.tuple ds) ∧ IsB ns r b m b2 m2 ds ws ∧ ds.length ≤ 9 ∧ ∀ (l : Addr) (H2 : Hp), Ex H H2 → H l = none → H2 l = some (.lst (ws.map V.str)) → Q (.ref l) H2
def spBWP (K : PySem.W.Frag) : Nat → Sp
  | 0 => fun _ _ _ _ => False
  | r + 1 => spBW K r
theorem drop_one {α : Type} {ds : List α} {i : Nat} {d : α} (h : ds[i]? = some d) : ds.drop i = d :: ds.drop (i + 1) := by
  obtain ⟨hi, e⟩ := List.getElem?_eq_some_iff.mp h
  rw [List.drop_eq_getElem_cons hi, e]
theorem fn_bw1 (T : Txt K mg) (r : Nat) (hr4 : r ≤ 4) (IH : Fn P w K mg base (7 + r) (ga K "_law_block_words") (spBWP K r)) : Fn P w K mg base (7 + r + 1) (ga K "_law_block_words") (spBW K r) := by
  refine fn_def T.d_l_block_words sc_l_block_words (fun _ _ _ _ _ _ us hl => match us, hl with | [_], _ => rfl) (fun vs H Q E h => ?_) (fun cdv A outer s H vs Q E hr h => ?_)
  · obtain ⟨x, ns, b, m, b2, m2, ds, ws, rfl, _⟩ := h
    rfl
  obtain ⟨x, ns, b, m, b2, m2, ds, ws, rfl, hd, ib, h9, k⟩ := h
  have nd := sc_l_block_words.nd
  have hr1 : Room 7 _ := hr.mono (by omega)
  refine ⟨_, pss_cons (ps_set (i := 1) nd rfl (by first | exact Or.inl rfl | exact Or.inr rfl) (pe_lst pa_nil))
      (pss_cons (ps_for (passes_of rfl) rfl (pi_tup (pv 0)) (pg_name (i := 2) nd rfl (by first | exact Or.inl rfl | exact Or.inr rfl)) (pss_one (ps_if (pt_cmpR op_eq (pe_ix ix_tup (pv 2) (pe_int) (fun _ _ => rfl)) (pe_str) (nomark _)) (pss_cons (ps_set (i := 1) nd rfl (by first | exact Or.inl rfl | exact Or.inr rfl) (pe_op op_cat (pe_op op_cat (pe_op op_cat (pv 1) (pe_lst (pa_cons (pe_str) pa_nil))) (pe_fn T.d_l_value_words (fn_l_value_words T) hr1 T.g_l_value_words pc (pa_cons (pe_ix ix_tup (pv 2) (pe_int) (fun _ _ => rfl)) pa_nil))) (pe_fn T.d_l_block_words IH hr T.g_l_block_words pc (pa_cons (pe_ix ix_tup (pv 2) (pe_int) (fun _ _ => rfl)) pa_nil))))
      (Evl.pss_cut (ps_if (pt_cmpR op_gt (pe_callB call_len_seq (by rfl) T.f_len PySem.boot_len (pa_cons (pe_ix ix_tup (pv 2) (pe_int) (fun _ _ => rfl)) pa_nil)) (pe_int) (nomark _)) (pss_one (ps_set (i := 1) nd rfl (by first | exact Or.inl rfl | exact Or.inr rfl) (pe_op op_cat (pe_op op_cat (pv 1) (pe_lst (pa_cons (pe_str) pa_nil))) (pe_fn T.d_l_block_words IH hr T.g_l_block_words pc (pa_cons (pe_ix ix_tup (pv 2) (pe_int) (fun _ _ => rfl)) pa_nil))))) (pss_nil))
      (pss_one (ps_expr (pe_bm PySem.F.plainAttrs_list PySem.F.slot_list_append PySem.F.type_list_append mt_append (pv 1) (pa_cons (pe_str) pa_nil)))))) (pss_one (ps_if (pt_cmpR op_in_seq (pe_ix ix_tup (pv 2) (pe_int) (fun _ _ => rfl)) (pe_tup (pa_cons (pe_str) (pa_cons (pe_str) (pa_cons (pe_str) pa_nil)))) rfl) (pss_one (ps_set (i := 1) nd rfl (by first | exact Or.inl rfl | exact Or.inr rfl) (pe_op op_cat (pv 1) (pe_lst (pa_cons (pe_ix ix_tup (pv 2) (pe_int) (fun _ _ => rfl)) (pa_cons (pe_ix ix_tup (pv 2) (pe_int) (fun _ _ => rfl)) (pa_cons (pe_callTy call_strIS (by rfl) T.f_str (by decide +kernel) (pa_cons (pe_ix ix_tup (pv 2) (pe_int) (fun _ _ => rfl)) pa_nil)) pa_nil))))))) (pss_one (ps_set (i := 1) nd rfl (by first | exact Or.inl rfl | exact Or.inr rfl) (pe_op op_cat (pe_op op_cat (pv 1) (pe_callTy call_list_of (by rfl) T.f_list (by decide +kernel) (pa_cons (pe_slice sl_tup (pv 2) po_none (po_some (pe_un un_neg (pe_int)))) pa_nil))) (pe_fn T.d_l_value_words (fn_l_value_words T) hr1 T.g_l_value_words pc (pa_cons (pe_ix ix_tup (pv 2) (pe_un un_neg (pe_int)) (fun _ _ => rfl)) pa_nil))))))))))
      (pss_one (ps_ret (pv 1)))), ?_⟩
  obtain ⟨a, vs, rfl, sx, dx⟩ := dp_tup hd
  have hbig := ib.big hr4 h9
  refine ⟨(by show 0 ≤ sizeLine; decide), fun l0 nl0 => ?_⟩
  refine ⟨_, rfl, a, rfl, ⟨vs, ex_t (Ex.new nl0) sx⟩, for_tup (xs := vs) (fun i σ H' => ∃ (l : Addr) (w1 w2 : List Str) (b' m' : Nat) (v2 : Option V), Ex H H' ∧ H l = none ∧ H' l = some (.lst (w1.map V.str)) ∧ IsB ns r b' m' b2 m2 (ds.drop i) w2 ∧ ws = w1 ++ w2 ∧ σ = [some (.ref a), some (.ref l), v2]) ?_ ?_ ?_ ?_⟩
  · exact ⟨l0, [], ws, b, m, none, Ex.new nl0, nl0, upd_same, ib, rfl, rfl⟩
  · rintro i σ H' _ ⟨_, _, _, _, _, _, e, _⟩
    exact ex_t e sx
  · rintro i x σ H1 hx ⟨l, w1, w2, b', m', v2, e1, nl, hl1, ib2, rfl, rfl⟩
    rw [List.length_append] at hbig
    have hi : i < vs.length := (List.getElem?_eq_some_iff.mp hx).1
    obtain ⟨x', d, hx', hdd, hxd⟩ := dp_all_get dx hi
    rw [hx] at hx'
    cases hx'
    rw [drop_one hdd] at ib2
    cases ib2 with
    | @pay _ _ _ _ _ s e we _ w3 hs he h =>
      obtain ⟨ar, vr, rfl, sr, d0⟩ := dp_tup hxd
      obtain ⟨_, rfl, d1⟩ := dpa_s d0
      obtain ⟨ve, _, rfl, hve, d4⟩ := dpa_c d1
      cases dpa_n d4
      have hm := mvN _ (show s ∈ _ by rcases List.mem_cons.mp hs with rfl | hs; exact .head _; rw [List.mem_singleton.mp hs]; exact .tail _ (.head _))
      have l63 := len63 he (Nat.le_refl _)
      simp only [List.length_cons, List.length_append] at hbig
      refine ⟨_, rfl, ar, _, _, _, rfl, rfl, ex_t e1 sr, rfl, rfl, _, rfl, ite2 (fun c => absurd (V.str.inj (of_decide_eq_true c)) hm.1) fun _ => ?_⟩
      refine ⟨_, rfl, ar, _, _, _, rfl, rfl, ex_t e1 sr, rfl, (by show 3 ≤ sizeLine; decide), fun t nt => ⟨t, MV_.map V.str, rfl, .inr (SqT.of upd_same), rfl, flat_strs _, _, rfl, ite2 (fun c => ?_) fun _ => ?_⟩⟩
      · have c' : inV (.str _) (MV_.map V.str) = true := c
        rw [inV_strs] at c'
        exact absurd (of_decide_eq_true c') hm.2
      have e2 := e1.trans (Ex.new (o := .tup (MV_.map V.str)) nt)
      have hl2 := (Ex.new (o := .tup (MV_.map V.str)) nt) _ _ hl1
      refine ⟨_, rfl, _, rfl, _, rfl, _, rfl, ar, _, rfl, ex_t e2 sr, (by show ¬ (HT.sIx 2 0 none = 0 ∧ HT.sIx 2 2 (some (-1)) = 2); decide), fun t2 nt2 => ?_⟩
      have e3 := e2.trans (Ex.new (o := .tup [V.str s]) nt2)
      have hl3 := (Ex.new (o := .tup [V.str s]) nt2) _ _ hl2
      refine ⟨t2, [V.str s], rfl, .inr (SqT.of upd_same), fun l2 nl2 => ?_⟩
      have e4 := e3.trans (Ex.new (o := .lst [V.str s]) nl2)
      have hl4 := (Ex.new (o := .lst [V.str s]) nl2) _ _ hl3
      refine ⟨l, l2, _, _, rfl, rfl, hl4, upd_same, big_ (by simp; omega), fun l3 nl3 => ?_⟩
      have e5 := e4.trans (Ex.new (o := .lst (w1.map V.str ++ [V.str s])) nl3)
      refine ⟨_, rfl, _, rfl, ar, _, _, _, rfl, rfl, ex_t e5 sr, rfl, ve, ns, _, _, rfl, dp_mono e5 hve, he, fun l4 H4 x4 n4 h4 => ?_⟩
      refine ⟨l3, l4, _, _, rfl, rfl, x4 _ _ upd_same, h4, big_ (by simp; omega), fun l5 nl5 => ?_⟩
      refine ⟨l5, w1 ++ [s] ++ we, _, b', m', _, (e5.trans x4).trans (Ex.new nl5), fresh_back (e5.trans x4) nl5, ?_, h, ?_, rfl⟩
      · rw [upd_same]; simp
      · simp
    | @show_ _ _ _ _ _ s e we _ w3 hs he h =>
      obtain ⟨ar, vr, rfl, sr, d0⟩ := dp_tup hxd
      obtain ⟨_, rfl, d1⟩ := dpa_s d0
      obtain ⟨_, rfl, d2⟩ := dpa_s d1
      obtain ⟨ve, _, rfl, hve, d4⟩ := dpa_c d2
      cases dpa_n d4
      have hm := mvN _ (show ("show" : Str) ∈ _ from .tail _ (.tail _ (.head _)))
      have l63 := len63 he (Nat.le_refl _)
      simp only [List.length_cons, List.length_append] at hbig
      refine ⟨_, rfl, ar, _, _, _, rfl, rfl, ex_t e1 sr, rfl, rfl, _, rfl, ite2 (fun c => absurd (V.str.inj (of_decide_eq_true c)) hm.1) fun _ => ?_⟩
      refine ⟨_, rfl, ar, _, _, _, rfl, rfl, ex_t e1 sr, rfl, (by show 3 ≤ sizeLine; decide), fun t nt => ⟨t, MV_.map V.str, rfl, .inr (SqT.of upd_same), rfl, flat_strs _, _, rfl, ite2 (fun c => ?_) fun _ => ?_⟩⟩
      · have c' : inV (.str _) (MV_.map V.str) = true := c
        rw [inV_strs] at c'
        exact absurd (of_decide_eq_true c') hm.2
      have e2 := e1.trans (Ex.new (o := .tup (MV_.map V.str)) nt)
      have hl2 := (Ex.new (o := .tup (MV_.map V.str)) nt) _ _ hl1
      refine ⟨_, rfl, _, rfl, _, rfl, _, rfl, ar, _, rfl, ex_t e2 sr, (by show ¬ (HT.sIx 3 0 none = 0 ∧ HT.sIx 3 3 (some (-1)) = 3); decide), fun t2 nt2 => ?_⟩
      have e3 := e2.trans (Ex.new (o := .tup [V.str "show", V.str s]) nt2)
      have hl3 := (Ex.new (o := .tup [V.str "show", V.str s]) nt2) _ _ hl2
      refine ⟨t2, [V.str "show", V.str s], rfl, .inr (SqT.of upd_same), fun l2 nl2 => ?_⟩
      have e4 := e3.trans (Ex.new (o := .lst [V.str "show", V.str s]) nl2)
      have hl4 := (Ex.new (o := .lst [V.str "show", V.str s]) nl2) _ _ hl3
      refine ⟨l, l2, _, _, rfl, rfl, hl4, upd_same, big_ (by simp; omega), fun l3 nl3 => ?_⟩
      have e5 := e4.trans (Ex.new (o := .lst (w1.map V.str ++ [V.str "show", V.str s])) nl3)
      refine ⟨_, rfl, _, rfl, ar, _, _, _, rfl, rfl, ex_t e5 sr, rfl, ve, ns, _, _, rfl, dp_mono e5 hve, he, fun l4 H4 x4 n4 h4 => ?_⟩
      refine ⟨l3, l4, _, _, rfl, rfl, x4 _ _ upd_same, h4, big_ (by simp; omega), fun l5 nl5 => ?_⟩
      refine ⟨l5, w1 ++ [("show" : Str), s] ++ we, _, b', m', _, (e5.trans x4).trans (Ex.new nl5), fresh_back (e5.trans x4) nl5, ?_, h, ?_, rfl⟩
      · rw [upd_same]; simp
      · simp
    | @set_ _ _ _ _ _ s e we _ w3 hs he h =>
      obtain ⟨ar, vr, rfl, sr, d0⟩ := dp_tup hxd
      obtain ⟨_, rfl, d1⟩ := dpa_s d0
      obtain ⟨_, rfl, d2⟩ := dpa_s d1
      obtain ⟨ve, _, rfl, hve, d4⟩ := dpa_c d2
      cases dpa_n d4
      have hm := mvN _ (show ("set" : Str) ∈ _ from .tail _ (.tail _ (.tail _ (.head _))))
      have l63 := len63 he (Nat.le_refl _)
      simp only [List.length_cons, List.length_append] at hbig
      refine ⟨_, rfl, ar, _, _, _, rfl, rfl, ex_t e1 sr, rfl, rfl, _, rfl, ite2 (fun c => absurd (V.str.inj (of_decide_eq_true c)) hm.1) fun _ => ?_⟩
      refine ⟨_, rfl, ar, _, _, _, rfl, rfl, ex_t e1 sr, rfl, (by show 3 ≤ sizeLine; decide), fun t nt => ⟨t, MV_.map V.str, rfl, .inr (SqT.of upd_same), rfl, flat_strs _, _, rfl, ite2 (fun c => ?_) fun _ => ?_⟩⟩
      · have c' : inV (.str _) (MV_.map V.str) = true := c
        rw [inV_strs] at c'
        exact absurd (of_decide_eq_true c') hm.2
      have e2 := e1.trans (Ex.new (o := .tup (MV_.map V.str)) nt)
      have hl2 := (Ex.new (o := .tup (MV_.map V.str)) nt) _ _ hl1
      refine ⟨_, rfl, _, rfl, _, rfl, _, rfl, ar, _, rfl, ex_t e2 sr, (by show ¬ (HT.sIx 3 0 none = 0 ∧ HT.sIx 3 3 (some (-1)) = 3); decide), fun t2 nt2 => ?_⟩
      have e3 := e2.trans (Ex.new (o := .tup [V.str "set", V.str s]) nt2)
      have hl3 := (Ex.new (o := .tup [V.str "set", V.str s]) nt2) _ _ hl2
      refine ⟨t2, [V.str "set", V.str s], rfl, .inr (SqT.of upd_same), fun l2 nl2 => ?_⟩
      have e4 := e3.trans (Ex.new (o := .lst [V.str "set", V.str s]) nl2)
      have hl4 := (Ex.new (o := .lst [V.str "set", V.str s]) nl2) _ _ hl3
      refine ⟨l, l2, _, _, rfl, rfl, hl4, upd_same, big_ (by simp; omega), fun l3 nl3 => ?_⟩
      have e5 := e4.trans (Ex.new (o := .lst (w1.map V.str ++ [V.str "set", V.str s])) nl3)
      refine ⟨_, rfl, _, rfl, ar, _, _, _, rfl, rfl, ex_t e5 sr, rfl, ve, ns, _, _, rfl, dp_mono e5 hve, he, fun l4 H4 x4 n4 h4 => ?_⟩
      refine ⟨l3, l4, _, _, rfl, rfl, x4 _ _ upd_same, h4, big_ (by simp; omega), fun l5 nl5 => ?_⟩
      refine ⟨l5, w1 ++ [("set" : Str), s] ++ we, _, b', m', _, (e5.trans x4).trans (Ex.new nl5), fresh_back (e5.trans x4) nl5, ?_, h, ?_, rfl⟩
      · rw [upd_same]; simp
      · simp
    | @draw _ _ _ _ _ s n _ w3 hs h0 h1 hb h =>
      obtain ⟨ar, vr, rfl, sr, d0⟩ := dp_tup hxd
      obtain ⟨_, rfl, d1⟩ := dpa_s d0
      obtain ⟨_, rfl, d2⟩ := dpa_s d1
      obtain ⟨_, rfl, d3⟩ := dpa_i d2
      cases dpa_n d3
      have hm : ("draw" : Str) ∈ MV_ := .head _
      simp only [List.length_cons] at hbig
      refine ⟨_, rfl, ar, _, _, _, rfl, rfl, ex_t e1 sr, rfl, rfl, _, rfl, ite2 (fun c => absurd (V.str.inj (of_decide_eq_true c)) (mvI _ hm)) fun _ => ?_⟩
      refine ⟨_, rfl, ar, _, _, _, rfl, rfl, ex_t e1 sr, rfl, (by show 3 ≤ sizeLine; decide), fun t nt => ⟨t, MV_.map V.str, rfl, .inr (SqT.of upd_same), rfl, flat_strs _, _, rfl, ite2 (fun _ => ?_) fun c => ?_⟩⟩
      rotate_left
      · have c' : ¬ inV (.str _) (MV_.map V.str) = true := c
        rw [inV_strs] at c'
        exact absurd (decide_eq_true hm) c'
      have e2 := e1.trans (Ex.new (o := .tup (MV_.map V.str)) nt)
      have hl2 := (Ex.new (o := .tup (MV_.map V.str)) nt) _ _ hl1
      refine ⟨_, rfl, _, rfl, ar, _, _, _, rfl, rfl, ex_t e2 sr, rfl, _, rfl, ar, _, _, _, rfl, rfl, ex_t e2 sr, rfl, _, rfl, ar, _, _, _, rfl, rfl, ex_t e2 sr, rfl, .inl ⟨_, rfl, log_small (by omega) (by omega), (by show 3 ≤ sizeLine; decide), fun l2 nl2 => ?_⟩⟩
      have e3 := e2.trans (Ex.new (o := .lst [V.str ("draw" : Str), V.str s, V.str (istr n)]) nl2)
      have hl3 := (Ex.new (o := .lst [V.str ("draw" : Str), V.str s, V.str (istr n)]) nl2) _ _ hl2
      refine ⟨l, l2, _, _, rfl, rfl, hl3, upd_same, big_ (by simp; omega), fun l3 nl3 => ?_⟩
      refine ⟨l3, w1 ++ [("draw" : Str), s, istr n], _, _, _, _, e3.trans (Ex.new nl3), fresh_back e3 nl3, ?_, h, ?_, rfl⟩
      · rw [upd_same]; simp
      · simp
    | @move _ _ _ _ _ c s n _ w3 hc hs h0 h1 hb h =>
      obtain ⟨ar, vr, rfl, sr, d0⟩ := dp_tup hxd
      obtain ⟨_, rfl, d1⟩ := dpa_s d0
      obtain ⟨_, rfl, d2⟩ := dpa_s d1
      obtain ⟨_, rfl, d3⟩ := dpa_i d2
      obtain ⟨_, rfl, d4⟩ := dpa_i d3
      cases dpa_n d4
      have hm : c ∈ MV_ := (.tail _ hc)
      simp only [List.length_cons] at hbig
      refine ⟨_, rfl, ar, _, _, _, rfl, rfl, ex_t e1 sr, rfl, rfl, _, rfl, ite2 (fun c => absurd (V.str.inj (of_decide_eq_true c)) (mvI _ hm)) fun _ => ?_⟩
      refine ⟨_, rfl, ar, _, _, _, rfl, rfl, ex_t e1 sr, rfl, (by show 3 ≤ sizeLine; decide), fun t nt => ⟨t, MV_.map V.str, rfl, .inr (SqT.of upd_same), rfl, flat_strs _, _, rfl, ite2 (fun _ => ?_) fun c => ?_⟩⟩
      rotate_left
      · have c' : ¬ inV (.str _) (MV_.map V.str) = true := c
        rw [inV_strs] at c'
        exact absurd (decide_eq_true hm) c'
      have e2 := e1.trans (Ex.new (o := .tup (MV_.map V.str)) nt)
      have hl2 := (Ex.new (o := .tup (MV_.map V.str)) nt) _ _ hl1
      refine ⟨_, rfl, _, rfl, ar, _, _, _, rfl, rfl, ex_t e2 sr, rfl, _, rfl, ar, _, _, _, rfl, rfl, ex_t e2 sr, rfl, _, rfl, ar, _, _, _, rfl, rfl, ex_t e2 sr, rfl, .inl ⟨_, rfl, log_small (by omega) (by omega), (by show 3 ≤ sizeLine; decide), fun l2 nl2 => ?_⟩⟩
      have e3 := e2.trans (Ex.new (o := .lst [V.str c, V.str s, V.str (istr n)]) nl2)
      have hl3 := (Ex.new (o := .lst [V.str c, V.str s, V.str (istr n)]) nl2) _ _ hl2
      refine ⟨l, l2, _, _, rfl, rfl, hl3, upd_same, big_ (by simp; omega), fun l3 nl3 => ?_⟩
      refine ⟨l3, w1 ++ [c, s, istr n], _, _, _, _, e3.trans (Ex.new nl3), fresh_back e3 nl3, ?_, h, ?_, rfl⟩
      · rw [upd_same]; simp
      · simp
    | @ite r' _ _ b3 m3 b4 m4 _ _ e we wt wo w3 ts os _ he ht ho lt lo h =>
      obtain ⟨ar, vr, rfl, sr, d0⟩ := dp_tup hxd
      obtain ⟨_, rfl, d1⟩ := dpa_s d0
      obtain ⟨ve, _, rfl, hve, d2⟩ := dpa_c d1
      obtain ⟨vt, _, rfl, hvt, d3⟩ := dpa_c d2
      obtain ⟨vo, _, rfl, hvo, d4⟩ := dpa_c d3
      cases dpa_n d4
      simp only [List.length_cons, List.length_append] at hbig
      refine ⟨_, rfl, ar, _, _, _, rfl, rfl, ex_t e1 sr, rfl, rfl, _, rfl, ite2 (fun _ => ?_) fun c => absurd rfl c⟩
      refine ⟨_, rfl, (by show 1 ≤ sizeLine; decide), fun l2 nl2 => ?_⟩
      have e2 := e1.trans (Ex.new (o := .lst [V.str "if"]) nl2)
      have hl2 := (Ex.new (o := .lst [V.str "if"]) nl2) _ _ hl1
      refine ⟨l, l2, _, _, rfl, rfl, hl2, upd_same, big_ (by simp; omega), fun l3 nl3 => ?_⟩
      have e3 := e2.trans (Ex.new (o := .lst (w1.map V.str ++ [V.str "if"])) nl3)
      refine ⟨_, rfl, ar, _, _, _, rfl, rfl, ex_t e3 sr, rfl, ve, ns, _, _, rfl, dp_mono e3 hve, he, fun l4 H4 x4 n4 h4 => ?_⟩
      have e4 := e3.trans x4
      refine ⟨l3, l4, _, _, rfl, rfl, x4 _ _ upd_same, h4, big_ (by simp; omega), fun l5 nl5 => ?_⟩
      have e5 := e4.trans (Ex.new (o := .lst (w1.map V.str ++ [V.str "if"] ++ we.map V.str)) nl5)
      refine ⟨_, rfl, ar, _, _, _, rfl, rfl, ex_t e5 sr, rfl, vt, ns, _, _, _, _, ts, wt, rfl, dp_mono e5 hvt, ht, by omega, fun l6 H6 x6 n6 h6 => ?_⟩
      have e6 := e5.trans x6
      refine ⟨l5, l6, _, _, rfl, rfl, x6 _ _ upd_same, h6, big_ (by simp; omega), fun l7 nl7 => ?_⟩
      have e7 := e6.trans (Ex.new (o := .lst (w1.map V.str ++ [V.str "if"] ++ we.map V.str ++ wt.map V.str)) nl7)
      have n7 := fresh_back e6 nl7
      refine ⟨fun σ H' => ∃ l' : Addr, Ex H H' ∧ H l' = none ∧ H' l' = some (.lst ((w1 ++ (("if" : Str) :: we ++ wt ++ elseW os wo)).map V.str)) ∧ σ = [some (.ref a), some (.ref l'), some (.ref ar)], ?_, ?_⟩
      · obtain ⟨ao, vso, rfl, so, do_⟩ := dp_tup hvo
        have hol := dp_all_len do_
        refine ⟨_, rfl, ar, _, _, _, rfl, rfl, ex_t e7 sr, rfl, ao, _, rfl, .inr (ex_t e7 so), _, _, rfl, rfl, _, rfl, ite2 (fun c => ?_) fun c => ?_⟩
        · have hn : os ≠ [] := fun z => by
            have := of_decide_eq_true c
            rw [hol, z] at this
            revert this
            decide
          have hew : elseW os wo = ("else" : Str) :: wo := if_neg hn
          rw [hew] at hbig ⊢
          simp only [List.length_cons] at hbig
          refine ⟨_, rfl, (by show 1 ≤ sizeLine; decide), fun l8 nl8 => ?_⟩
          have e8 := e7.trans (Ex.new (o := .lst [V.str "else"]) nl8)
          refine ⟨l7, l8, _, _, rfl, rfl, (Ex.new nl8) _ _ upd_same, upd_same, big_ (by simp; omega), fun l9 nl9 => ?_⟩
          have e9 := e8.trans (Ex.new (o := .lst (w1.map V.str ++ [V.str "if"] ++ we.map V.str ++ wt.map V.str ++ [V.str "else"])) nl9)
          refine ⟨_, rfl, ar, _, _, _, rfl, rfl, ex_t e9 sr, rfl, .ref ao, ns, _, _, _, _, os, wo, rfl, dp_mono e9 hvo, ho, by omega, fun l10 H10 x10 n10 h10 => ?_⟩
          refine ⟨l9, l10, _, _, rfl, rfl, x10 _ _ upd_same, h10, big_ (by simp; omega), fun l11 nl11 => ?_⟩
          refine ⟨l11, (e9.trans x10).trans (Ex.new nl11), fresh_back (e9.trans x10) nl11, ?_, rfl⟩
          rw [upd_same]
          simp
        · have hn : os = [] := by
            cases os with
            | nil => rfl
            | cons z zs =>
              exfalso
              apply c
              apply decide_eq_true
              rw [hol, List.length_cons]
              omega
          have hew : elseW os wo = [] := if_pos hn
          rw [hew]
          refine ⟨l7, e7, n7, ?_, rfl⟩
          rw [upd_same]
          simp
      rintro σ H8 ⟨l', e8, n8, h8, rfl⟩
      refine ⟨_, rfl, .inl ⟨rfl, _, SqL.of h8⟩, l', _, _, rfl, rfl, h8, ?_, ?_⟩
      · rw [List.length_map, List.length_append, List.length_append, List.length_append, List.length_cons]
        have := big_ (n := 1000000) (by decide)
        omega
      · refine ⟨l', w1 ++ (("if" : Str) :: we ++ wt ++ elseW os wo ++ [("end" : Str)]), w3, _, _, _, Ex.mut e8 n8, n8, ?_, h, ?_, rfl⟩
        · rw [upd_same]; simp
        · simp
  · rintro σ H1 ⟨l, w1, w2, b', m', v2, e1, nl, hl1, ib2, rfl, rfl⟩
    rw [dp_all_len dx, List.drop_length] at ib2
    cases ib2
    refine ⟨_, rfl, k l _ e1 nl ?_⟩
    rw [hl1, List.append_nil]
theorem fn_bw (T : Txt K mg) : ∀ r, r ≤ 4 → Fn P w K mg base (7 + r + 1) (ga K "_law_block_words") (spBW K r)
  | 0, h => fn_bw1 T 0 h (fun _ _ _ _ _ _ _ _ _ _ _ h => h.elim)
  | r + 1, h => fn_bw1 T (r + 1) h (fn_bw T r (by omega))
theorem fn_l_block_words (T : Txt K mg) : Fn P w K mg base 12 (ga K "_law_block_words") (spBW K 4) := fn_bw T 4 (by decide)
end
end LL
namespace LL
open PySem PySem.Spec PyProof.Rows L2 He Evl
theorem istr_l {i : Int} (h0 : 0 ≤ i) : (istr i).cps.toList = TL.numL i.toNat := by
  obtain ⟨n, rfl⟩ : ∃ n : Nat, i = n := ⟨i.toNat, by omega⟩
  exact TL.tl_num n
theorem istr_len {i : Int} (h0 : 0 ≤ i) (h1 : i ≤ 65535) : 1 ≤ (istr i).length ∧ (istr i).length ≤ 5 := by
  have e : (istr i).length = (TL.numL i.toNat).length := by rw [← istr_l h0]; simp [Str.length]
  rw [e]
  refine ⟨List.length_pos_iff.mpr (TL.numL_ne _), TL.numL_len (by decide) ?_⟩
  have : (10 : Nat) ^ 5 = 100000 := by decide
  omega
theorem istr_dig {i : Int} (h0 : 0 ≤ i) : ∀ c ∈ (istr i).cps.toList, 48 ≤ c ∧ c ≤ 57 := by
  rw [istr_l h0]
  exact fun c hc => TL.numL_digits _ c hc
theorem numL_head : ∀ (n : Nat), 1 ≤ n → ∃ c r, TL.numL n = c :: r ∧ 49 ≤ c := by
  intro n
  induction n using Nat.strongRecOn with
  | ind n ih =>
    intro h
    by_cases h10 : n < 10
    · exact ⟨48 + n, [], TL.numL_lt h10, by omega⟩
    · obtain ⟨c, r, e, hc⟩ := ih (n / 10) (by omega) (by omega)
      exact ⟨c, r ++ [48 + n % 10], by rw [TL.numL_step (by omega), e]; rfl, hc⟩
theorem istr_head {i : Int} (h0 : 0 ≤ i) : istr i = "0" ∨ ∃ c, (istr i).cps.toList[0]? = some c ∧ 49 ≤ c := by
  by_cases z : i = 0
  · subst z; exact .inl rfl
  · obtain ⟨c, r, e, hc⟩ := numL_head i.toNat (by omega)
    exact .inr ⟨c, by rw [istr_l h0, e]; rfl, hc⟩
theorem istr_int {i : Int} (h0 : 0 ≤ i) (h1 : i ≤ 65535) : PySem.intText? (istr i) = some i := by
  obtain ⟨n, rfl⟩ : ∃ n : Nat, i = n := ⟨i.toNat, by omega⟩
  exact TL.int_num (Nat.le_trans (TL.numL_len (k := 5) (by decide) (by have : (10 : Nat) ^ 5 = 100000 := by decide
                                                                       omega)) (by decide))
theorem atI_nat {α : Type} {xs : List α} {j : Nat} {x : α} (h : xs[j]? = some x) : atI xs (j : Int) = some x := by
  obtain ⟨hj, e⟩ := List.getElem?_eq_some_iff.mp h
  unfold atI
  rw [ixN_nat hj]
  simp [hj, e]
def DIG_ : Str := "0123456789"
def LET_ : Str := "abcdefghijklmnopqrstuvwxyz"
theorem dig_in : ∀ c, 48 ≤ c → c ≤ 57 → c ∈ DIG_.cps.toList := by
  intro c h0 h1
  have := (by decide +kernel : ∀ k : Fin 10, 48 + k.val ∈ DIG_.cps.toList) ⟨c - 48, by omega⟩
  have e : 48 + (c - 48) = c := by omega
  simpa [e] using this
theorem let_in : ∀ c, 97 ≤ c → c ≤ 122 → c ∈ LET_.cps.toList := by
  intro c h0 h1
  have := (by decide +kernel : ∀ k : Fin 26, 97 + k.val ∈ LET_.cps.toList) ⟨c - 97, by omega⟩
  have e : 97 + (c - 97) = c := by omega
  simpa [e] using this
section
variable {P : Program} {w : World} {K : PySem.W.Frag} {mg : Str → Option Value} {base : Heap}
/-- all([sign in Z for sign in x]) -/
theorem all_chars {s0 : Option V} {H : Hp} {Q : VK} {x Z : Str} {tz : TE} (hz : ∀ σ H (Q : VK), Q (.str Z) H → tz σ H Q) (hall : ∀ c ∈ x.cps.toList, c ∈ Z.cps.toList) (hl : x.length ≤ 1000) (k : ∀ H2, Ex H H2 → Q (.bl true) H2) :
    tCB (rAll K) (tCons (tLc (iStr (tVar 0)) (gName 1) tYes (tOp (fun x y H Q => ∃ (c : Nat) (z : Str), x = .str ⟨#[c]⟩ ∧ y = .str z ∧ Q (.bl (decide (c ∈ z.cps.toList))) H) (tVar 1) tz) [1]) tNil) [some (.str x), s0] H Q := by
  refine ⟨_, rfl, x, rfl, fun D nD => lc_it (n := x.cps.size) walk_str (fun i H' => upd H D (.lst ((List.replicate i true).map V.bl)) = H') rfl (fun _ _ _ _ => trivial) ?_ ?_⟩
  · rintro i y H1 H2 hi rfl ⟨rfl, c, hc, rfl⟩
    have hm : c ∈ x.cps.toList := Array.mem_toList_iff.mpr (Array.mem_of_getElem? hc)
    refine ⟨rfl, yes_if ?_⟩
    refine ⟨_, rfl, hz _ _ _ ⟨c, Z, rfl, rfl, _, upd_same, ?_, ?_⟩⟩
    · rw [List.length_map, List.length_replicate]
      have : (1000 : Nat) < sizeLine := by decide
      have e : x.cps.size = x.length := rfl
      omega
    · rw [upd_twice, decide_eq_true (hall c hm), List.replicate_succ', List.map_append]
      rfl
  · rintro H2 rfl
    refine ⟨D, List.replicate x.cps.size true, rfl, SqL.of upd_same, ?_⟩
    rw [show (List.replicate x.cps.size true).all id = true from by simp]
    exact k _ (Ex.new nD)
theorem slen (x : Str) (n : Nat) (h : x.length ≤ n) (hn : n ≤ 1000) : x.length ≤ sizeLine := by
  have : (1000 : Nat) ≤ sizeLine := by decide
  omega
/-- a name is one -/
def spIsName : Sp := fun vs H Q _ => ∃ x : Str, vs = [.str x] ∧ IsName x ∧ ∀ H2, Ex H H2 → Q (.bl true) H2
theorem fn_is_name (T : Txt K mg) : Fn P w K mg base 1 (ga K "is_name") (spIsName) := by
  refine fn_def T.d_is_name sc_is_name (fun _ _ _ _ _ _ us hl => match us, hl with | [_], _ => rfl) (fun vs H Q E h => ?_) (fun cdv A outer s H vs Q E hr h => ?_)
  · obtain ⟨x, rfl, _⟩ := h
    rfl
  obtain ⟨x, rfl, hx, k⟩ := h
  have nd := sc_is_name.nd
  refine ⟨_, pss_one (ps_ret (pe_and (pe_chain op_le op_le (pe_int) (pe_callB call_len_str (by rfl) T.f_len (by decide +kernel) (pa_cons (pv 0) pa_nil)) (pe_int)) (pe_and (pe_cmpR op_notIn_seq (pv 0) (pe_gr T.g_KEYS) rfl) (pe_one (pe_callB (cr_all rfl) (by rfl) T.f_all (by decide +kernel) (pa_cons (pe_lc (own := [("char", 1)]) (g := gName 1) (tt := tYes) rfl nd (pi_str (pv 0)) (blkOk_by (N := n_is_name) (sc := defScope s_is_name) (by decide +kernel)) (fun _ _ _ _ _ => pg_name (i := 1) nd rfl (by first | exact Or.inl rfl | exact Or.inr rfl)) (fun _ _ _ _ _ => pts_nil) (fun _ _ _ _ _ => pe_cmpR op_in_sign (pv 1) (pe_gs T.i_LETTERS) rfl)) pa_nil)))))), ?_⟩
  have hl1 := hx.l1
  have hl8 := hx.l8
  refine ⟨_, rfl, x, rfl, slen x 8 hl8 (by decide), _, _, rfl, rfl, _, rfl, ?_⟩
  refine ite2 (fun _ => ⟨_, _, rfl, rfl, ?_⟩) fun c => absurd (decide_eq_true (by omega)) c
  refine ⟨_, rfl, ite2 (fun _ => ?_) fun c => absurd (decide_eq_true (by omega)) c⟩
  refine ⟨_, rfl, ga K "KEYS", _, rfl, .inr (tupB_ok T.p_KEYS H), rfl, flat_strs KEYS_, _, rfl, ite2 (fun _ => ?_) fun c => ?_⟩
  · exact all_chars (Z := LET_) (fun _ _ _ h => h) (fun c hc => let_in c (hx.lo c hc).1 (hx.lo c hc).2) (by omega) k
  · exfalso
    apply c
    show (!inV (.str x) (KEYS_.map V.str)) = true
    rw [inV_strs, decide_eq_false hx.nk]
    rfl
/-- a number's text read -/
def spNumberOf : Sp := fun vs H Q _ => ∃ i : Int, vs = [.str (istr i)] ∧ 0 ≤ i ∧ i ≤ 65535 ∧ ∀ H2, Ex H H2 → Q (.int i) H2
theorem fn_number_of (T : Txt K mg) : Fn P w K mg base 1 (ga K "number_of") (spNumberOf) := by
  refine fn_def T.d_number_of sc_number_of (fun _ _ _ _ _ _ us hl => match us, hl with | [_], _ => rfl) (fun vs H Q E h => ?_) (fun cdv A outer s H vs Q E hr h => ?_)
  · obtain ⟨x, rfl, _⟩ := h
    rfl
  obtain ⟨i, rfl, h0, h1, k⟩ := h
  have nd := sc_number_of.nd
  refine ⟨_, pss_cons (ps_if (PW.pt (pw_or (pt_not (pt_chain op_le op_le (pe_int) (pe_callB call_len_str (by rfl) T.f_len (by decide +kernel) (pa_cons (pv 0) pa_nil)) (pe_int))) (pw_or1 (pt_not (pt_val (pe_callB (cr_all rfl) (by rfl) T.f_all (by decide +kernel) (pa_cons (pe_lc (own := [("char", 1)]) (g := gName 1) (tt := tYes) rfl nd (pi_str (pv 0)) (blkOk_by (N := n_number_of) (sc := defScope s_number_of) (by decide +kernel)) (fun _ _ _ _ _ => pg_name (i := 1) nd rfl (by first | exact Or.inl rfl | exact Or.inr rfl)) (fun _ _ _ _ _ => pts_nil) (fun _ _ _ _ _ => pe_cmpR op_in_sign (pv 1) (pe_str) rfl)) pa_nil))))))) (pss_one (ps_ret (pe_non))) (pss_nil))
      (pss_cons (ps_if (PW.pt (pw_or (PW.pt (pw_and (pt_cmpR op_eq (pe_ix ix_str (pv 0) (pe_int) (fun _ _ => rfl)) (pe_str) (nomark _)) (pw_and1 (pt_cmpR op_ne (pv 0) (pe_str) (nomark _))))) (pw_or1 (pt_cmpR op_gt (pe_callTy call_int_str (by rfl) T.f_int (by decide +kernel) (pa_cons (pv 0) pa_nil)) (pe_gi T.i_GREATEST) (nomark _))))) (pss_one (ps_ret (pe_non))) (pss_nil))
      (pss_one (ps_ret (pe_callTy call_int_str (by rfl) T.f_int (by decide +kernel) (pa_cons (pv 0) pa_nil))))), ?_⟩
  obtain ⟨l1, l5⟩ := istr_len h0 h1
  have hs := slen _ 5 l5 (by decide)
  refine ⟨_, rfl, _, rfl, hs, _, _, rfl, rfl, _, rfl, ?_⟩
  refine ite2 (fun _ => ⟨_, _, rfl, rfl, ?_⟩) fun c => absurd (decide_eq_true (by omega)) c
  refine ⟨_, rfl, ite2 (fun c => ?_) fun _ => ?_⟩
  · exfalso
    rw [decide_eq_true (by omega)] at c
    exact Bool.noConfusion c
  refine all_chars (Z := DIG_) (fun _ _ _ h => h) (fun c hc => dig_in c (istr_dig h0 c hc).1 (istr_dig h0 c hc).2) (by omega) fun H2 e2 => ?_
  refine ⟨_, rfl, iteF ?_⟩
  have fin : ∀ H3, Ex H2 H3 → Q (.int i) H3 := fun H3 e3 => k H3 (e2.trans e3)
  obtain ⟨c0, hc0⟩ : ∃ c0, (istr i).cps.toList[0]? = some c0 := by
    have : 0 < (istr i).cps.toList.length := by rw [Array.length_toList]; exact l1
    exact ⟨_, List.getElem?_eq_getElem this⟩
  refine ⟨_, rfl, _, _, c0, rfl, rfl, hs, atI_nat (j := 0) hc0, rfl, _, rfl, ?_⟩
  refine ite2 (fun c1 => ?_) fun c1 => iteF ?_
  · have e0 : istr i = "0" := by
      rcases istr_head h0 with h | ⟨c, hc, hge⟩
      · exact h
      · exfalso
        rw [hc] at hc0
        cases hc0
        have := congrArg (fun x : Str => x.cps) (V.str.inj (of_decide_eq_true c1))
        have h2 : ([c0] : List Nat) = [48] := congrArg Array.toList this
        have h3 := (List.cons.inj h2).1
        omega
    refine ⟨_, rfl, rfl, _, rfl, ite2 (fun c2 => ?_) fun c2 => ?_⟩
    · exfalso
      rw [e0] at c2
      exact absurd c2 (by decide)
    · refine ⟨_, rfl, istr i, i, rfl, istr_int h0 h1, by omega, _, _, rfl, rfl, _, rfl, ite2 (fun c3 => ?_) fun _ => ⟨_, rfl, istr i, i, rfl, istr_int h0 h1, by omega, fin H2 (Ex.refl H2)⟩⟩
      have := of_decide_eq_true c3
      omega
  · refine ⟨_, rfl, istr i, i, rfl, istr_int h0 h1, by omega, _, _, rfl, rfl, _, rfl, ite2 (fun c3 => ?_) fun _ => ⟨_, rfl, istr i, i, rfl, istr_int h0 h1, by omega, fin H2 (Ex.refl H2)⟩⟩
    have := of_decide_eq_true c3
    omega
end
end LL
namespace LL
open PySem PySem.Spec PyProof.Rows L2 He Evl
/-! ### what is open before each word -/
/-- w writes a number of a range -/
def IsNum (w : Str) (lo hi : Int) : Prop := ∃ i : Int, 0 ≤ i ∧ i ≤ 65535 ∧ lo ≤ i ∧ i ≤ hi ∧ w = istr i
inductive Kd | thn | els | emp | game
  deriving DecidableEq
inductive Sy | one | seat | num (lo hi : Int) | val (r : Nat) | blk (r : Nat) (k : Kd) | head | new
  deriving DecidableEq
/-- the names, and how many draws and moves are left -/
structure Sc where
  vs : List Str
  left : Nat
open Classical in
noncomputable def begins (sc : Sc) (w : Str) (r : Nat) : Option (List Sy × Sc) :=
  if w = "set" ∧ sc.vs ≠ [] then some ([.one, .val 6], sc)
  else if w ∈ MV_ ∧ sc.vs ≠ [] ∧ 0 < sc.left then some ([.one, .num 1 8], ⟨sc.vs, sc.left - 1⟩)
  else if w = "show" then some ([.seat, .val 6], sc)
  else if w = "pay" ∨ w = "take" then some ([.val 6], sc)
  else if w = "if" ∧ 0 < r then some ([.val 6, .blk (r - 1) .thn], sc)
  else none
def nextK : Kd → Kd
  | .emp => .els
  | k => k
open Classical in
noncomputable def stepB (sc : Sc) (w : Str) (r : Nat) (k : Kd) : Option (List Sy × Sc) :=
  if w = "end" ∧ (k = .thn ∨ k = .els) then some ([], sc)
  else if w = "else" ∧ k = .thn then some ([.blk r .emp], sc)
  else (begins sc w r).map fun x => (x.1 ++ [.blk r (nextK k)], x.2)
open Classical in
noncomputable def step (sc : Sc) (w : Str) : Sy → Option (List Sy × Sc)
  | .one => if w ∈ sc.vs then some ([], sc) else none
  | .seat => if w = "chooser" ∨ w = "comer" then some ([], sc) else none
  | .num lo hi => if IsNum w lo hi then some ([], sc) else none
  | .val r => if w ∈ SIGNS_ ∧ 1 < r then some ([.val (r - 1), .val (r - 1)], sc) else if w ∈ sc.vs ∨ IsNum w 0 65535 then some ([], sc) else none
  | .blk r k => stepB sc w r k
  | .head => if w = "var" ∧ sc.vs.length < 5 then some ([.new, .num 1 65535, .head], sc) else stepB sc w 4 .game
  | .new => if w ∉ sc.vs ∧ IsName w then some ([], ⟨sc.vs ++ [w], sc.left⟩) else none
section
open Classical
variable {sc : Sc} {w : Str}
theorem step_one : step sc w .one = if w ∈ sc.vs then some ([], sc) else none := rfl
theorem step_seat : step sc w .seat = if w = "chooser" ∨ w = "comer" then some ([], sc) else none := rfl
theorem step_num {lo hi : Int} : step sc w (.num lo hi) = if IsNum w lo hi then some ([], sc) else none := rfl
theorem step_val {r : Nat} : step sc w (.val r) = if w ∈ SIGNS_ ∧ 1 < r then some ([.val (r - 1), .val (r - 1)], sc) else if w ∈ sc.vs ∨ IsNum w 0 65535 then some ([], sc) else none := rfl
theorem step_new : step sc w .new = if w ∉ sc.vs ∧ IsName w then some ([], ⟨sc.vs ++ [w], sc.left⟩) else none := rfl
theorem step_head : step sc w .head = if w = "var" ∧ sc.vs.length < 5 then some ([.new, .num 1 65535, .head], sc) else stepB sc w 4 .game := rfl
theorem step_blk {r : Nat} {k : Kd} : step sc w (.blk r k) = stepB sc w r k := rfl
end
/-- how the words end -/
inductive Out | stop (i : Nat) | out (st : List Sy) | over
def Out.more : Out → Out
  | .stop i => .stop (i + 1)
  | o => o
def Out.by : Nat → Out → Out
  | 0, o => o
  | n + 1, o => (Out.by n o).more
theorem by_stop (n i : Nat) : Out.by n (.stop i) = .stop (i + n) := by
  induction n with
  | zero => rfl
  | succ n ih => rw [Out.by, ih]; rfl
theorem by_out (n : Nat) (st : List Sy) : Out.by n (.out st) = .out st := by
  induction n with
  | zero => rfl
  | succ n ih => rw [Out.by, ih]; rfl
theorem by_by (m n : Nat) (o : Out) : Out.by m (Out.by n o) = Out.by (m + n) o := by
  induction m with
  | zero => rw [Nat.zero_add]; rfl
  | succ m ih => rw [Out.by, ih, Nat.succ_add]; rfl
noncomputable def eat : List Sy → Sc → List Str → Out
  | [], _, [] => .out []
  | [], _, _ :: _ => .over
  | s :: st, _, [] => .out (s :: st)
  | s :: st, sc, w :: R => match step sc w s with
    | none => .stop 0
    | some x => (eat (x.1 ++ st) x.2 R).more
theorem eat_cons {s : Sy} {st : List Sy} {sc : Sc} {w : Str} {R : List Str} {x : List Sy × Sc} (h : step sc w s = some x) : eat (s :: st) sc (w :: R) = (eat (x.1 ++ st) x.2 R).more := by
  rw [eat, h]
theorem eat_bad {s : Sy} {st : List Sy} {sc : Sc} {w : Str} {R : List Str} (h : step sc w s = none) : eat (s :: st) sc (w :: R) = .stop 0 := by
  rw [eat, h]
/-- a symbol that may not be open at the end -/
def Sy.req : Sy → Prop
  | .head => False
  | .blk _ .game => False
  | _ => True
/-- what s asks takes ws -/
def Go (s : List Sy) (sc : Sc) (ws : List Str) (sc2 : Sc) : Prop := ∀ t R, eat (s ++ t) sc (ws ++ R) = Out.by ws.length (eat t sc2 R)
/-- the word i of R is wrong, where s is asked -/
def BadAt (s : List Sy) (sc : Sc) (R : List Str) (i : Nat) : Prop := ∀ t, eat (s ++ t) sc R = .stop i ∨ (i = R.length ∧ ∃ x st, eat (s ++ t) sc R = .out (x :: st) ∧ x.req)
theorem go_nil {sc : Sc} : Go [] sc [] sc := fun _ _ => rfl
theorem go_app {s s2 : List Sy} {sc sc1 sc2 : Sc} {ws ws2 : List Str} (h : Go s sc ws sc1) (h2 : Go s2 sc1 ws2 sc2) : Go (s ++ s2) sc (ws ++ ws2) sc2 := fun t R => by
  rw [List.append_assoc, List.append_assoc, h, h2, by_by, List.length_append]
theorem go_step {s : Sy} {sc sc1 sc2 : Sc} {l : List Sy} {w : Str} {ws : List Str} (h : step sc w s = some (l, sc1)) (h2 : Go l sc1 ws sc2) : Go [s] sc (w :: ws) sc2 := fun t R => by
  show eat (s :: t) sc (w :: (ws ++ R)) = _
  rw [eat_cons h, h2]
  rfl
theorem go_one {s : Sy} {sc sc1 : Sc} {w : Str} (h : step sc w s = some ([], sc1)) : Go [s] sc [w] sc1 := go_step h go_nil
theorem bad_app {s s2 : List Sy} {sc : Sc} {R : List Str} {i : Nat} (h : BadAt s sc R i) : BadAt (s ++ s2) sc R i := fun t => by
  rw [List.append_assoc]
  exact h _
theorem go_bad {s s2 : List Sy} {sc sc1 : Sc} {ws R : List Str} {i : Nat} (h : Go s sc ws sc1) (h2 : BadAt s2 sc1 R i) : BadAt (s ++ s2) sc (ws ++ R) (ws.length + i) := fun t => by
  rw [List.append_assoc, h]
  rcases h2 t with h2 | ⟨h2, x, st, h3, h4⟩
  · rw [h2, by_stop]
    exact .inl (by rw [Nat.add_comm])
  · rw [h3, by_out]
    exact .inr ⟨by rw [List.length_append, h2], x, st, rfl, h4⟩
theorem step_bad {s : Sy} {sc : Sc} {w : Str} {R : List Str} (h : step sc w s = none) : BadAt [s] sc (w :: R) 0 := fun t => .inl (eat_bad h)
theorem end_bad {s : Sy} {sc : Sc} (h : s.req) : BadAt [s] sc [] 0 := fun t => .inr ⟨rfl, s, t, rfl, h⟩
theorem step_more {s : Sy} {sc sc1 : Sc} {l : List Sy} {w : Str} {R : List Str} {i : Nat} (h : step sc w s = some (l, sc1)) (h2 : BadAt l sc1 R i) : BadAt [s] sc (w :: R) (i + 1) := fun t => by
  show eat (s :: t) sc (w :: R) = _ ∨ _
  show eat (s :: t) sc (w :: R) = _ ∨ (_ ∧ ∃ x st, eat (s :: t) sc (w :: R) = _ ∧ _)
  rw [eat_cons h]
  rcases h2 t with h2 | ⟨h2, x, st, h3, h4⟩
  · rw [h2]; exact .inl rfl
  · rw [h3]; exact .inr ⟨by rw [List.length_cons, h2], x, st, rfl, h4⟩
/-- the word is wrong, or it lacks -/
theorem bad_head {s : Sy} {sc : Sc} {R : List Str} (hr : s.req) (h : ∀ w r, R = w :: r → step sc w s = none) : BadAt [s] sc R 0 := by
  cases R with
  | nil => exact end_bad hr
  | cons w r => exact step_bad (h w r rfl)
/-! ### statements -/
/-- rows of statements with their words; branches and moves ahead and behind -/
inductive PaB (ns : List Str) : Nat → Nat → Nat → Nat → Nat → List PyData → List Str → Prop
  | nil {r b m : Nat} : PaB ns r b m b m [] []
  | pay {r b m b2 m2 : Nat} {s : Str} {e : PyData} {we : List Str} {ds : List PyData} {ws : List Str} (hs : s ∈ (["pay", "take"] : List Str)) (he : IsE ns 6 e we) (h : PaB ns r b m b2 m2 ds ws) : PaB ns r b m b2 m2 (.tuple [.str s, e] :: ds) (s :: we ++ ws)
  | show_ {r b m b2 m2 : Nat} {s : Str} {e : PyData} {we : List Str} {ds : List PyData} {ws : List Str} (hs : s ∈ (["chooser", "comer"] : List Str)) (he : IsE ns 6 e we) (h : PaB ns r b m b2 m2 ds ws) : PaB ns r b m b2 m2 (.tuple [.str "show", .str s, e] :: ds) (("show" : Str) :: s :: we ++ ws)
  | set_ {r b m b2 m2 : Nat} {s : Str} {e : PyData} {we : List Str} {ds : List PyData} {ws : List Str} (hs : s ∈ ns) (he : IsE ns 6 e we) (h : PaB ns r b m b2 m2 ds ws) : PaB ns r b m b2 m2 (.tuple [.str "set", .str s, e] :: ds) (("set" : Str) :: s :: we ++ ws)
  | draw {r b m b2 m2 : Nat} {s : Str} {n : Int} {ds : List PyData} {ws : List Str} (hs : s ∈ ns) (h0 : 1 ≤ n) (h1 : n ≤ 8) (hb : b < 10) (h : PaB ns r (b + 1) m b2 m2 ds ws) : PaB ns r b m b2 m2 (.tuple [.str "draw", .str s, .int n] :: ds) (("draw" : Str) :: s :: istr n :: ws)
  | move {r b m b2 m2 : Nat} {c s : Str} {n : Int} {ds : List PyData} {ws : List Str} (hc : c ∈ (["choose", "come"] : List Str)) (hs : s ∈ ns) (h0 : 1 ≤ n) (h1 : n ≤ 8) (hb : b < 10) (h : PaB ns r (b + 1) (m + 1) b2 m2 ds ws) : PaB ns r b m b2 m2 (.tuple [.str c, .str s, .int n, .int m] :: ds) (c :: s :: istr n :: ws)
  | ite {r b m b1 m1 b2 m2 b3 m3 : Nat} {e : PyData} {we wt wo ws : List Str} {ts os ds : List PyData} (he : IsE ns 6 e we) (ht : PaB ns r b m b1 m1 ts wt) (ho : PaB ns r b1 m1 b2 m2 os wo) (h : PaB ns (r + 1) b2 m2 b3 m3 ds ws) : PaB ns (r + 1) b m b3 m3 (.tuple [.str "if", e, .tuple ts, .tuple os] :: ds) (("if" : Str) :: we ++ wt ++ elseW os wo ++ [("end" : Str)] ++ ws)
theorem PaB.app {ns : List Str} {r b m b1 m1 : Nat} {ds : List PyData} {ws : List Str} (h : PaB ns r b m b1 m1 ds ws) : ∀ {b2 m2 : Nat} {ds2 : List PyData} {ws2 : List Str}, PaB ns r b1 m1 b2 m2 ds2 ws2 → PaB ns r b m b2 m2 (ds ++ ds2) (ws ++ ws2) := by
  induction h with
  | nil => exact fun h => h
  | pay hs he h ih => intro _ _ _ _ h2; have := PaB.pay hs he (ih h2); simpa using this
  | show_ hs he h ih => intro _ _ _ _ h2; have := PaB.show_ hs he (ih h2); simpa using this
  | set_ hs he h ih => intro _ _ _ _ h2; have := PaB.set_ hs he (ih h2); simpa using this
  | draw hs h0 h1 hb h ih => intro _ _ _ _ h2; have := PaB.draw hs h0 h1 hb (ih h2); simpa using this
  | move hc hs h0 h1 hb h ih => intro _ _ _ _ h2; have := PaB.move hc hs h0 h1 hb (ih h2); simpa using this
  | ite he ht ho h _ _ ih => intro _ _ _ _ h2; have := PaB.ite he ht ho (ih h2); simpa using this
theorem PaB.le {ns : List Str} {r b m b1 m1 : Nat} {ds : List PyData} {ws : List Str} (h : PaB ns r b m b1 m1 ds ws) : b ≤ b1 ∧ m ≤ m1 ∧ (b ≤ 10 → b1 ≤ 10) ∧ ds.length ≤ ws.length := by
  induction h with
  | nil => simp
  | pay hs he h ih => simp only [List.length_cons, List.length_append]; omega
  | show_ hs he h ih => simp only [List.length_cons, List.length_append]; omega
  | set_ hs he h ih => simp only [List.length_cons, List.length_append]; omega
  | draw hs h0 h1 hb h ih => simp only [List.length_cons, List.length_append]; omega
  | move hc hs h0 h1 hb h ih => simp only [List.length_cons, List.length_append]; omega
  | ite he ht ho h iht iho ih => simp only [List.length_cons, List.length_append, List.length_nil]; omega
def scOf (ns : List Str) (b : Nat) : Sc := ⟨ns, 10 - b⟩
theorem isnum_of {i : Int} (h0 : 0 ≤ i) (h1 : i ≤ 65535) {lo hi : Int} (h2 : lo ≤ i) (h3 : i ≤ hi) : IsNum (istr i) lo hi := ⟨i, h0, h1, h2, h3, rfl⟩
theorem sg_num0 {i : Int} (h0 : 0 ≤ i) : istr i ∉ SIGNS_ := fun h => by
  have hD : ∀ s ∈ SIGNS_, ∃ c ∈ s.cps.toList, c < 48 ∨ 57 < c := by decide +kernel
  obtain ⟨c, hc, h2⟩ := hD _ h
  have := istr_dig h0 c hc
  omega
/-- an expression is taken -/
theorem go_expr {ns : List Str} (hN : ∀ x ∈ ns, IsName x) {n : Nat} {d : PyData} {ws : List Str} (h : IsE ns n d ws) (left : Nat) : Go [.val n] ⟨ns, left⟩ ws ⟨ns, left⟩ := by
  have hS : ∀ x ∈ ns, x ∉ SIGNS_ := fun x hx z => by
    have hL : ∀ s ∈ SIGNS_, s ∈ KEYS_ ∨ ∃ c ∈ s.cps.toList, c < 97 := by decide +kernel
    rcases hL _ z with h2 | ⟨c, hc, h2⟩
    · exact (hN x hx).nk h2
    · have := (hN x hx).lo c hc
      omega
  induction h with
  | @num n i h0 h1 =>
    refine go_one ?_
    rw [step_val]
    rw [if_neg (fun z => sg_num0 h0 z.1), if_pos (.inr (isnum_of h0 h1 h0 h1))]
  | @var n x hx =>
    refine go_one ?_
    rw [step_val]
    rw [if_neg (fun z => hS x hx z.1), if_pos (.inl hx)]
  | @op n s a b wa wb hs ha hb iha ihb =>
    have n1 : 1 ≤ n := by
      cases n with
      | zero => cases ha
      | succ n => omega
    refine go_step (l := [.val n, .val n]) ?_ (go_app iha ihb)
    rw [step_val]
    rw [if_pos ⟨hs, by omega⟩]
    rfl
end LL
namespace LL
open PySem PySem.Spec PyProof.Rows L2 He Evl
theorem numL_top (n : Nat) : n < 10 ^ (TL.numL n).length := by
  induction n using Nat.strongRecOn with
  | ind n ih =>
    by_cases h : n < 10
    · rw [TL.numL_lt h]; simpa using h
    · have := ih (n / 10) (by omega)
      rw [TL.numL_step (by omega), List.length_append, List.length_singleton, Nat.pow_succ]
      omega
/-- digits are a number's text when no 0 is too many -/
theorem canon : ∀ (k : Nat) (cs : List Nat), cs.length = k → cs ≠ [] → (∀ c ∈ cs, 48 ≤ c ∧ c ≤ 57) → (cs = [48] ∨ cs[0]? ≠ some 48) → ∃ n, cs = TL.numL n := by
  intro k
  induction k with
  | zero => intro cs h1 h2; exact absurd (List.length_eq_zero_iff.mp h1) h2
  | succ k ih =>
    intro cs h1 h2 h3 h4
    obtain ⟨ds, d, rfl⟩ : ∃ ds d, cs = ds ++ [d] := ⟨cs.dropLast, cs.getLast h2, (List.dropLast_concat_getLast h2).symm⟩
    have hd := h3 d (by simp)
    by_cases e : ds = []
    · subst e
      exact ⟨d - 48, by rw [TL.numL_lt (by omega)]; show [d] = _; congr 1; omega⟩
    · have h0 : ds[0]? ≠ some 48 := by
        rcases h4 with h4 | h4
        · exfalso
          have := congrArg List.length h4
          rw [List.length_append] at this
          simp at this
          exact e this
        · intro z
          apply h4
          rw [List.getElem?_append_left (List.length_pos_iff.mpr e)]
          exact z
      have hlen : ds.length = k := by rw [List.length_append] at h1; simp at h1; exact h1
      obtain ⟨m, hm⟩ := ih ds hlen e (fun c hc => h3 c (by simp [hc])) (.inr h0)
      have hm1 : 1 ≤ m := by
        rcases Nat.eq_zero_or_pos m with z | z
        · exfalso; subst z; apply h0; rw [hm]; rfl
        · exact z
      refine ⟨10 * m + (d - 48), ?_⟩
      rw [TL.numL_step (by omega), show (10 * m + (d - 48)) / 10 = m from by omega, show 48 + (10 * m + (d - 48)) % 10 = d from by omega, hm]
/-- up to five digits without a leading 0 write a number -/
theorem five_of {x : Str} (h1 : 1 ≤ x.length) (h2 : x.length ≤ 5) (h3 : ∀ c ∈ x.cps.toList, 48 ≤ c ∧ c ≤ 57) (h4 : x = "0" ∨ x.cps.toList[0]? ≠ some 48) : ∃ n : Nat, x = istr (n : Int) ∧ n < 100000 := by
  have hl : x.length = x.cps.toList.length := by simp [Str.length]
  obtain ⟨n, hn⟩ := canon _ x.cps.toList rfl (by intro z; rw [z] at hl; simp at hl; omega) h3 (by
    rcases h4 with h4 | h4
    · exact .inl (by rw [h4]; rfl)
    · exact .inr h4)
  refine ⟨n, TL.ext_tl (by show x.cps.toList = _; rw [hn]; exact (istr_l (i := (n : Int)) (by omega)).symm), ?_⟩
  have := numL_top n
  rw [← hn, ← hl] at this
  exact Nat.lt_of_lt_of_le this (Nat.pow_le_pow_right (n := 10) (by decide) h2)
theorem istr_int5 {n : Nat} (h : n < 100000) : PySem.intText? (istr (n : Int)) = some (n : Int) :=
  TL.int_num (Nat.le_trans (TL.numL_len (k := 5) (by decide) (by have : (10 : Nat) ^ 5 = 100000 := by decide
                                                                 omega)) (by decide))
theorem istr_inj {i j : Int} (h0 : 0 ≤ i) (h1 : i < 100000) (h2 : 0 ≤ j) (h3 : j < 100000) (h : istr i = istr j) : i = j := by
  obtain ⟨n, rfl⟩ : ∃ n : Nat, i = n := ⟨i.toNat, by omega⟩
  obtain ⟨m, rfl⟩ : ∃ m : Nat, j = m := ⟨j.toNat, by omega⟩
  have := (istr_int5 (n := n) (by omega)).symm.trans ((congrArg PySem.intText? h).trans (istr_int5 (n := m) (by omega)))
  exact Option.some.inj this
theorem dig_iff (c : Nat) : c ∈ DIG_.cps.toList ↔ 48 ≤ c ∧ c ≤ 57 := by
  have e : DIG_.cps.toList = [48, 49, 50, 51, 52, 53, 54, 55, 56, 57] := by decide +kernel
  rw [e]
  simp only [List.mem_cons, List.not_mem_nil, or_false]
  omega
theorem let_iff (c : Nat) : c ∈ LET_.cps.toList ↔ 97 ≤ c ∧ c ≤ 122 := by
  have e : LET_.cps.toList = [97, 98, 99, 100, 101, 102, 103, 104, 105, 106, 107, 108, 109, 110, 111, 112, 113, 114, 115, 116, 117, 118, 119, 120, 121, 122] := by decide +kernel
  rw [e]
  simp only [List.mem_cons, List.not_mem_nil, or_false]
  omega
section
variable {P : Program} {w : World} {K : PySem.W.Frag} {mg : Str → Option Value} {base : Heap}
/-- all([sign in Z for sign in x]) -/
theorem all_charsG {s0 : Option V} {H : Hp} {Q : VK} {x Z : Str} {tz : TE} (hz : ∀ σ H (Q : VK), Q (.str Z) H → tz σ H Q) (hl : x.length ≤ 1000) (k : ∀ H2, Ex H H2 → Q (.bl (x.cps.toList.all fun c => decide (c ∈ Z.cps.toList))) H2) :
    tCB (rAll K) (tCons (tLc (iStr (tVar 0)) (gName 1) tYes (tOp (fun x y H Q => ∃ (c : Nat) (z : Str), x = .str ⟨#[c]⟩ ∧ y = .str z ∧ Q (.bl (decide (c ∈ z.cps.toList))) H) (tVar 1) tz) [1]) tNil) [some (.str x), s0] H Q := by
  refine ⟨_, rfl, x, rfl, fun D nD => lc_it (n := x.cps.size) walk_str (fun i H' => upd H D (.lst (((x.cps.toList.take i).map fun c => decide (c ∈ Z.cps.toList)).map V.bl)) = H') rfl (fun _ _ _ _ => trivial) ?_ ?_⟩
  · rintro i y H1 H2 hi rfl ⟨rfl, c, hc, rfl⟩
    have hm : x.cps.toList[i]? = some c := by rw [← hc, Array.getElem?_toList]
    refine ⟨rfl, yes_if ?_⟩
    refine ⟨_, rfl, hz _ _ _ ⟨c, Z, rfl, rfl, _, upd_same, ?_, ?_⟩⟩
    · rw [List.length_map, List.length_map, List.length_take]
      have : (1000 : Nat) < sizeLine := by decide
      have e : x.cps.size = x.length := rfl
      omega
    · rw [upd_twice, List.take_add_one, hm, List.map_append, List.map_append]
      rfl
  · rintro H2 rfl
    rw [show x.cps.size = x.cps.toList.length from by simp, List.take_length]
    refine ⟨D, x.cps.toList.map fun c => decide (c ∈ Z.cps.toList), rfl, SqL.of upd_same, ?_⟩
    rw [List.all_map]
    exact k _ (Ex.new nD)
theorem lenCh (x : Str) {lo hi : Nat} {σ : L2.St} {H : Hp} {t : TE} : True := trivial
/-- a word asked whether it is a name -/
def spIsNameG : Sp := fun vs H Q _ => ∃ x : Str, vs = [.str x] ∧ x.length ≤ 1000 ∧ (IsName x → ∀ H2, Ex H H2 → Q (.bl true) H2) ∧ (¬ IsName x → ∀ H2, Ex H H2 → Q (.bl false) H2)
theorem fn_is_nameG (T : Txt K mg) : Fn P w K mg base 1 (ga K "is_name") (spIsNameG) := by
  refine fn_def T.d_is_name sc_is_name (fun _ _ _ _ _ _ us hl => match us, hl with | [_], _ => rfl) (fun vs H Q E h => ?_) (fun cdv A outer s H vs Q E hr h => ?_)
  · obtain ⟨x, rfl, _⟩ := h
    rfl
  obtain ⟨x, rfl, hl, kt, kf⟩ := h
  have nd := sc_is_name.nd
  refine ⟨_, pss_one (ps_ret (pe_and (pe_chain op_le op_le (pe_int) (pe_callB call_len_str (by rfl) T.f_len (by decide +kernel) (pa_cons (pv 0) pa_nil)) (pe_int)) (pe_and (pe_cmpR op_notIn_seq (pv 0) (pe_gr T.g_KEYS) rfl) (pe_one (pe_callB (cr_all rfl) (by rfl) T.f_all (by decide +kernel) (pa_cons (pe_lc (own := [("char", 1)]) (g := gName 1) (tt := tYes) rfl nd (pi_str (pv 0)) (blkOk_by (N := n_is_name) (sc := defScope s_is_name) (by decide +kernel)) (fun _ _ _ _ _ => pg_name (i := 1) nd rfl (by first | exact Or.inl rfl | exact Or.inr rfl)) (fun _ _ _ _ _ => pts_nil) (fun _ _ _ _ _ => pe_cmpR op_in_sign (pv 1) (pe_gs T.i_LETTERS) rfl)) pa_nil)))))), ?_⟩
  refine ⟨_, rfl, x, rfl, slen x 1000 hl (by decide), _, _, rfl, rfl, _, rfl, ?_⟩
  have fin : ∀ (b : Bool) H2, Ex H H2 → (b = true ↔ IsName x) → Q (.bl b) H2 := fun b H2 e2 hb => by
    cases b with
    | true => exact kt (hb.mp rfl) H2 e2
    | false => exact kf (fun z => Bool.noConfusion (hb.mpr z)) H2 e2
  refine ite2 (fun c1 => ⟨_, _, rfl, rfl, ?_⟩) fun c1 => ?_
  · have l1 : 1 ≤ x.length := by have := of_decide_eq_true c1; omega
    refine ⟨_, rfl, ite2 (fun c2 => ?_) fun c2 => ?_⟩
    · have l8 : x.length ≤ 8 := by have := of_decide_eq_true c2; omega
      refine ⟨_, rfl, ga K "KEYS", _, rfl, .inr (tupB_ok T.p_KEYS H), rfl, flat_strs KEYS_, _, rfl, ite2 (fun c3 => ?_) fun c3 => ?_⟩
      · have nk : x ∉ KEYS_ := fun z => by
          have c' : (!inV (.str x) (KEYS_.map V.str)) = true := c3
          rw [inV_strs, decide_eq_true z] at c'
          exact Bool.noConfusion c'
        refine all_charsG (Z := LET_) (fun _ _ _ h => h) hl fun H2 e2 => fin _ H2 e2 ⟨fun hb => ⟨l1, l8, fun c hc => (let_iff c).mp (of_decide_eq_true (List.all_eq_true.mp hb c hc)), nk⟩, fun hn => List.all_eq_true.mpr fun c hc => decide_eq_true ((let_iff c).mpr (hn.lo c hc))⟩
      · have hk : x ∈ KEYS_ := Classical.byContradiction fun z => c3 (by
          show (!inV (.str x) (KEYS_.map V.str)) = true
          rw [inV_strs, decide_eq_false z]
          rfl)
        exact fin false H (Ex.refl H) ⟨fun z => Bool.noConfusion z, fun hn => absurd hk hn.nk⟩
    · exact fin false H (Ex.refl H) ⟨fun z => Bool.noConfusion z, fun hn => absurd (decide_eq_true (by have := hn.l8; omega)) c2⟩
  · exact ⟨_, rfl, iteF (fin false H (Ex.refl H) ⟨fun z => Bool.noConfusion z, fun hn => absurd (decide_eq_true (by have := hn.l1; omega)) c1⟩)⟩
/-- the number that a word writes, or None -/
def spNumberOfG : Sp := fun vs H Q _ => ∃ x : Str, vs = [.str x] ∧ x.length ≤ 1000 ∧ (∀ i : Int, 0 ≤ i → i ≤ 65535 → x = istr i → ∀ H2, Ex H H2 → Q (.int i) H2) ∧ ((∀ i : Int, 0 ≤ i → i ≤ 65535 → x ≠ istr i) → ∀ H2, Ex H H2 → Q .non H2)
theorem fn_number_ofG (T : Txt K mg) : Fn P w K mg base 1 (ga K "number_of") (spNumberOfG) := by
  refine fn_def T.d_number_of sc_number_of (fun _ _ _ _ _ _ us hl => match us, hl with | [_], _ => rfl) (fun vs H Q E h => ?_) (fun cdv A outer s H vs Q E hr h => ?_)
  · obtain ⟨x, rfl, _⟩ := h
    rfl
  obtain ⟨x, rfl, hl, kg, kb⟩ := h
  have nd := sc_number_of.nd
  refine ⟨_, pss_cons (ps_if (PW.pt (pw_or (pt_not (pt_chain op_le op_le (pe_int) (pe_callB call_len_str (by rfl) T.f_len (by decide +kernel) (pa_cons (pv 0) pa_nil)) (pe_int))) (pw_or1 (pt_not (pt_val (pe_callB (cr_all rfl) (by rfl) T.f_all (by decide +kernel) (pa_cons (pe_lc (own := [("char", 1)]) (g := gName 1) (tt := tYes) rfl nd (pi_str (pv 0)) (blkOk_by (N := n_number_of) (sc := defScope s_number_of) (by decide +kernel)) (fun _ _ _ _ _ => pg_name (i := 1) nd rfl (by first | exact Or.inl rfl | exact Or.inr rfl)) (fun _ _ _ _ _ => pts_nil) (fun _ _ _ _ _ => pe_cmpR op_in_sign (pv 1) (pe_str) rfl)) pa_nil))))))) (pss_one (ps_ret (pe_non))) (pss_nil))
      (pss_cons (ps_if (PW.pt (pw_or (PW.pt (pw_and (pt_cmpR op_eq (pe_ix ix_str (pv 0) (pe_int) (fun _ _ => rfl)) (pe_str) (nomark _)) (pw_and1 (pt_cmpR op_ne (pv 0) (pe_str) (nomark _))))) (pw_or1 (pt_cmpR op_gt (pe_callTy call_int_str (by rfl) T.f_int (by decide +kernel) (pa_cons (pv 0) pa_nil)) (pe_gi T.i_GREATEST) (nomark _))))) (pss_one (ps_ret (pe_non))) (pss_nil))
      (pss_one (ps_ret (pe_callTy call_int_str (by rfl) T.f_int (by decide +kernel) (pa_cons (pv 0) pa_nil))))), ?_⟩
  have hs : x.length ≤ sizeLine := slen x 1000 hl (by decide)
  have hxl : x.length = x.cps.toList.length := by simp [Str.length]
  refine q_when (b := !(decide (1 ≤ x.length) && decide (x.length ≤ 5)) || !(x.cps.toList.all fun c => decide (c ∈ DIG_.cps.toList))) (et_or (et_not (et_test ?_)) fun _ => et_not (et_B ?_)) (fun c H1 e1 => ?_) (fun c H1 e1 => ?_)
  · intro H1 e1 Q1 q1
    refine ⟨_, rfl, x, rfl, hs, _, _, rfl, rfl, _, rfl, ?_⟩
    rw [show decide ((1 : Int) ≤ (x.length : Nat)) = decide (1 ≤ x.length) from decide_eq_decide.mpr (by omega)]
    by_cases z : 1 ≤ x.length
    · rw [decide_eq_true z, if_pos rfl]
      refine ⟨_, _, rfl, rfl, ?_⟩
      rw [decide_eq_true z, Bool.true_and] at q1
      show Q1 (V.bl (decide (((x.length : Nat) : Int) ≤ 5))) H1
      rw [show decide (((x.length : Nat) : Int) ≤ 5) = decide (x.length ≤ 5) from decide_eq_decide.mpr (by omega)]
      exact q1 H1 (Ex.refl _)
    · rw [decide_eq_false z] at q1 ⊢
      exact q1 H1 (Ex.refl _)
  · exact fun H1 e1 Q1 q1 => all_charsG (Z := DIG_) (fun _ _ _ h => h) hl q1
  · refine kb (fun i h0 h1 hx => ?_) H1 e1
    obtain ⟨l1, l5⟩ := istr_len h0 h1
    have hd : (x.cps.toList.all fun c => decide (c ∈ DIG_.cps.toList)) = true := List.all_eq_true.mpr fun c hc => decide_eq_true ((dig_iff c).mpr (istr_dig h0 c (by rw [← hx]; exact hc)))
    rw [← hx] at l1 l5
    rw [decide_eq_true l1, decide_eq_true l5, hd] at c
    exact Bool.noConfusion c
  · have c1 : 1 ≤ x.length ∧ x.length ≤ 5 ∧ (x.cps.toList.all fun c => decide (c ∈ DIG_.cps.toList)) = true := by
      by_cases z1 : 1 ≤ x.length
      · by_cases z2 : x.length ≤ 5
        · rw [decide_eq_true z1, decide_eq_true z2] at c
          exact ⟨z1, z2, by simpa using c⟩
        · rw [decide_eq_true z1, decide_eq_false z2] at c
          exact Bool.noConfusion c
      · rw [decide_eq_false z1] at c
        exact Bool.noConfusion c
    obtain ⟨l1, l2, hd⟩ := c1
    have hdig : ∀ c ∈ x.cps.toList, 48 ≤ c ∧ c ≤ 57 := fun c hc => (dig_iff c).mp (of_decide_eq_true (List.all_eq_true.mp hd c hc))
    obtain ⟨c0, hc0⟩ : ∃ c0, x.cps.toList[0]? = some c0 := ⟨_, List.getElem?_eq_getElem (by omega)⟩
    have e0 : decide ((V.str ⟨#[c0]⟩) = V.str ("0" : Str)) = decide (c0 = 48) := decide_eq_decide.mpr ⟨fun h => by
      have h2 : ([c0] : List Nat) = [48] := congrArg (fun x : Str => x.cps.toList) (V.str.inj h)
      exact (List.cons.inj h2).1, fun h => by rw [h]; rfl⟩
    have e1' : decide ((V.str x) = V.str ("0" : Str)) = decide (x = ("0" : Str)) := decide_eq_decide.mpr ⟨fun h => V.str.inj h, fun h => by rw [h]⟩
    have hA : EvT (tAnd (tTest (tOp rEq (tOp rIxS (tVar 0) (tC (.int 0))) (tC (.str "0")))) (tTest (tOp rNe (tVar 0) (tC (.str "0"))))) [some (.str x), none] H1 (decide (c0 = 48) && !decide (x = ("0" : Str))) := et_and (et_test (ev_is (ev_op (ev_op (ev_var rfl) ev_c (rv_ixS (by omega) (atI_nat (j := 0) hc0))) ev_c (rv_eq rfl)) (congrArg V.bl e0))) fun _ => et_test (ev_is (ev_op (ev_var rfl) ev_c (rv_ne rfl)) (congrArg (fun b => V.bl (!b)) e1'))
    by_cases zz : c0 = 48 ∧ x ≠ ("0" : Str)
    · refine q_when (et_or (b := true) hA fun z => ?_) (fun _ H2 e2 => ?_) fun z => ?_
      · rw [decide_eq_true zz.1, decide_eq_false zz.2] at z
        exact Bool.noConfusion z
      · refine kb (fun i h0 h1 hx => ?_) H2 (e1.trans e2)
        rcases istr_head h0 with h | ⟨c, hc, hge⟩
        · exact zz.2 (hx.trans h)
        · rw [← hx, hc0] at hc
          cases hc
          omega
      · rw [decide_eq_true zz.1, decide_eq_false zz.2] at z
        exact Bool.noConfusion z
    · obtain ⟨n, hn, hn5⟩ := five_of l1 l2 hdig (by
        by_cases z : x = ("0" : Str)
        · exact .inl z
        · refine .inr fun y => ?_
          rw [y] at hc0
          cases hc0
          exact zz ⟨rfl, z⟩)
      have hv : PySem.intText? x = some (n : Int) := by rw [hn]; exact istr_int5 hn5
      have hz : (decide (c0 = 48) && !decide (x = ("0" : Str))) = false := by
        by_cases a : c0 = 48
        · by_cases b : x = ("0" : Str)
          · rw [decide_eq_true b]; simp
          · exact absurd ⟨a, b⟩ zz
        · rw [decide_eq_false a]; rfl
      refine q_when (et_or (b := decide (65535 < n)) hA fun _ => ?_) (fun z H2 e2 => ?_) fun z H2 e2 => ?_
      · intro H2 e2 Q2 q2
        refine ⟨_, rfl, x, (n : Int), rfl, hv, by omega, _, _, rfl, rfl, _, rfl, ?_⟩
        rw [show decide ((65535 : Int) < (n : Nat)) = decide (65535 < n) from decide_eq_decide.mpr (by omega)]
        exact q2 H2 (Ex.refl _)
      · rw [hz, Bool.false_or] at z
        have hgt := of_decide_eq_true z
        refine kb (fun i h0 h1 hx => ?_) H2 (e1.trans e2)
        have := istr_inj (i := i) (j := (n : Int)) h0 (by omega) (by omega) (by omega) (hx.symm.trans hn)
        omega
      · rw [hz, Bool.false_or] at z
        have hle := of_decide_eq_false z
        exact ⟨_, rfl, x, (n : Int), rfl, hv, by omega, kg (n : Int) (by omega) (by omega) hn H2 (e1.trans e2)⟩
end
end LL
namespace LL
open PySem
abbrev P : Program := PR
end LL
namespace LL
open PySem PySem.Spec PyProof.Rows L2 He Evl
section
variable {X : Cx} {e : Expr} {p pos : Pos} {ta : TA}
theorem pmk_BadText (T : Txt X.K X.mg) (hr : Room 2 X.A) (ha : PA X [e] ta) (hP : X.prog = PR := by rfl) (hg : Gl X "BadText" := by rfl) (he : starEach [e] X.env = (false, eval e X.env) :: starEach [] X.env := by rfl) : PMk X (.Call (.Name "BadText" p) [e] [] pos) (tMkS (ga X.K "BadText") "at" ta) :=
  pmk_sup (by rw [hP]; exact T.s_BadText) T.f_super hr hg T.g_BadText ha (by decide) he
end
theorem lst_ne {H : Hp} {a p C dx : Addr} {fs : List (Str × V)} {xs : List V} (h1 : H p = some (.ins C dx fs)) (h2 : H a = some (.lst xs)) : a ≠ p := fun z => by
  rw [z, h1] at h2
  cases h2
theorem drop_at {W : List Str} {a : Nat} {x : Str} (h : W[a]? = some x) : W.drop a = x :: W.drop (a + 1) := by
  obtain ⟨h1, h2⟩ := List.getElem?_eq_some_iff.mp h
  rw [List.drop_eq_getElem_cons h1, h2]
theorem drop_end {W : List Str} {a : Nat} (h : W[a]? = none) : W.drop a = [] := List.drop_eq_nil_of_le (List.getElem?_eq_none_iff.mp h)
theorem drop_len {W ws : List Str} {a b : Nat} (h : W.drop a = ws ++ W.drop b) (hb : b ≤ W.length) (ha : a ≤ W.length) : b = a + ws.length := by
  have := congrArg List.length h
  rw [List.length_append, List.length_drop, List.length_drop] at this
  omega
theorem name_ne {x : Str} (h : IsName x) : x ≠ "" := fun z => by
  have := h.l1
  rw [z] at this
  exact absurd this (by decide)
/-- BadText(i) may be let out -/
def Bt (K : PySem.W.Frag) (E : XK) (i : Nat) : Prop := ∀ d H2, H2 d = some (.xd [("at", .int (i : Nat))]) → E (.ref (ga K "BadText")) (some d) H2
section
variable {w : World} {K : PySem.W.Frag} {mg : Str → Option Value} {base : Heap}
def rdF (lw ln : Addr) (at_ br mv : Nat) : List (Str × V) := [("words", .ref lw), ("at", .int at_), ("names", .ref ln), ("branches", .int br), ("moves", .int mv)]
/-- a Reader with its words, its place, its names and its counts -/
def Rw (K : PySem.W.Frag) (p : Addr) (L : Addr × Addr) (W N : List Str) (at_ br mv : Nat) (H : Hp) : Prop := ∃ dx : Addr, H p = some (.ins (ga K "Reader") dx (rdF L.1 L.2 at_ br mv)) ∧ H L.1 = some (.lst (W.map V.str)) ∧ H L.2 = some (.lst (N.map V.str)) ∧ at_ ≤ W.length ∧ W.length ≤ 2000000 ∧ ∀ x ∈ W, x.length ≤ 1000
variable {p : Addr} {L : Addr × Addr} {W N : List Str} {at_ bc mc : Nat} {B H B2 H2 : Hp}
theorem Rw.stp (h : Rw K p L W N at_ bc mc H) (s : Stp [] B H B2 H2) : Rw K p L W N at_ bc mc H2 := by
  obtain ⟨dx, h1, h2, h3, h4⟩ := h
  exact ⟨dx, s.fr _ _ (by simp) h1, s.fr _ _ (by simp) h2, s.fr _ _ (by simp) h3, h4⟩
theorem Rw.ex (h : Rw K p L W N at_ bc mc H) (s : Ex H H2) : Rw K p L W N at_ bc mc H2 := by
  obtain ⟨dx, h1, h2, h3, h4⟩ := h
  exact ⟨dx, s _ _ h1, s _ _ h2, s _ _ h3, h4⟩
theorem Rw.le (h : Rw K p L W N at_ bc mc H) : at_ ≤ W.length := by
  obtain ⟨dx, h1, h2, h3, h4, _⟩ := h
  exact h4
theorem Rw.at {x : Str} (h : Rw K p L W N at_ bc mc H) (hx : W[at_]? = some x) {dx : Addr} (hp : H p = some (.ins (ga K "Reader") dx (rdF L.1 L.2 at_ bc mc))) : Rw K p L W N (at_ + 1) bc mc (upd H p (.ins (ga K "Reader") dx (putF "at" (.int ((at_ : Int) + 1)) (rdF L.1 L.2 at_ bc mc)))) := by
  obtain ⟨dx', h1, h2, h3, h4, h5⟩ := h
  have h6 := (List.getElem?_eq_some_iff.mp hx).1
  exact ⟨dx, upd_same, by rw [upd_ne (lst_ne hp h2)]; exact h2, by rw [upd_ne (lst_ne hp h3)]; exact h3, by omega, h5⟩
theorem Rw.br (h : Rw K p L W N at_ bc mc H) {dx : Addr} (hp : H p = some (.ins (ga K "Reader") dx (rdF L.1 L.2 at_ bc mc))) : Rw K p L W N at_ (bc + 1) mc (upd H p (.ins (ga K "Reader") dx (putF "branches" (.int ((bc : Int) + 1)) (rdF L.1 L.2 at_ bc mc)))) := by
  obtain ⟨dx', h1, h2, h3, h4, h5⟩ := h
  exact ⟨dx, upd_same, by rw [upd_ne (lst_ne hp h2)]; exact h2, by rw [upd_ne (lst_ne hp h3)]; exact h3, h4, h5⟩
theorem Rw.mv (h : Rw K p L W N at_ bc mc H) {dx : Addr} (hp : H p = some (.ins (ga K "Reader") dx (rdF L.1 L.2 at_ bc mc))) : Rw K p L W N at_ bc (mc + 1) (upd H p (.ins (ga K "Reader") dx (putF "moves" (.int ((mc : Int) + 1)) (rdF L.1 L.2 at_ bc mc)))) := by
  obtain ⟨dx', h1, h2, h3, h4, h5⟩ := h
  exact ⟨dx, upd_same, by rw [upd_ne (lst_ne hp h2)]; exact h2, by rw [upd_ne (lst_ne hp h3)]; exact h3, h4, h5⟩
/-- the word at the place -/
def wat (W : List Str) (a : Nat) : Str := (W[a]?).getD ""
theorem wat_some {W : List Str} {a : Nat} {x : Str} (h : W[a]? = some x) : wat W a = x := by unfold wat; rw [h]; rfl
theorem wat_of {W : List Str} {a : Nat} {x : Str} (h : wat W a = x) (hx : x ≠ "") : W[a]? = some x := by
  unfold wat at h
  cases e : W[a]? with
  | none => rw [e] at h; exact absurd h.symm hx
  | some y => rw [e] at h; rw [← h]; rfl
def spWordG (K : PySem.W.Frag) : Sp := fun vs H Q _ => ∃ (L : Addr × Addr) (p : Addr) (W N : List Str) (at_ b m : Nat), vs = [.ref p] ∧ Rw K p L W N at_ b m H ∧ Q (.str (wat W at_)) H
theorem fn_Reader_word (T : Txt K mg) : Fn P w K mg base 1 (ma K (ga K "Reader") "word") (spWordG K) := by
  refine fn_def T.d_Reader_word sc_Reader_word (fun _ _ _ _ _ _ us hl => match us, hl with | [_], _ => rfl) (fun vs H Q E h => ?_) (fun cdv A outer s H vs Q E hr h => ?_)
  · obtain ⟨L, p, W, N, at_, b, m, rfl, _⟩ := h
    rfl
  obtain ⟨L, p, W, N, at_, b, m, rfl, ⟨dx, hp, hw, hn, ha, hl, _⟩, k⟩ := h
  have nd := sc_Reader_word.nd
  have lenW : (W.map V.str).length ≤ sizeLine := by rw [List.length_map]; exact big_ hl
  refine ⟨_, pss_cons (ps_if (pt_cmpR op_lt (pe_fld (pv 0) rfl) (pe_callB call_len_seq (by rfl) T.f_len PySem.boot_len (pa_cons (pe_fld (pv 0) rfl) pa_nil)) (nomark _)) (pss_one (ps_ret (pe_ix ix_list (pe_fld (pv 0) rfl) (pe_fld (pv 0) rfl) (fun _ _ => rfl)))) (pss_nil))
      (pss_one (ps_ret (pe_str))), ?_⟩
  refine ⟨_, rfl, p, _, _, _, _, rfl, hp, T.c_Reader, T.a_Reader_at, rfl, _, rfl, p, _, _, _, _, rfl, hp, T.c_Reader, T.a_Reader_words, rfl, L.1, _, rfl, .inl (SqL.of hw), _, _, rfl, rfl, _, rfl, ite2 (fun c => ?_) fun c => ?_⟩
  · have h1 : at_ < W.length := by
      have := of_decide_eq_true c
      rw [List.length_map] at this
      omega
    have e : wat W at_ = W[at_] := wat_some (List.getElem?_eq_getElem h1)
    rw [e] at k
    exact ⟨_, rfl, p, _, _, _, _, rfl, hp, T.c_Reader, T.a_Reader_words, rfl, _, rfl, p, _, _, _, _, rfl, hp, T.c_Reader, T.a_Reader_at, rfl, L.1, _, _, _, rfl, rfl, SqL.of hw, atI_nat (x := V.str W[at_]) (by simp [h1]), k⟩
  · have h1 : W.length ≤ at_ := by
      rcases Nat.lt_or_ge at_ W.length with h | h
      · exact absurd (decide_eq_true (by rw [List.length_map]; omega)) c
      · exact h
    have e : wat W at_ = "" := by unfold wat; rw [List.getElem?_eq_none h1]; rfl
    rw [e] at k
    exact k
def spTakeG (K : PySem.W.Frag) : Sp := fun vs H Q E => ∃ (B : Hp) (L : Addr × Addr) (p a : Addr) (W N xs : List Str) (at_ b m : Nat), vs = [.ref p, .ref a] ∧ Ex B H ∧ B p = none ∧ Rw K p L W N at_ b m H ∧ (SqL K H a (xs.map V.str) ∨ SqT K H a (xs.map V.str)) ∧ ("" : Str) ∉ xs ∧
  (∀ x H2, W[at_]? = some x → x ∈ xs → Stp [p] B H B H2 → Rw K p L W N (at_ + 1) b m H2 → Q (.str x) H2) ∧ ((∀ x, W[at_]? = some x → x ∉ xs) → Bt K E at_)
theorem fn_Reader_take (T : Txt K mg) : Fn P w K mg base 3 (ma K (ga K "Reader") "take") (spTakeG K) := by
  refine fn_def T.d_Reader_take sc_Reader_take (fun _ _ _ _ _ _ us hl => match us, hl with | [_, _], _ => rfl) (fun vs H Q E h => ?_) (fun cdv A outer s H vs Q E hr h => ?_)
  · obtain ⟨B, L, p, a, W, N, xs, at_, b, m, rfl, _⟩ := h
    rfl
  obtain ⟨B, L, p, a, W, N, xs, at_, b, m, rfl, e, hb, hr0, hs, hx, k, kb⟩ := h
  have nd := sc_Reader_take.nd
  refine ⟨_, pss_cons (ps_set (i := 2) nd rfl (by first | exact Or.inl rfl | exact Or.inr rfl) (pe_methR0 (pv 0) T.c_Reader T.t_Reader_word (fn_Reader_word T) (hr.mono (by decide)) pc))
      (pss_cons (ps_if (pt_cmpR op_notIn_seq (pv 2) (pv 1) rfl) (pss_one (ps_raise rfl (takes_of rfl rfl rfl rfl) (pmk_BadText T (hr.mono (by decide)) (pa_cons (pe_fld (pv 0) rfl) pa_nil)))) (pss_nil))
      (pss_cons (ps_fldaug (pv 0) (pe_int) in_add)
      (pss_one (ps_ret (pv 2))))), ?_⟩
  obtain ⟨dx, hp, hw, hn, ha, hl⟩ := id hr0
  refine ⟨_, rfl, p, dx, _, rfl, hp, rfl, L, p, W, N, at_, b, m, rfl, hr0, ?_⟩
  by_cases hc : wat W at_ ∈ xs
  · have hx1 := wat_of (W := W) (a := at_) rfl (fun z => hx (by rw [← z]; exact hc))
    refine ⟨_, rfl, _, rfl, a, _, rfl, hs, rfl, flat_strs xs, _, rfl, ite2 (fun c => ?_) fun _ => ?_⟩
    · have c' : (!inV (.str (wat W at_)) (xs.map V.str)) = true := c
      rw [inV_strs, decide_eq_true hc] at c'
      exact Bool.noConfusion c'
    refine ⟨_, rfl, p, _, _, _, _, rfl, hp, T.c_Reader, T.a_Reader_at, rfl, _, _, rfl, rfl, _, _, hp, (by show 5 < 1000; decide), _, rfl, ?_⟩
    exact k _ _ hx1 hc (Stp.put e hb (.head _)) (hr0.at hx1 hp)
  · refine ⟨_, rfl, _, rfl, a, _, rfl, hs, rfl, flat_strs xs, _, rfl, ite2 (fun _ => ?_) fun c => ?_⟩
    · exact ⟨_, rfl, p, _, _, _, _, rfl, hp, T.c_Reader, T.a_Reader_at, rfl, _, rfl, fun d nd => kb (fun x h1 h2 => hc (by rw [wat_some h1]; exact h2)) d _ upd_same⟩
    · exfalso
      apply c
      show (!inV (.str (wat W at_)) (xs.map V.str)) = true
      rw [inV_strs, decide_eq_false hc]
      rfl
def spTakeNG (K : PySem.W.Frag) : Sp := fun vs H Q E => ∃ (B : Hp) (L : Addr × Addr) (p : Addr) (W N : List Str) (lo hi : Int) (at_ b m : Nat), vs = [.ref p, .int lo, .int hi] ∧ Ex B H ∧ B p = none ∧ Rw K p L W N at_ b m H ∧
  (∀ i H2, W[at_]? = some (istr i) → 0 ≤ i → i ≤ 65535 → lo ≤ i → i ≤ hi → Stp [p] B H B H2 → Rw K p L W N (at_ + 1) b m H2 → Q (.int i) H2) ∧ ((∀ x, W[at_]? = some x → ¬ IsNum x lo hi) → Bt K E at_)
theorem istr_ne {i : Int} (h0 : 0 ≤ i) (h1 : i ≤ 65535) : istr i ≠ "" := fun z => by
  have := (istr_len h0 h1).1
  rw [z] at this
  exact absurd this (by decide)
theorem fn_Reader_take_number (T : Txt K mg) : Fn P w K mg base 3 (ma K (ga K "Reader") "take_number") (spTakeNG K) := by
  refine fn_def T.d_Reader_take_number sc_Reader_take_number (fun _ _ _ _ _ _ us hl => match us, hl with | [_, _, _], _ => rfl) (fun vs H Q E h => ?_) (fun cdv A outer s H vs Q E hr h => ?_)
  · obtain ⟨B, L, p, W, N, lo, hi, at_, b, m, rfl, _⟩ := h
    rfl
  obtain ⟨B, L, p, W, N, lo, hi, at_, b, m, rfl, e, hb, hr0, k, kb⟩ := h
  have nd := sc_Reader_take_number.nd
  refine ⟨_, pss_cons (ps_set (i := 3) nd rfl (by first | exact Or.inl rfl | exact Or.inr rfl) (pe_fn T.d_number_of (fn_number_ofG T) (hr.mono (by decide)) T.g_number_of pc (pa_cons (pe_methR0 (pv 0) T.c_Reader T.t_Reader_word (fn_Reader_word T) (hr.mono (by decide)) pc) pa_nil)))
      (pss_cons (ps_if (PW.pt (pw_or (pt_cmpR op_isN (pv 3) (pe_non) (nomark _)) (pw_or1 (pt_not (pt_chain op_le op_le (pv 1) (pv 3) (pv 2)))))) (pss_one (ps_raise rfl (takes_of rfl rfl rfl rfl) (pmk_BadText T (hr.mono (by decide)) (pa_cons (pe_fld (pv 0) rfl) pa_nil)))) (pss_nil))
      (pss_cons (ps_fldaug (pv 0) (pe_int) in_add)
      (pss_one (ps_ret (pv 3))))), ?_⟩
  obtain ⟨dx, hp, hw, hn, ha, hl, hlen⟩ := id hr0
  have hwl : (wat W at_).length ≤ 1000 := by
    unfold wat
    cases h : W[at_]? with
    | none => exact (show 0 ≤ 1000 by decide)
    | some x => exact hlen x (List.mem_of_getElem? h)
  refine ⟨_, rfl, p, dx, _, rfl, hp, rfl, L, p, W, N, at_, b, m, rfl, hr0, wat W at_, rfl, hwl, fun i i0 i1 hi_ H2 x2 => ?_, fun hno H2 x2 => ?_⟩
  · have hx1 := wat_of hi_ (istr_ne i0 i1)
    have hp2 := x2 _ _ hp
    refine ⟨_, rfl, rfl, _, rfl, iteF ?_⟩
    have raise : ¬ (lo ≤ i ∧ i ≤ hi) → ∀ H3 d, H3 d = some (.xd [("at", .int (at_ : Nat))]) → E (.ref (ga K "BadText")) (some d) H3 := fun hno H3 d h3 => kb (fun x h1 ⟨j, j0, j1, j2, j3, hj⟩ => by
      rw [hx1] at h1
      cases h1
      have := istr_inj (i := i) (j := j) i0 (by omega) j0 (by omega) hj
      exact hno (by omega)) d H3 h3
    refine ⟨_, rfl, _, rfl, _, _, rfl, rfl, _, rfl, ite2 (fun c1 => ?_) fun c1 => ?_⟩
    · refine ⟨_, rfl, _, _, rfl, rfl, _, rfl, ite2 (fun c => ?_) fun c => ?_⟩
      · have c' : (!decide (i ≤ hi)) = true := c
        refine ⟨_, rfl, p, _, _, _, _, rfl, hp2, T.c_Reader, T.a_Reader_at, rfl, _, rfl, fun d nd => raise (fun z => ?_) _ d upd_same⟩
        rw [decide_eq_true z.2] at c'
        exact Bool.noConfusion c'
      · have hhi : i ≤ hi := Classical.byContradiction fun z => c (by show (!decide (i ≤ hi)) = true; rw [decide_eq_false z]; rfl)
        have s1 := Stp.ofEx (ms := [p]) e x2
        refine ⟨_, rfl, p, _, _, _, _, rfl, hp2, T.c_Reader, T.a_Reader_at, rfl, _, _, rfl, rfl, _, _, hp2, (by show 5 < 1000; decide), _, rfl, ?_⟩
        exact k i _ hx1 i0 i1 (of_decide_eq_true c1) hhi (s1.trans (Stp.put s1.in_ hb (.head _))) ((hr0.ex x2).at hx1 hp2)
    · refine ⟨_, rfl, iteT ?_⟩
      exact ⟨_, rfl, p, _, _, _, _, rfl, hp2, T.c_Reader, T.a_Reader_at, rfl, _, rfl, fun d nd => raise (fun z => c1 (decide_eq_true z.1)) _ d upd_same⟩
  · refine ⟨_, rfl, rfl, _, rfl, iteT ?_⟩
    exact ⟨_, rfl, p, _, _, _, _, rfl, x2 _ _ hp, T.c_Reader, T.a_Reader_at, rfl, _, rfl, fun d nd => kb (fun x h1 ⟨j, j0, j1, _, _, hj⟩ => hno j j0 j1 (by rw [wat_some h1]; exact hj)) d _ upd_same⟩
end
end LL
namespace LL
open PySem PySem.Spec PyProof.Rows L2 He Evl
theorem sign_ne {s : Str} (h : s ∈ SIGNS_) : s ≠ "" := by
  have : ∀ s ∈ SIGNS_, s ≠ ("" : Str) := by decide +kernel
  exact this s h
section
variable {w : World} {K : PySem.W.Frag} {mg : Str → Option Value} {base : Heap}
/-- an expression of at most this depth, or the first word that does not fit -/
def spExprG (K : PySem.W.Frag) (n : Nat) : Sp := fun vs H Q E => ∃ (B : Hp) (L : Addr × Addr) (p : Addr) (W N : List Str) (at_ b m : Nat), vs = [.ref p, .int (n : Int)] ∧ 1 ≤ n ∧ Ex B H ∧ B p = none ∧ Rw K p L W N at_ b m H ∧ (∀ x ∈ N, IsName x) ∧
  (∀ (v : V) (B2 H2 : Hp) (d : PyData) (ws : List Str), W.drop at_ = ws ++ W.drop (at_ + ws.length) → IsE N n d ws → Stp [p] B H B2 H2 → Rw K p L W N (at_ + ws.length) b m H2 → Dp K B2 v d → Q v H2) ∧
  (∀ i, (∀ left, BadAt [.val n] ⟨N, left⟩ (W.drop at_) i) → Bt K E (at_ + i))
theorem fn_expr1 (T : Txt K mg) (n : Nat) (IH : Fn P w K mg base (3 + n) (ma K (ga K "Reader") "expression") (spExprG K n)) : Fn P w K mg base (3 + n + 1) (ma K (ga K "Reader") "expression") (spExprG K (n + 1)) := by
  refine fn_def T.d_Reader_expression sc_Reader_expression (fun _ _ _ _ _ _ us hl => match us, hl with | [_, _], _ => rfl) (fun vs H Q E h => ?_) (fun cdv A outer s H vs Q E hr h => ?_)
  · obtain ⟨B, L, p, W, N, at_, b, m, rfl, _⟩ := h
    rfl
  obtain ⟨B, L, p, W, N, at_, b, m, rfl, _, e, hb, hr0, hN, k, kb⟩ := h
  have nd := sc_Reader_expression.nd
  have hr1 : Room 1 _ := hr.mono (by omega)
  have hr2 : Room 3 _ := hr.mono (by omega)
  refine ⟨_, pss_cons (ps_set (i := 2) nd rfl (by first | exact Or.inl rfl | exact Or.inr rfl) (pe_methR0 (pv 0) T.c_Reader T.t_Reader_word (fn_Reader_word T) hr1 pc))
      (pss_cons (ps_if (PW.pt (pw_and (pt_cmpR op_in_seq (pv 2) (pe_gr T.g_SIGNS) rfl) (pw_and1 (pt_cmpR op_gt (pv 1) (pe_int) (nomark _))))) (pss_cons (ps_fldaug (pv 0) (pe_int) in_add)
      (pss_cons (ps_set (i := 3) nd rfl (by first | exact Or.inl rfl | exact Or.inr rfl) (pe_methR (pv 0) T.c_Reader T.t_Reader_expression IH hr pc (pa_cons (pe_op op_sub (pv 1) (pe_int)) pa_nil)))
      (pss_one (ps_ret (pe_tup (pa_cons (pv 2) (pa_cons (pv 3) (pa_cons (pe_methR (pv 0) T.c_Reader T.t_Reader_expression IH hr pc (pa_cons (pe_op op_sub (pv 1) (pe_int)) pa_nil)) pa_nil)))))))) (pss_nil))
      (pss_cons (ps_if (pt_cmpR op_in_seq (pv 2) (pe_fld (pv 0) rfl) rfl) (pss_cons (ps_fldaug (pv 0) (pe_int) in_add)
      (pss_one (ps_ret (pe_tup (pa_cons (pe_str) (pa_cons (pv 2) pa_nil)))))) (pss_nil))
      (pss_one (ps_ret (pe_tup (pa_cons (pe_str) (pa_cons (pe_methR (pv 0) T.c_Reader T.t_Reader_take_number (fn_Reader_take_number T) hr2 pc (pa_cons (pe_int) (pa_cons (pe_gi T.i_GREATEST) pa_nil))) pa_nil))))))), ?_⟩
  obtain ⟨dx, hp, hw, hn, ha, hl⟩ := id hr0
  refine ⟨_, rfl, p, dx, _, rfl, hp, rfl, L, p, W, N, at_, b, m, rfl, hr0, ?_⟩
  by_cases hs : wat W at_ ∈ SIGNS_ ∧ 1 ≤ n
  · obtain ⟨hs, hn1⟩ := hs
    have hx := wat_of (W := W) (a := at_) rfl (sign_ne hs)
    have hd := drop_at hx
    generalize wat W at_ = sg at hs hx hd
    have hst : ∀ left, step ⟨N, left⟩ sg (.val (n + 1)) = some ([.val n, .val n], ⟨N, left⟩) := fun left => by rw [step_val, if_pos ⟨hs, by omega⟩]; rfl
    refine ⟨_, rfl, ga K "SIGNS", _, rfl, .inr (tupB_ok T.p_SIGNS H), rfl, flat_strs SIGNS_, _, rfl, ite2 (fun _ => ?_) fun c => ?_⟩
    rotate_left
    · have c' : ¬ inV (.str sg) (SIGNS_.map V.str) = true := c
      rw [inV_strs, decide_eq_true hs] at c'
      exact absurd rfl c'
    refine ⟨_, rfl, _, _, rfl, rfl, _, rfl, ite2 (fun _ => ?_) fun c => absurd (decide_eq_true (by omega)) c⟩
    refine ⟨_, rfl, p, _, _, _, _, rfl, hp, T.c_Reader, T.a_Reader_at, rfl, _, _, rfl, rfl, _, _, hp, (by show 5 < 1000; decide), ?_⟩
    have s2 := Stp.put (ms := [p]) (o := .ins (ga K "Reader") dx (putF "at" (.int ((at_ : Int) + 1)) (rdF L.1 L.2 at_ b m))) e hb (.head _)
    have hr2' := hr0.at hx hp
    have en : ((n + 1 : Nat) : Int) - 1 = (n : Int) := by omega
    obtain ⟨dx2, hp2, _⟩ := id hr2'
    refine ⟨_, rfl, p, dx2, _, rfl, hp2, rfl, _, rfl, _, _, rfl, rfl, B, L, p, W, N, at_ + 1, b, m, by show [V.ref p, V.int (((n + 1 : Nat) : Int) - 1)] = _; rw [en], hn1, s2.in_, hb, hr2', hN, fun v3 B3 H3 d3 w3 hd3 ie3 t3 hr3 hv3 => ?_, fun i hi => ?_⟩
    · have s3 := s2.trans t3
      have hb3 := t3.off hb hp2
      obtain ⟨dx3, hp3, _⟩ := id hr3
      have hg3 : ∀ left, Go [.val n] ⟨N, left⟩ w3 ⟨N, left⟩ := fun left => go_expr hN ie3 left
      refine ⟨_, rfl, _, rfl, _, rfl, p, dx3, _, rfl, hp3, rfl, _, rfl, _, _, rfl, rfl, B3, L, p, W, N, at_ + 1 + w3.length, b, m, by show [V.ref p, V.int (((n + 1 : Nat) : Int) - 1)] = _; rw [en], hn1, s3.in_, hb3, hr3, hN, fun v4 B4 H4 d4 w4 hd4 ie4 t4 hr4 hv4 => ?_, fun i hi => ?_⟩
      · have s4 := s3.trans t4
        refine ⟨(by show 3 ≤ sizeLine; decide), fun u nu => ?_⟩
        have t5 := Stp.new (ms := []) (o := .tup [V.str sg, v3, v4]) s4.in_ nu
        have hle : at_ + 1 + w3.length + w4.length = at_ + (sg :: (w3 ++ w4)).length := by rw [List.length_cons, List.length_append]; omega
        rw [hle] at hr4 hd4
        refine k _ _ _ _ (sg :: (w3 ++ w4)) ?_ (.op hs ie3 ie4) (s4.trans t5.nil) (hr4.stp t5) (.tup (SqT.of upd_same) (.cons (.str _) (.cons (dp_mono (t4.base.trans t5.base) hv3) (.cons (dp_mono t5.base hv4) .nil))))
        rw [hd, hd3, hd4]
        simp
      · have := kb (1 + (w3.length + i)) fun left => by
          rw [hd, hd3, Nat.add_comm 1]
          exact step_more (hst left) (go_bad (s := [.val n]) (s2 := [.val n]) (hg3 left) (hi left))
        rw [show at_ + (1 + (w3.length + i)) = at_ + 1 + w3.length + i by omega] at this
        exact this
    · have := kb (i + 1) fun left => by
        rw [hd]
        exact step_more (hst left) (bad_app (s := [.val n]) (s2 := [.val n]) (hi left))
      rw [show at_ + (i + 1) = at_ + 1 + i by omega] at this
      exact this
  · have hst : ∀ x left, W[at_]? = some x → x ∉ N → ¬ IsNum x 0 65535 → step ⟨N, left⟩ x (.val (n + 1)) = none := fun x left hx h1 h2 => by
      rw [step_val, if_neg (fun z => hs ⟨by rw [wat_some hx]; exact z.1, by omega⟩), if_neg (fun z => z.elim h1 h2)]
    dsimp only [gName]
    refine q_when (b := decide (wat W at_ ∈ SIGNS_) && decide (1 ≤ n)) (et_and (et_test fun H1 e1 Q1 q1 => ⟨_, rfl, ga K "SIGNS", _, rfl, .inr (tupB_ok T.p_SIGNS H1), rfl, flat_strs SIGNS_, by show Q1 (V.bl (inV (.str (wat W at_)) (SIGNS_.map V.str))) H1; rw [inV_strs]; exact q1 H1 (Ex.refl _)⟩) fun _ => et_test fun H1 e1 Q1 q1 => ⟨_, rfl, _, _, rfl, rfl, by
      show Q1 (V.bl (decide ((1 : Int) < ((n + 1 : Nat) : Int)))) H1
      rw [show decide ((1 : Int) < ((n + 1 : Nat) : Int)) = decide (1 ≤ n) from decide_eq_decide.mpr (by omega)]
      exact q1 H1 (Ex.refl _)⟩) (fun hc => ?_) fun _ H1 x1 => ?_
    · rw [Bool.and_eq_true, decide_eq_true_eq, decide_eq_true_eq] at hc
      exact absurd hc hs
    have hr1' := hr0.ex x1
    have e1 := e.trans x1
    have hp1 := x1 _ _ hp
    by_cases hx : wat W at_ ∈ N
    · have hx1 := wat_of (W := W) (a := at_) rfl (name_ne (hN _ hx))
      refine ⟨_, rfl, _, rfl, p, _, _, _, _, rfl, hp1, T.c_Reader, T.a_Reader_names, rfl, L.2, _, rfl, .inl (SqL.of (x1 _ _ hn)), rfl, flat_strs N, _, rfl, ite2 (fun _ => ?_) fun c => ?_⟩
      · refine ⟨_, rfl, p, _, _, _, _, rfl, hp1, T.c_Reader, T.a_Reader_at, rfl, _, _, rfl, rfl, _, _, hp1, (by show 5 < 1000; decide), ?_⟩
        have s2 := (Stp.ofEx (ms := [p]) e x1).trans (Stp.put (ms := [p]) (o := .ins (ga K "Reader") dx (putF "at" (.int ((at_ : Int) + 1)) (rdF L.1 L.2 at_ b m))) e1 hb (.head _))
        have hr2' := hr1'.at hx1 hp1
        refine ⟨_, rfl, (by show 2 ≤ sizeLine; decide), fun u nu => ?_⟩
        have t3 := Stp.new (ms := []) (o := .tup [V.str "variable", V.str (wat W at_)]) s2.in_ nu
        exact k _ _ _ _ [wat W at_] (drop_at hx1) (.var hx) (s2.trans t3.nil) (hr2'.stp t3) (.tup (SqT.of upd_same) (.cons (.str _) (.cons (.str _) .nil)))
      · have c' : ¬ inV (.str (wat W at_)) (N.map V.str) = true := c
        rw [inV_strs, decide_eq_true hx] at c'
        exact absurd rfl c'
    · refine ⟨_, rfl, _, rfl, p, _, _, _, _, rfl, hp1, T.c_Reader, T.a_Reader_names, rfl, L.2, _, rfl, .inl (SqL.of (x1 _ _ hn)), rfl, flat_strs N, _, rfl, ite2 (fun c => ?_) fun _ => ?_⟩
      · have c' : inV (.str (wat W at_)) (N.map V.str) = true := c
        rw [inV_strs, decide_eq_false hx] at c'
        exact Bool.noConfusion c'
      refine ⟨_, rfl, p, dx, _, rfl, hp1, rfl, B, L, p, W, N, 0, 65535, at_, b, m, rfl, e1, hb, hr1', fun i H2 hi i0 i1 _ _ s2 hr2' => ?_, fun hno => ?_⟩
      · have s2' := (Stp.ofEx (ms := [p]) e x1).trans s2
        refine ⟨(by show 2 ≤ sizeLine; decide), fun u nu => ?_⟩
        have t3 := Stp.new (ms := []) (o := .tup [V.str "number", V.int i]) s2'.in_ nu
        exact k _ _ _ _ [istr i] (drop_at hi) (.num i0 i1) (s2'.trans t3.nil) (hr2'.stp t3) (.tup (SqT.of upd_same) (.cons (.str _) (.cons (.int _) .nil)))
      · refine kb 0 fun left => bad_head (by trivial) fun x r hxr => ?_
        have hx1 : W[at_]? = some x := by
          have := congrArg List.head? hxr
          rw [List.head?_drop] at this
          exact this
        exact hst x left hx1 (fun z => hx (by rw [wat_some hx1]; exact z)) (hno x hx1)
theorem fn_expr (T : Txt K mg) : ∀ n, Fn P w K mg base (3 + n) (ma K (ga K "Reader") "expression") (spExprG K n)
  | 0 => fun _ _ _ _ _ _ _ _ _ _ _ ⟨_, _, _, _, _, _, _, _, _, h, _⟩ => absurd h (by decide)
  | n + 1 => fn_expr1 T n (fn_expr T n)
theorem fn_Reader_expression (T : Txt K mg) : Fn P w K mg base 9 (ma K (ga K "Reader") "expression") (spExprG K 6) := fn_expr T 6
/-- a draw or a move, behind its word -/
def spBranchG (K : PySem.W.Frag) : Sp := fun vs H Q E => ∃ (B : Hp) (L : Addr × Addr) (p : Addr) (W N : List Str) (wd : Str) (at_ b m : Nat), vs = [.ref p, .str wd] ∧ Ex B H ∧ B p = none ∧ Rw K p L W N at_ b m H ∧ W[at_]? = some wd ∧ (∀ x ∈ N, IsName x) ∧
  (∀ (v : V) (B2 H2 : Hp) (x : Str) (n : Int) (m2 : Nat) (d : PyData), W.drop at_ = [wd, x, istr n] ++ W.drop (at_ + 3) → x ∈ N → 1 ≤ n → n ≤ 8 → Stp [p] B H B2 H2 → Rw K p L W N (at_ + 3) (b + 1) m2 H2 → Dp K B2 v d → v ≠ .non →
    (wd = "draw" ∧ m2 = m ∧ d = .tuple [.str wd, .str x, .int n]) ∨ (wd ≠ "draw" ∧ m2 = m + 1 ∧ d = .tuple [.str wd, .str x, .int n, .int m]) → Q v H2) ∧
  (∀ i, (∀ left, BadAt [.one, .num 1 8] ⟨N, left⟩ (W.drop (at_ + 1)) i) → Bt K E (at_ + 1 + i))
theorem fn_Reader_branching (T : Txt K mg) : Fn P w K mg base 4 (ma K (ga K "Reader") "branching") (spBranchG K) := by
  refine fn_def T.d_Reader_branching sc_Reader_branching (fun _ _ _ _ _ _ us hl => match us, hl with | [_, _], _ => rfl) (fun vs H Q E h => ?_) (fun cdv A outer s H vs Q E hr h => ?_)
  · obtain ⟨B, L, p, W, N, wd, at_, b, m, rfl, _⟩ := h
    rfl
  obtain ⟨B, L, p, W, N, wd, at_, b, m, rfl, e, hb, hr0, hwd, hN, k, kb⟩ := h
  have nd := sc_Reader_branching.nd
  refine ⟨_, pss_cons (ps_fldaug (pv 0) (pe_int) in_add)
      (pss_cons (ps_fldaug (pv 0) (pe_int) in_add)
      (pss_cons (ps_set (i := 2) nd rfl (by first | exact Or.inl rfl | exact Or.inr rfl) (pe_methR (pv 0) T.c_Reader T.t_Reader_take (fn_Reader_take T) (hr.mono (by decide)) pc (pa_cons (pe_fld (pv 0) rfl) pa_nil)))
      (pss_cons (ps_set (i := 3) nd rfl (by first | exact Or.inl rfl | exact Or.inr rfl) (pe_methR (pv 0) T.c_Reader T.t_Reader_take_number (fn_Reader_take_number T) (hr.mono (by decide)) pc (pa_cons (pe_int) (pa_cons (pe_gi T.i_MOST_PARTS) pa_nil))))
      (pss_cons (ps_if (pt_cmpR op_eq (pv 1) (pe_str) (nomark _)) (pss_one (ps_ret (pe_tup (pa_cons (pv 1) (pa_cons (pv 2) (pa_cons (pv 3) pa_nil)))))) (pss_nil))
      (pss_cons (ps_fldaug (pv 0) (pe_int) in_add)
      (pss_one (ps_ret (pe_tup (pa_cons (pv 1) (pa_cons (pv 2) (pa_cons (pv 3) (pa_cons (pe_op op_sub (pe_fld (pv 0) rfl) (pe_int)) pa_nil)))))))))))), ?_⟩
  obtain ⟨dx, hp, hw, hn, ha, hl⟩ := id hr0
  refine ⟨_, rfl, p, _, _, _, _, rfl, hp, T.c_Reader, T.a_Reader_at, rfl, _, _, rfl, rfl, _, _, hp, (by show 5 < 1000; decide), ?_⟩
  have s1 := Stp.put (ms := [p]) (o := .ins (ga K "Reader") dx (putF "at" (.int ((at_ : Int) + 1)) (rdF L.1 L.2 at_ b m))) e hb (.head _)
  have hr1 := hr0.at hwd hp
  obtain ⟨dx1, hp1, _⟩ := id hr1
  refine ⟨_, rfl, p, _, _, _, _, rfl, hp1, T.c_Reader, T.a_Reader_branches, rfl, _, _, rfl, rfl, _, _, hp1, (by show 5 < 1000; decide), ?_⟩
  have s2 := s1.trans (Stp.put (ms := [p]) (o := .ins (ga K "Reader") dx1 (putF "branches" (.int ((b : Int) + 1)) (rdF L.1 L.2 (at_ + 1) b m))) s1.in_ hb (.head _))
  have hr2 := hr1.br hp1
  obtain ⟨dx2, hp2, hw2, hn2, _⟩ := id hr2
  have hne : ("" : Str) ∉ N := fun z => name_ne (hN _ z) rfl
  refine ⟨_, rfl, p, dx2, _, rfl, hp2, rfl, _, rfl, p, _, _, _, _, rfl, hp2, T.c_Reader, T.a_Reader_names, rfl, B, L, p, L.2, W, N, N, at_ + 1, b + 1, m, rfl, s2.in_, hb, hr2, .inl (SqL.of hn2), hne, fun x H3 hx1 hx t3 hr3 => ?_, fun hno => ?_⟩
  rotate_left
  · refine kb 0 fun left => bad_app (s := [.one]) (s2 := [.num 1 8]) (bad_head (by trivial) fun x r hxr => ?_)
    have hx1 : W[at_ + 1]? = some x := by
      have := congrArg List.head? hxr
      rw [List.head?_drop] at this
      exact this
    rw [step_one, if_neg (hno x hx1)]
  have s3 := s2.trans t3
  obtain ⟨dx3, hp3, _⟩ := id hr3
  have hg : ∀ left, Go [.one] ⟨N, left⟩ [x] ⟨N, left⟩ := fun left => go_one (by rw [step_one]; exact if_pos hx)
  refine ⟨_, rfl, p, dx3, _, rfl, hp3, rfl, B, L, p, W, N, 1, 8, at_ + 1 + 1, b + 1, m, rfl, s3.in_, hb, hr3, fun n H4 hn4 n0 n1 n2 n3 t4 hr4 => ?_, fun hno => ?_⟩
  rotate_left
  · have := kb (1 + 0) (fun left => by
      rw [drop_at hx1]
      refine go_bad (s := [.one]) (s2 := [.num 1 8]) (hg left) (bad_head (by trivial) fun y r hxr => ?_)
      have hx2 : W[at_ + 1 + 1]? = some y := by
        have := congrArg List.head? hxr
        rw [List.head?_drop] at this
        exact this
      rw [step_num, if_neg (hno y hx2)])
    exact this
  have s4 := s3.trans t4
  have hd : W.drop at_ = [wd, x, istr n] ++ W.drop (at_ + 3) := by rw [drop_at hwd, drop_at hx1, drop_at hn4]; rfl
  refine ⟨_, rfl, rfl, _, rfl, ite2 (fun c => ?_) fun c => ?_⟩
  · have ew : wd = "draw" := V.str.inj (of_decide_eq_true c)
    refine ⟨_, rfl, _, rfl, _, rfl, (by show 3 ≤ sizeLine; decide), fun u nu => ?_⟩
    have t5 := Stp.new (ms := []) (o := .tup [V.str wd, V.str x, V.int n]) s4.in_ nu
    exact k _ _ _ x n m _ hd hx n2 n3 (s4.trans t5.nil) (hr4.stp t5) (.tup (SqT.of upd_same) (.cons (.str _) (.cons (.str _) (.cons (.int _) .nil)))) nofun (.inl ⟨ew, rfl, rfl⟩)
  · have ew : wd ≠ "draw" := fun z => c (by rw [z]; rfl)
    obtain ⟨dx4, hp4, _⟩ := id hr4
    refine ⟨_, rfl, p, _, _, _, _, rfl, hp4, T.c_Reader, T.a_Reader_moves, rfl, _, _, rfl, rfl, _, _, hp4, (by show 5 < 1000; decide), ?_⟩
    have s5 := s4.trans (Stp.put (ms := [p]) (o := .ins (ga K "Reader") dx4 (putF "moves" (.int ((m : Int) + 1)) (rdF L.1 L.2 (at_ + 1 + 1 + 1) (b + 1) m))) s4.in_ hb (.head _))
    have hr5 := hr4.mv hp4
    refine ⟨_, rfl, _, rfl, _, rfl, _, rfl, p, _, _, _, _, rfl, upd_same, T.c_Reader, T.a_Reader_moves, rfl, _, _, rfl, rfl, (by show 4 ≤ sizeLine; decide), fun u nu => ?_⟩
    have t6 := Stp.new (ms := []) (o := .tup [V.str wd, V.str x, V.int n, V.int ((m : Int) + 1 - 1)]) s5.in_ nu
    have em : (m : Int) + 1 - 1 = (m : Int) := by omega
    have hh : Dp K (upd B u (.tup [V.str wd, V.str x, V.int n, V.int ((m : Int) + 1 - 1)])) (.ref u) (.tuple [.str wd, .str x, .int n, .int ((m : Int) + 1 - 1)]) := .tup (SqT.of upd_same) (.cons (.str _) (.cons (.str _) (.cons (.int _) (.cons (.int _) .nil))))
    refine k _ _ _ x n (m + 1) _ hd hx n2 n3 (s5.trans t6.nil) (hr5.stp t6) hh nofun (.inr ⟨ew, rfl, ?_⟩)
    rw [em]
end
end LL
namespace LL
open PySem PySem.Spec PyProof.Rows L2 He Evl
/-! ### statements, taken -/
section
open Classical
theorem mv_ne : ∀ s ∈ MV_, s ≠ ("set" : Str) ∧ s ≠ "show" ∧ s ≠ "pay" ∧ s ≠ "take" ∧ s ≠ "if" ∧ s ≠ "end" ∧ s ≠ "else" ∧ s ≠ "" := by decide +kernel
theorem kw_ne : ("set" : Str) ∉ MV_ ∧ ("show" : Str) ∉ MV_ ∧ ("pay" : Str) ∉ MV_ ∧ ("take" : Str) ∉ MV_ ∧ ("if" : Str) ∉ MV_ ∧ ("set" : Str) ≠ "show" ∧ ("show" : Str) ≠ "set" ∧ ("pay" : Str) ≠ "set" ∧ ("take" : Str) ≠ "set" ∧ ("pay" : Str) ≠ "show" ∧ ("take" : Str) ≠ "show" ∧ ("if" : Str) ≠ "set" ∧ ("if" : Str) ≠ "show" ∧ ("if" : Str) ≠ "pay" ∧ ("if" : Str) ≠ "take" ∧ ("end" : Str) ∉ MV_ ∧ ("else" : Str) ∉ MV_ := by decide +kernel
theorem kw_ee : ("set" : Str) ≠ "end" ∧ ("set" : Str) ≠ "else" ∧ ("show" : Str) ≠ "end" ∧ ("show" : Str) ≠ "else" ∧ ("pay" : Str) ≠ "end" ∧ ("pay" : Str) ≠ "else" ∧ ("take" : Str) ≠ "end" ∧ ("take" : Str) ≠ "else" ∧ ("if" : Str) ≠ "end" ∧ ("if" : Str) ≠ "else" ∧ ("end" : Str) ≠ "else" := by decide +kernel
theorem kw_nn : ("set" : Str) ≠ "" ∧ ("show" : Str) ≠ "" ∧ ("pay" : Str) ≠ "" ∧ ("take" : Str) ≠ "" ∧ ("if" : Str) ≠ "" ∧ ("end" : Str) ≠ "" ∧ ("else" : Str) ≠ "" ∧ ("chooser" : Str) ≠ "" ∧ ("comer" : Str) ≠ "" ∧ ("var" : Str) ≠ "" := by decide +kernel
variable {sc sc1 : Sc} {w : Str} {r : Nat} {l : List Sy}
theorem beg_set (h : sc.vs ≠ []) : begins sc "set" r = some ([.one, .val 6], sc) := by
  unfold begins; rw [if_pos ⟨rfl, h⟩]
theorem beg_mv (hw : w ∈ MV_) (h : sc.vs ≠ []) (hl : 0 < sc.left) : begins sc w r = some ([.one, .num 1 8], ⟨sc.vs, sc.left - 1⟩) := by
  unfold begins; rw [if_neg (fun z => (mv_ne w hw).1 z.1), if_pos ⟨hw, h, hl⟩]
theorem beg_show : begins sc "show" r = some ([.seat, .val 6], sc) := by
  obtain ⟨a1, a2, a3, a4, a5, a6, a7, a8, _⟩ := kw_ne
  unfold begins; rw [if_neg (fun z => a7 z.1), if_neg (fun z => a2 z.1), if_pos rfl]
theorem beg_pay (hw : w = "pay" ∨ w = "take") : begins sc w r = some ([.val 6], sc) := by
  obtain ⟨a1, a2, a3, a4, a5, a6, a7, a8, a9, a10, a11, _⟩ := kw_ne
  unfold begins
  rcases hw with rfl | rfl
  · rw [if_neg (fun z => a8 z.1), if_neg (fun z => a3 z.1), if_neg a10, if_pos (.inl rfl)]
  · rw [if_neg (fun z => a9 z.1), if_neg (fun z => a4 z.1), if_neg a11, if_pos (.inr rfl)]
theorem beg_if (hr : 0 < r) : begins sc "if" r = some ([.val 6, .blk (r - 1) .thn], sc) := by
  obtain ⟨a1, a2, a3, a4, a5, a6, a7, a8, a9, a10, a11, a12, a13, a14, a15, _⟩ := kw_ne
  unfold begins
  rw [if_neg (fun z => a12 z.1), if_neg (fun z => a5 z.1), if_neg a13, if_neg (fun z => z.elim a14 a15), if_pos ⟨rfl, hr⟩]
theorem beg_none (h1 : ¬ (w = "set" ∧ sc.vs ≠ [])) (h2 : ¬ (w ∈ MV_ ∧ sc.vs ≠ [] ∧ 0 < sc.left)) (h3 : w ≠ "show") (h4 : ¬ (w = "pay" ∨ w = "take")) (h5 : ¬ (w = "if" ∧ 0 < r)) : begins sc w r = none := by
  unfold begins; rw [if_neg h1, if_neg h2, if_neg h3, if_neg h4, if_neg h5]
theorem beg_word (h : begins sc w r = some (l, sc1)) : w ≠ "end" ∧ w ≠ "else" ∧ w ≠ "" := by
  obtain ⟨b1, b2, b3, b4, b5, b6, b7, b8, b9, b10, b11⟩ := kw_ee
  obtain ⟨c1, c2, c3, c4, c5, _⟩ := kw_nn
  unfold begins at h
  by_cases h1 : w = "set" ∧ sc.vs ≠ []
  · rw [h1.1]; exact ⟨b1, b2, c1⟩
  · rw [if_neg h1] at h
    by_cases h2 : w ∈ MV_ ∧ sc.vs ≠ [] ∧ 0 < sc.left
    · exact (mv_ne w h2.1).2.2.2.2.2
    · rw [if_neg h2] at h
      by_cases h3 : w = "show"
      · rw [h3]; exact ⟨b3, b4, c2⟩
      · rw [if_neg h3] at h
        by_cases h4 : w = "pay" ∨ w = "take"
        · rcases h4 with rfl | rfl
          · exact ⟨b5, b6, c3⟩
          · exact ⟨b7, b8, c4⟩
        · rw [if_neg h4] at h
          by_cases h5 : w = "if" ∧ 0 < r
          · rw [h5.1]; exact ⟨b9, b10, c5⟩
          · rw [if_neg h5] at h; cases h
theorem blk_beg (h : begins sc w r = some (l, sc1)) (k : Kd) : step sc w (.blk r k) = some (l ++ [.blk r (nextK k)], sc1) := by
  obtain ⟨h1, h2, _⟩ := beg_word h
  rw [step_blk]
  unfold stepB
  rw [if_neg (fun z => h1 z.1), if_neg (fun z => h2 z.1), h]
  rfl
theorem blk_none (h : begins sc w r = none) (k : Kd) (h1 : ¬ (w = "end" ∧ (k = .thn ∨ k = .els))) (h2 : ¬ (w = "else" ∧ k = .thn)) : step sc w (.blk r k) = none := by
  rw [step_blk]
  unfold stepB
  rw [if_neg h1, if_neg h2, h]
  rfl
theorem blk_end {k : Kd} (hk : k = .thn ∨ k = .els) : step sc "end" (.blk r k) = some ([], sc) := by
  rw [step_blk]
  unfold stepB
  rw [if_pos ⟨rfl, hk⟩]
theorem blk_else : step sc "else" (.blk r .thn) = some ([.blk r .emp], sc) := by
  rw [step_blk]
  unfold stepB
  rw [if_neg (fun z => kw_ee.2.2.2.2.2.2.2.2.2.2 z.1.symm), if_pos ⟨rfl, rfl⟩]
theorem beg_end : begins sc "end" r = none := by
  cases h : begins sc "end" r with
  | none => rfl
  | some x => exact absurd rfl (beg_word (l := x.1) (sc1 := x.2) h).1
theorem beg_else : begins sc "else" r = none := by
  cases h : begins sc "else" r with
  | none => rfl
  | some x => exact absurd rfl (beg_word (l := x.1) (sc1 := x.2) h).2.1
theorem beg_empty : begins sc "" r = none := by
  cases h : begins sc "" r with
  | none => rfl
  | some x => exact absurd rfl (beg_word (l := x.1) (sc1 := x.2) h).2.2
end
/-- whole statements are taken, the block stays open -/
def GoB (r : Nat) (k : Kd) (sc : Sc) (ws : List Str) (k2 : Kd) (sc2 : Sc) : Prop := ∀ t R, eat (.blk r k :: t) sc (ws ++ R) = Out.by ws.length (eat (.blk r k2 :: t) sc2 R)
theorem gob_nil {r : Nat} {k : Kd} {sc : Sc} : GoB r k sc [] k sc := fun _ _ => rfl
theorem gob_app {r : Nat} {k k1 k2 : Kd} {sc sc1 sc2 : Sc} {w1 w2 : List Str} (h1 : GoB r k sc w1 k1 sc1) (h2 : GoB r k1 sc1 w2 k2 sc2) : GoB r k sc (w1 ++ w2) k2 sc2 := fun t R => by
  rw [List.append_assoc, h1, h2, by_by, List.length_append]
/-- one statement -/
theorem gob_one {r : Nat} {sc sc1 sc2 : Sc} {w : Str} {l : List Sy} {ws : List Str} (h : begins sc w r = some (l, sc1)) (hg : Go l sc1 ws sc2) (k : Kd) : GoB r k sc (w :: ws) (nextK k) sc2 := fun t R => by
  show eat (.blk r k :: t) sc (w :: (ws ++ R)) = _
  rw [eat_cons (blk_beg h k)]
  show (eat ((l ++ [.blk r (nextK k)]) ++ t) sc1 (ws ++ R)).more = _
  rw [List.append_assoc, hg]
  rfl
theorem nextK_two (k : Kd) : nextK (nextK k) = nextK k := by cases k <;> rfl
theorem blk_close {r : Nat} {k : Kd} {sc : Sc} (hk : k = .thn ∨ k = .els) : Go [.blk r k] sc [("end" : Str)] sc := go_one (blk_end hk)
theorem go_blk {r : Nat} {k k2 : Kd} {sc sc2 : Sc} {ws : List Str} (h : GoB r k sc ws k2 sc2) (hk : k2 = .thn ∨ k2 = .els) : Go [.blk r k] sc (ws ++ [("end" : Str)]) sc2 := fun t R => by
  have h1 := h t ([("end" : Str)] ++ R)
  show eat (.blk r k :: t) sc _ = _
  rw [List.append_assoc, h1]
  have h2 := blk_close (r := r) (sc := sc2) hk t R
  show Out.by ws.length (eat ([.blk r k2] ++ t) sc2 ([("end" : Str)] ++ R)) = _
  rw [h2, by_by, List.length_append]
theorem nextK_ok {k : Kd} (h : k ≠ .game) : nextK k = .thn ∨ nextK k = .els := by
  cases k with
  | thn => exact .inl rfl
  | els => exact .inr rfl
  | emp => exact .inr rfl
  | game => exact absurd rfl h
open Classical in
theorem PaB.go {ns : List Str} (hN : ∀ x ∈ ns, IsName x) {r b m b2 m2 : Nat} {ds : List PyData} {ws : List Str} (h : PaB ns r b m b2 m2 ds ws) : ∀ k, GoB r k (scOf ns b) ws (if ds = [] then k else nextK k) (scOf ns b2) := by
  have hE : ∀ {d : PyData} {we : List Str} (b : Nat), IsE ns 6 d we → Go [.val 6] (scOf ns b) we (scOf ns b) := fun b he => go_expr hN he _
  have fin : ∀ {r : Nat} {k : Kd} {ds : List PyData} {sc sc1 sc2 : Sc} {w1 w2 : List Str}, GoB r k sc w1 (nextK k) sc1 → (∀ k, GoB r k sc1 w2 (if ds = [] then k else nextK k) sc2) → GoB r k sc (w1 ++ w2) (nextK k) sc2 := fun {r k ds sc sc1 sc2 w1 w2} h1 h2 => by
    have h3 := gob_app h1 (h2 (nextK k))
    by_cases c : ds = []
    · rw [if_pos c] at h3; exact h3
    · rw [if_neg c, nextK_two] at h3; exact h3
  induction h with
  | nil => intro k; exact gob_nil
  | @pay r b m b2 m2 s e we ds ws hs he h ih =>
    intro k
    rw [if_neg (List.cons_ne_nil _ _)]
    have h1 := gob_one (r := r) (beg_pay (sc := scOf ns b) (by simpa using hs)) (hE b he) k
    exact fin h1 ih
  | @show_ r b m b2 m2 s e we ds ws hs he h ih =>
    intro k
    rw [if_neg (List.cons_ne_nil _ _)]
    have hg : Go [.seat, .val 6] (scOf ns b) (s :: we) (scOf ns b) := go_app (s := [.seat]) (s2 := [.val 6]) (ws := [s]) (go_one (by
      rw [step_seat, if_pos]
      simpa using hs)) (hE b he)
    exact fin (gob_one (r := r) (beg_show (sc := scOf ns b)) hg k) ih
  | @set_ r b m b2 m2 s e we ds ws hs he h ih =>
    intro k
    rw [if_neg (List.cons_ne_nil _ _)]
    have hg : Go [.one, .val 6] (scOf ns b) (s :: we) (scOf ns b) := go_app (s := [.one]) (s2 := [.val 6]) (ws := [s]) (go_one (by
      rw [step_one]
      exact if_pos hs)) (hE b he)
    exact fin (gob_one (r := r) (beg_set (sc := scOf ns b) (List.ne_nil_of_mem hs)) hg k) ih
  | @draw r b m b2 m2 s n ds ws hs h0 h1 hb h ih =>
    intro k
    rw [if_neg (List.cons_ne_nil _ _)]
    have hg : Go [.one, .num 1 8] (scOf ns (b + 1)) [s, istr n] (scOf ns (b + 1)) := go_app (s := [.one]) (s2 := [.num 1 8]) (ws := [s]) (ws2 := [istr n]) (go_one (by
      rw [step_one]
      exact if_pos hs)) (go_one (by rw [step_num, if_pos (isnum_of (by omega) (by omega) h0 h1)]))
    have hbg := beg_mv (r := r) (sc := scOf ns b) (w := "draw") (by decide +kernel) (List.ne_nil_of_mem hs) (by show 0 < 10 - b; omega)
    rw [show (⟨(scOf ns b).vs, (scOf ns b).left - 1⟩ : Sc) = scOf ns (b + 1) by unfold scOf; congr 1] at hbg
    exact fin (gob_one hbg hg k) ih
  | @move r b m b2 m2 c s n ds ws hc hs h0 h1 hb h ih =>
    intro k
    rw [if_neg (List.cons_ne_nil _ _)]
    have hg : Go [.one, .num 1 8] (scOf ns (b + 1)) [s, istr n] (scOf ns (b + 1)) := go_app (s := [.one]) (s2 := [.num 1 8]) (ws := [s]) (ws2 := [istr n]) (go_one (by
      rw [step_one]
      exact if_pos hs)) (go_one (by rw [step_num, if_pos (isnum_of (by omega) (by omega) h0 h1)]))
    have hbg := beg_mv (r := r) (sc := scOf ns b) (w := c) (by
      simp only [List.mem_cons, List.not_mem_nil, or_false] at hc
      rcases hc with rfl | rfl <;> decide +kernel) (List.ne_nil_of_mem hs) (by show 0 < 10 - b; omega)
    rw [show (⟨(scOf ns b).vs, (scOf ns b).left - 1⟩ : Sc) = scOf ns (b + 1) by unfold scOf; congr 1] at hbg
    exact fin (gob_one hbg hg k) ih
  | @ite r b m b1 m1 b2 m2 b3 m3 e we wt wo ws ts os ds he ht ho h iht iho ih =>
    intro k
    rw [if_neg (List.cons_ne_nil _ _)]
    have hg : Go [.val 6, .blk r .thn] (scOf ns b) (we ++ (wt ++ elseW os wo ++ [("end" : Str)])) (scOf ns b2) := by
      refine go_app (s := [.val 6]) (s2 := [.blk r .thn]) (hE b he) ?_
      have h1 := iht .thn
      have hk : (if ts = [] then Kd.thn else nextK .thn) = .thn := by split <;> rfl
      rw [hk] at h1
      by_cases c : os = []
      · subst c
        have hb : wo = [] ∧ b2 = b1 := by cases ho; exact ⟨rfl, rfl⟩
        rw [hb.2]
        show Go _ _ (wt ++ [] ++ [("end" : Str)]) _
        rw [List.append_nil]
        exact go_blk h1 (.inl rfl)
      · have h2 := iho .emp
        rw [if_neg c] at h2
        have h3 : GoB r .thn (scOf ns b1) (("else" : Str) :: wo) .els (scOf ns b2) := fun t R => by
          show eat (.blk r .thn :: t) _ (("else" : Str) :: (wo ++ R)) = _
          rw [eat_cons blk_else]
          show (eat (.blk r .emp :: t) _ (wo ++ R)).more = _
          rw [h2]
          rfl
        have h4 : elseW os wo = ("else" : Str) :: wo := if_neg c
        rw [h4]
        exact go_blk (gob_app h1 h3) (.inr rfl)
    have h1 := gob_one (r := r + 1) (beg_if (sc := scOf ns b) (r := r + 1) (by omega)) hg k
    have h5 := fin h1 ih
    have e1 : ("if" : Str) :: we ++ wt ++ elseW os wo ++ [("end" : Str)] ++ ws = (("if" : Str) :: (we ++ (wt ++ elseW os wo ++ [("end" : Str)]))) ++ ws := by simp
    rw [e1]
    exact h5
theorem paB_kind {ds : List PyData} {k : Kd} : True := trivial
end LL
namespace LL
open PySem PySem.Spec PyProof.Rows L2 He Evl
/-- a word of a game's text -/
def WOk (x : Str) : Prop := 1 ≤ x.length ∧ x.length ≤ 8 ∧ 32 ∉ x.cps.toList ∧ ∀ c ∈ x.cps.toList, c < 1114112
theorem wok_name {x : Str} (h : IsName x) : WOk x := ⟨h.l1, h.l8, fun z => by have := h.lo _ z; omega, fun c z => by have := h.lo _ z; omega⟩
theorem wok_num {i : Int} (h0 : 0 ≤ i) (h1 : i ≤ 65535) : WOk (istr i) := ⟨(istr_len h0 h1).1, by have := (istr_len h0 h1).2; omega, fun z => by have := istr_dig h0 _ z; omega, fun c z => by have := istr_dig h0 _ z; omega⟩
theorem wok_c : ∀ x ∈ (["var", "set", "draw", "choose", "come", "show", "chooser", "comer", "pay", "take", "if", "else", "end", "+", "-", "*", "/", "mod", "<", "="] : List Str), 1 ≤ x.length ∧ x.length ≤ 8 ∧ 32 ∉ x.cps.toList ∧ ∀ c ∈ x.cps.toList, c < 1114112 := by decide +kernel
theorem IsE.wok {ns : List Str} (hN : ∀ x ∈ ns, IsName x) {n : Nat} {d : PyData} {ws : List Str} (h : IsE ns n d ws) : ∀ x ∈ ws, WOk x := by
  induction h with
  | num h0 h1 =>
    intro x hx
    rw [List.mem_singleton.mp hx]
    exact wok_num h0 h1
  | var h =>
    intro x hx
    rw [List.mem_singleton.mp hx]
    exact wok_name (hN _ h)
  | @op n s a b wa wb hs _ _ iha ihb =>
    intro x hx
    rcases List.mem_cons.mp hx with rfl | hx
    · refine wok_c _ ?_
      exact List.mem_append_right (["var", "set", "draw", "choose", "come", "show", "chooser", "comer", "pay", "take", "if", "else", "end"] : List Str) (show x ∈ (["+", "-", "*", "/", "mod", "<", "="] : List Str) from hs)
    · rcases List.mem_append.mp hx with hx | hx
      · exact iha x hx
      · exact ihb x hx
theorem IsB.wok {ns : List Str} (hN : ∀ x ∈ ns, IsName x) {r b m b1 m1 : Nat} {ds : List PyData} {ws : List Str} (h : IsB ns r b m b1 m1 ds ws) : ∀ x ∈ ws, WOk x := by
  induction h with
  | nil => exact fun _ h => nomatch h
  | pay hs he h ih =>
    intro x hx
    simp only [List.mem_append, List.mem_cons, List.not_mem_nil, or_false] at hx hs
    rcases hx with (rfl | hx) | hx
    · exact wok_c _ (by rcases hs with rfl | rfl <;> simp)
    · exact he.wok hN x hx
    · exact ih x hx
  | show_ hs he h ih =>
    intro x hx
    simp only [List.mem_append, List.mem_cons, List.not_mem_nil, or_false] at hx hs
    rcases hx with (rfl | rfl | hx) | hx
    · exact wok_c _ (by simp)
    · exact wok_c _ (by rcases hs with rfl | rfl <;> simp)
    · exact he.wok hN x hx
    · exact ih x hx
  | set_ hs he h ih =>
    intro x hx
    simp only [List.mem_append, List.mem_cons] at hx
    rcases hx with (rfl | rfl | hx) | hx
    · exact wok_c _ (by simp)
    · exact wok_name (hN _ hs)
    · exact he.wok hN x hx
    · exact ih x hx
  | draw hs h0 h1 hb h ih =>
    intro x hx
    simp only [List.mem_cons] at hx
    rcases hx with rfl | rfl | rfl | hx
    · exact wok_c _ (by simp)
    · exact wok_name (hN _ hs)
    · exact wok_num (by omega) (by omega)
    · exact ih x hx
  | move hc hs h0 h1 hb h ih =>
    intro x hx
    simp only [List.mem_cons, List.not_mem_nil, or_false] at hx hc
    rcases hx with rfl | rfl | rfl | hx
    · exact wok_c _ (by rcases hc with rfl | rfl <;> simp)
    · exact wok_name (hN _ hs)
    · exact wok_num (by omega) (by omega)
    · exact ih x hx
  | @ite _ _ _ _ _ _ _ _ _ _ we wt wo ws ts os ds he ht ho lt lo h iht iho ih =>
    intro x hx
    simp only [List.mem_append, List.mem_cons, List.not_mem_nil, or_false] at hx
    rcases hx with ((((rfl | hx) | hx) | hx) | rfl) | hx
    · exact wok_c _ (by simp)
    · exact he.wok hN x hx
    · exact iht x hx
    · unfold elseW at hx
      split at hx
      · exact absurd hx (by simp)
      · rcases List.mem_cons.mp hx with rfl | hx
        · exact wok_c _ (by simp)
        · exact iho x hx
    · exact wok_c _ (by simp)
    · exact ih x hx
/-- a game's words -/
def gW (xs : List (Str × Int)) (ws : List Str) : List Str := (xs.flatMap fun x => [("var" : Str), x.1, istr x.2]) ++ ws
theorem gW_cons {x : Str × Int} {xs : List (Str × Int)} {ws : List Str} : gW (x :: xs) ws = ("var" : Str) :: x.1 :: istr x.2 :: gW xs ws := rfl
theorem gW_len (xs : List (Str × Int)) (ws : List Str) : (gW xs ws).length = 3 * xs.length + ws.length := by
  induction xs with
  | nil => simp [gW]
  | cons x xs ih => rw [gW_cons, List.length_cons, List.length_cons, List.length_cons, List.length_cons, ih]; omega
theorem IsG.names {xs : List (Str × Int)} {ds : List PyData} {ws : List Str} (h : IsG xs ds ws) : ∀ x ∈ xs.map Prod.fst, IsName x := by
  intro x hx
  obtain ⟨y, hy, rfl⟩ := List.mem_map.mp hx
  exact (h.ok y hy).1
theorem IsG.wok {xs : List (Str × Int)} {ds : List PyData} {ws : List Str} (h : IsG xs ds ws) : ∀ x ∈ gW xs ws, WOk x := by
  obtain ⟨b, m, ib⟩ := h.rows
  intro x hx
  rcases List.mem_append.mp hx with hx | hx
  · obtain ⟨y, hy, hx⟩ := List.mem_flatMap.mp hx
    obtain ⟨h1, h2, h3⟩ := h.ok y hy
    simp only [List.mem_cons, List.not_mem_nil, or_false] at hx
    rcases hx with rfl | rfl | rfl
    · exact wok_c _ (by simp)
    · exact wok_name h1
    · exact wok_num (by omega) h3
  · exact ib.wok h.names x hx
theorem IsG.len {xs : List (Str × Int)} {ds : List PyData} {ws : List Str} (h : IsG xs ds ws) : (gW xs ws).length ≤ 458304 := by
  obtain ⟨b, m, ib⟩ := h.rows
  have h1 := ib.big (by omega) h.l9
  have h2 := h.l5
  rw [gW_len]
  omega
/-- the text of words -/
def txt (W : List Str) : Str := Txt.join " " W
theorem map_S (W : List Str) : (W.map fun x => x.cps.toList).map SX.S = W := by
  rw [List.map_map]
  conv => rhs; rw [← List.map_id W]
  exact List.map_congr_left fun x _ => SX.S_tl x
theorem txt_S (W : List Str) : txt W = SX.S (TL.joinL [32] (W.map fun x => x.cps.toList)) := by
  have h := SX.join_S [32] (W.map fun x => x.cps.toList)
  rw [map_S] at h
  exact h
theorem txt_split {W : List Str} (hne : W ≠ []) (h : ∀ x ∈ W, WOk x) : Txt.split (txt W) " " = W := by
  have e : (" " : Str) = SX.S [32] := rfl
  rw [txt_S, e, SX.split_S (by decide) (by decide), SX.spl_join (by simpa using hne) ?_, map_S]
  intro p hp
  obtain ⟨x, hx, rfl⟩ := List.mem_map.mp hp
  exact (h x hx).2.2.1
theorem joinL_len : ∀ (W : List (List Nat)) (k : Nat), (∀ x ∈ W, x.length ≤ k) → (TL.joinL [32] W).length ≤ W.length * (k + 1)
  | [], _, _ => Nat.zero_le _
  | [p], k, h => by
    have := h p (.head _)
    show p.length ≤ 1 * (k + 1)
    omega
  | p :: q :: r, k, h => by
    have h1 := h p (.head _)
    have h2 := joinL_len (q :: r) k fun x hx => h x (.tail _ hx)
    show (p ++ ([32] ++ TL.joinL [32] (q :: r))).length ≤ _
    rw [List.length_append, List.length_append, List.length_cons (a := p), Nat.add_mul]
    simp only [List.length_cons, List.length_nil] at h2 ⊢
    omega
theorem joinL_pos : ∀ (W : List (List Nat)), W ≠ [] → (∀ x ∈ W, 1 ≤ x.length) → 1 ≤ (TL.joinL [32] W).length
  | [], h, _ => absurd rfl h
  | [p], _, h => h p (.head _)
  | p :: q :: r, _, h => by
    have h1 := h p (.head _)
    show 1 ≤ (p ++ ([32] ++ TL.joinL [32] (q :: r))).length
    rw [List.length_append]
    omega
theorem len_S (x : Str) : x.cps.toList.length = x.length := by rw [Array.length_toList]; rfl
theorem txt_len {W : List Str} (h : ∀ x ∈ W, WOk x) (hl : W.length ≤ 458304) : (txt W).length ≤ 5000000 := by
  rw [txt_S, SX.S_len]
  refine Nat.le_trans (joinL_len _ 8 ?_) (by rw [List.length_map]; omega)
  intro p hp
  obtain ⟨x, hx, rfl⟩ := List.mem_map.mp hp
  rw [len_S]
  exact (h x hx).2.1
theorem txt_pos {W : List Str} (hne : W ≠ []) (h : ∀ x ∈ W, WOk x) : txt W ≠ "" := by
  intro z
  have h1 : (txt W).length = 0 := by rw [z]; rfl
  rw [txt_S, SX.S_len] at h1
  have h2 := joinL_pos (W.map fun x => x.cps.toList) (by simpa using hne) (by
    intro p hp
    obtain ⟨x, hx, rfl⟩ := List.mem_map.mp hp
    rw [len_S]
    exact (h x hx).1)
  omega
theorem joinL_lo : ∀ (W : List (List Nat)), (∀ x ∈ W, ∀ c ∈ x, c < 1114112) → ∀ c ∈ TL.joinL [32] W, c < 1114112
  | [], _, _, h => nomatch h
  | [p], h, c, hc => h p (.head _) c hc
  | p :: q :: r, h, c, hc => by
    have hc : c ∈ p ++ ([32] ++ TL.joinL [32] (q :: r)) := hc
    rcases List.mem_append.mp hc with hc | hc
    · exact h p (.head _) c hc
    rcases List.mem_append.mp hc with hc | hc
    · rw [List.mem_singleton.mp hc]; decide
    · exact joinL_lo (q :: r) (fun x hx => h x (.tail _ hx)) c hc
theorem S_lo {L : List Nat} (h : ∀ c ∈ L, c < 1114112) : (PyData.str (SX.S L)).canLay0 = true := by
  show (SX.S L).cps.all (· < 0x110000) = true
  rw [← Array.all_toList, List.all_eq_true]
  intro c hc
  exact decide_eq_true (h c (by simpa [SX.S] using hc))
theorem txt_lo {W : List Str} (h : ∀ x ∈ W, WOk x) : (PyData.str (txt W)).canLay0 = true := by
  rw [txt_S]
  refine S_lo (joinL_lo _ ?_)
  intro p hp
  obtain ⟨x, hx, rfl⟩ := List.mem_map.mp hp
  exact (h x hx).2.2.2
theorem txt_nil : txt [] = "" := by decide +kernel
end LL
namespace LL
open PySem PySem.Spec PyProof.Rows L2 He Evl
/-! ### a game, taken -/
structure PaG (xs : List (Str × Int)) (ds : List PyData) (ws : List Str) : Prop where
  l5 : xs.length ≤ 5
  ok : ∀ x ∈ xs, IsName x.1 ∧ 1 ≤ x.2 ∧ x.2 ≤ 65535
  nd : (xs.map Prod.fst).Nodup
  rows : ∃ b m, PaB (xs.map Prod.fst) 4 0 0 b m ds ws
theorem PaG.names {xs : List (Str × Int)} {ds : List PyData} {ws : List Str} (h : PaG xs ds ws) : ∀ x ∈ xs.map Prod.fst, IsName x := by
  intro x hx
  obtain ⟨y, hy, rfl⟩ := List.mem_map.mp hx
  exact (h.ok y hy).1
section
open Classical
/-- variables are taken -/
def GoH (sc : Sc) (ws : List Str) (sc2 : Sc) : Prop := ∀ t R, eat (.head :: t) sc (ws ++ R) = Out.by ws.length (eat (.head :: t) sc2 R)
theorem goh_nil {sc : Sc} : GoH sc [] sc := fun _ _ => rfl
theorem goh_app {sc sc1 sc2 : Sc} {w1 w2 : List Str} (h1 : GoH sc w1 sc1) (h2 : GoH sc1 w2 sc2) : GoH sc (w1 ++ w2) sc2 := fun t R => by
  rw [List.append_assoc, h1, h2, by_by, List.length_append]
theorem step_var {sc : Sc} (h : sc.vs.length < 5) : step sc "var" .head = some ([.new, .num 1 65535, .head], sc) := by
  rw [step_head, if_pos ⟨rfl, h⟩]
theorem goh_one {sc : Sc} {x : Str} {n : Int} (h : sc.vs.length < 5) (hx : x ∉ sc.vs) (hn : IsName x) (h1 : 1 ≤ n) (h2 : n ≤ 65535) : GoH sc [("var" : Str), x, istr n] ⟨sc.vs ++ [x], sc.left⟩ := fun t R => by
  have e1 : step sc x .new = some ([], ⟨sc.vs ++ [x], sc.left⟩) := by rw [step_new, if_pos ⟨hx, hn⟩]
  have e2 : step ⟨sc.vs ++ [x], sc.left⟩ (istr n) (.num 1 65535) = some ([], ⟨sc.vs ++ [x], sc.left⟩) := by rw [step_num, if_pos (isnum_of (by omega) h2 h1 h2)]
  show eat (.head :: t) sc (("var" : Str) :: x :: istr n :: R) = _
  rw [eat_cons (step_var h)]
  show (eat (.new :: .num 1 65535 :: .head :: t) sc (x :: istr n :: R)).more = _
  rw [eat_cons e1]
  show (eat (.num 1 65535 :: .head :: t) _ (istr n :: R)).more.more = _
  rw [eat_cons e2]
  rfl
theorem goh_bad {sc sc2 : Sc} {ws R : List Str} {i : Nat} (h : GoH sc ws sc2) (h2 : BadAt [.head] sc2 R i) : BadAt [.head] sc (ws ++ R) (ws.length + i) := fun t => by
  show eat (.head :: t) sc _ = _ ∨ (_ ∧ ∃ x st, eat (.head :: t) sc _ = _ ∧ _)
  rw [h]
  rcases h2 t with h2 | ⟨h2, x, st, h3, h4⟩
  · have h2 : eat (.head :: t) sc2 R = .stop i := h2
    rw [h2, by_stop]
    exact .inl (by rw [Nat.add_comm])
  · have h3 : eat (.head :: t) sc2 R = .out (x :: st) := h3
    rw [h3, by_out]
    exact .inr ⟨by rw [List.length_append, h2], x, st, rfl, h4⟩
theorem head_blk {sc : Sc} {w : Str} {R : List Str} {t : List Sy} (h : ¬ (w = "var" ∧ sc.vs.length < 5)) : eat (.head :: t) sc (w :: R) = eat (.blk 4 .game :: t) sc (w :: R) := by
  have e : step sc w .head = step sc w (.blk 4 .game) := by rw [step_head, if_neg h, step_blk]
  rw [eat, eat, e]
theorem head_bad {sc : Sc} {R : List Str} {i : Nat} (h : ∀ w r, R = w :: r → ¬ (w = "var" ∧ sc.vs.length < 5)) (hb : BadAt [.blk 4 .game] sc R i) : BadAt [.head] sc R i := by
  cases R with
  | nil =>
    exfalso
    rcases hb [] with h | ⟨_, x, st, h, h2⟩
    · cases h
    · cases h; exact h2
  | cons w r =>
    intro t
    have := hb t
    show eat (.head :: t) sc _ = _ ∨ (_ ∧ ∃ x st, eat (.head :: t) sc _ = _ ∧ _)
    rw [head_blk (h w r rfl)]
    exact this
/-- the words of the variables -/
def varW (xs : List (Str × Int)) : List Str := xs.flatMap fun x => [("var" : Str), x.1, istr x.2]
theorem varW_app (xs ys : List (Str × Int)) : varW (xs ++ ys) = varW xs ++ varW ys := List.flatMap_append
theorem gW_eq (xs : List (Str × Int)) (ws : List Str) : gW xs ws = varW xs ++ ws := rfl
theorem vars_go : ∀ (xs : List (Str × Int)) (N : List Str) (left : Nat), N.length + xs.length ≤ 5 → (∀ x ∈ xs, IsName x.1 ∧ 1 ≤ x.2 ∧ x.2 ≤ 65535) → (N ++ xs.map Prod.fst).Nodup → GoH ⟨N, left⟩ (varW xs) ⟨N ++ xs.map Prod.fst, left⟩
  | [], N, left, _, _, _ => by
    rw [List.map_nil, List.append_nil]
    exact goh_nil
  | x :: xs, N, left, h5, hok, hnd => by
    rw [List.length_cons] at h5
    obtain ⟨h1, h2, h3⟩ := hok x (.head _)
    rw [List.map_cons] at hnd ⊢
    have hx : x.1 ∉ N := fun z => by
      rw [List.nodup_append] at hnd
      exact hnd.2.2 _ z _ (.head _) rfl
    have e : N ++ x.1 :: xs.map Prod.fst = (N ++ [x.1]) ++ xs.map Prod.fst := by simp
    rw [e] at hnd ⊢
    have r := vars_go xs (N ++ [x.1]) left (by rw [List.length_append, List.length_singleton]; omega) (fun y hy => hok y (.tail _ hy)) hnd
    have o : GoH ⟨N, left⟩ [("var" : Str), x.1, istr x.2] ⟨N ++ [x.1], left⟩ := goh_one (sc := ⟨N, left⟩) (by show N.length < 5; omega) hx h1 h2 h3
    exact goh_app o r
theorem beg_var {sc : Sc} {r : Nat} : begins sc "var" r = none := by
  have h : ("var" : Str) ≠ "set" ∧ ("var" : Str) ∉ MV_ ∧ ("var" : Str) ≠ "show" ∧ ("var" : Str) ≠ "pay" ∧ ("var" : Str) ≠ "take" ∧ ("var" : Str) ≠ "if" := by decide +kernel
  exact beg_none (fun z => h.1 z.1) (fun z => h.2.1 z.1) h.2.2.1 (fun z => z.elim h.2.2.2.1 h.2.2.2.2.1) fun z => h.2.2.2.2.2 z.1
theorem blk_var {sc : Sc} {r : Nat} {k : Kd} : step sc "var" (.blk r k) = none := by
  have h : ("var" : Str) ≠ "end" ∧ ("var" : Str) ≠ "else" := by decide +kernel
  exact blk_none beg_var k (fun z => h.1 z.1) fun z => h.2 z.1
/-- a game's words are a game -/
theorem PaG.eat {xs : List (Str × Int)} {ds : List PyData} {ws : List Str} (h : PaG xs ds ws) : eat [.head] ⟨[], 10⟩ (gW xs ws) = .out [.head] ∨ eat [.head] ⟨[], 10⟩ (gW xs ws) = .out [.blk 4 .game] := by
  obtain ⟨b, m, ip⟩ := h.rows
  have hv := vars_go xs [] 10 (by have := h.l5; simpa using this) h.ok (by rw [List.nil_append]; exact h.nd)
  rw [List.nil_append] at hv
  rw [gW_eq, hv [] ws]
  cases ws with
  | nil => exact .inl (by show Out.by _ (.out [.head]) = _; rw [by_out])
  | cons w r =>
    have hg := ip.go h.names .game [] []
    rw [List.append_nil] at hg
    have hk : (if ds = [] then Kd.game else nextK .game) = .game := by split <;> rfl
    rw [hk] at hg
    have hsc : scOf (xs.map Prod.fst) 0 = ⟨xs.map Prod.fst, 10⟩ := rfl
    rw [hsc] at hg
    have he : LL.eat [.blk 4 .game] (scOf (xs.map Prod.fst) b) [] = .out [.blk 4 .game] := rfl
    rw [he, by_out] at hg
    have hw : w ≠ "var" := fun z => by
      rw [z, eat_bad blk_var] at hg
      cases hg
    rw [head_blk (fun z => hw z.1), hg, by_out]
    exact .inr rfl
end
end LL
namespace LL
open PySem PySem.Spec PyProof.Rows L2 He Evl
def PT_ : List Str := ["pay", "take"]
def CC_ : List Str := ["chooser", "comer"]
theorem cc_mem {x : Str} : x ∈ CC_ ↔ x = "chooser" ∨ x = "comer" := by unfold CC_; simp
theorem pt_mem {x : Str} : x ∈ PT_ ↔ x = "pay" ∨ x = "take" := by unfold PT_; simp
theorem stm_bad {sc sc1 : Sc} {w : Str} {r i : Nat} {l : List Sy} {R : List Str} (h : begins sc w r = some (l, sc1)) (hb : BadAt l sc1 R i) (k : Kd) : BadAt [.blk r k] sc (w :: R) (i + 1) := step_more (blk_beg h k) (bad_app hb)
theorem gob_bad {r : Nat} {k k2 : Kd} {sc sc2 : Sc} {ws R : List Str} {i : Nat} (h : GoB r k sc ws k2 sc2) (h2 : BadAt [.blk r k2] sc2 R i) : BadAt [.blk r k] sc (ws ++ R) (ws.length + i) := fun t => by
  show eat (.blk r k :: t) sc _ = _ ∨ (_ ∧ ∃ x st, eat (.blk r k :: t) sc _ = _ ∧ _)
  rw [h]
  rcases h2 t with h2 | ⟨h2, x, st, h3, h4⟩
  · have h2 : eat (.blk r k2 :: t) sc2 R = .stop i := h2
    rw [h2, by_stop]
    exact .inl (by rw [Nat.add_comm])
  · have h3 : eat (.blk r k2 :: t) sc2 R = .out (x :: st) := h3
    rw [h3, by_out]
    exact .inr ⟨by rw [List.length_append, h2], x, st, rfl, h4⟩
theorem head_of {W : List Str} {a : Nat} {x : Str} {r : List Str} (h : W.drop a = x :: r) : W[a]? = some x := by
  have := congrArg List.head? h
  rw [List.head?_drop] at this
  exact this
section
variable {w : World} {K : PySem.W.Frag} {mg : Str → Option Value} {base : Heap}
/-- what a statement's reading may find -/
def spStmG (K : PySem.W.Frag) (r : Nat) : Sp := fun vs H Q E => ∃ (B : Hp) (L : Addr × Addr) (p : Addr) (W N : List Str) (at_ b m : Nat), vs = [.ref p, .int (r : Int)] ∧ Ex B H ∧ B p = none ∧ Rw K p L W N at_ b m H ∧ (∀ x ∈ N, IsName x) ∧
  (begins (scOf N b) (wat W at_) r = none → ∀ H2, Stp [p] B H B H2 → Rw K p L W N at_ b m H2 → Q .non H2) ∧
  (∀ (v : V) (B2 H2 : Hp) (d : PyData) (ws : List Str) (b2 m2 : Nat), W.drop at_ = ws ++ W.drop (at_ + ws.length) → PaB N r b m b2 m2 [d] ws → Stp [p] B H B2 H2 → Rw K p L W N (at_ + ws.length) b2 m2 H2 → Dp K B2 v d → v ≠ .non → Q v H2) ∧
  (∀ i, (∀ k, BadAt [.blk r k] (scOf N b) (W.drop at_) i) → Bt K E (at_ + i))
def spBlkG (K : PySem.W.Frag) (r : Nat) : Sp := fun vs H Q E => ∃ (B : Hp) (L : Addr × Addr) (p : Addr) (W N : List Str) (at_ b m : Nat), vs = [.ref p, .int (r : Int)] ∧ Ex B H ∧ B p = none ∧ Rw K p L W N at_ b m H ∧ (∀ x ∈ N, IsName x) ∧
  (∀ (v : V) (B2 H2 : Hp) (ds : List PyData) (ws : List Str) (b2 m2 : Nat), W.drop at_ = ws ++ W.drop (at_ + ws.length) → PaB N r b m b2 m2 ds ws → begins (scOf N b2) (wat W (at_ + ws.length)) r = none → Stp [p] B H B2 H2 → Rw K p L W N (at_ + ws.length) b2 m2 H2 → Dp K B2 v (.tuple ds) → Q v H2) ∧
  (∀ i, (∀ k, BadAt [.blk r k] (scOf N b) (W.drop at_) i) → Bt K E (at_ + i))
def spChG (K : PySem.W.Frag) (r : Nat) : Sp := fun vs H Q E => ∃ (B : Hp) (L : Addr × Addr) (p : Addr) (W N : List Str) (at_ b m : Nat), vs = [.ref p, .int (r : Int)] ∧ Ex B H ∧ B p = none ∧ Rw K p L W N at_ b m H ∧ (∀ x ∈ N, IsName x) ∧
  (∀ (v : V) (B2 H2 : Hp) (e : PyData) (ts os : List PyData) (we wt wo : List Str) (b1 m1 b2 m2 n : Nat), W.drop at_ = we ++ wt ++ elseW os wo ++ [("end" : Str)] ++ W.drop (at_ + n) → n = (we ++ wt ++ elseW os wo ++ [("end" : Str)]).length → IsE N 6 e we → PaB N r b m b1 m1 ts wt → PaB N r b1 m1 b2 m2 os wo →
    Stp [p] B H B2 H2 → Rw K p L W N (at_ + n) b2 m2 H2 → Dp K B2 v (.tuple [.str "if", e, .tuple ts, .tuple os]) → v ≠ .non → Q v H2) ∧
  (∀ i, BadAt [.val 6, .blk r .thn] (scOf N b) (W.drop at_) i → Bt K E (at_ + i))
def spChP (K : PySem.W.Frag) : Nat → Sp
  | 0 => fun _ _ _ _ => False
  | r + 1 => spChG K r
theorem tr_names {p : Addr} {L : Addr × Addr} {W N : List Str} {at_ b m : Nat} {H : Hp} (T : Txt K mg) {σ : L2.St} (h : Rw K p L W N at_ b m H) (hσ : σ[0]? = some (some (.ref p))) {tt : TT} (hh : ∀ H1, Ex H H1 → ∀ Q : Bool → Hp → Prop, Q (!(N.map V.str).isEmpty) H1 → tt σ H1 Q) : EvT tt σ H (decide (N ≠ [])) := fun H1 e1 Q q => by
  refine hh H1 e1 Q ?_
  have : (!(N.map V.str).isEmpty) = decide (N ≠ []) := by cases N <;> rfl
  rw [this]
  exact q H1 (Ex.refl _)
theorem fn_stm1 (T : Txt K mg) (r : Nat) (IH : Fn P w K mg base (9 + 3 * r) (ma K (ga K "Reader") "choice") (spChP K r)) : Fn P w K mg base (9 + 3 * r + 1) (ma K (ga K "Reader") "statement") (spStmG K r) := by
  refine fn_def T.d_Reader_statement sc_Reader_statement (fun _ _ _ _ _ _ us hl => match us, hl with | [_, _], _ => rfl) (fun vs H Q E h => ?_) (fun cdv A outer s H vs Q E hr h => ?_)
  · obtain ⟨B, L, p, W, N, at_, b, m, rfl, _⟩ := h
    rfl
  obtain ⟨B, L, p, W, N, at_, b, m, rfl, e, hb, hr0, hN, kn, k, kb⟩ := h
  have nd := sc_Reader_statement.nd
  have hr1 : Room 1 _ := hr.mono (by omega)
  have hr3 : Room 3 _ := hr.mono (by omega)
  have hr4 : Room 4 _ := hr.mono (by omega)
  have hr9 : Room 9 _ := hr.mono (by omega)
  refine ⟨_, pss_cons (ps_set (i := 2) nd rfl (by first | exact Or.inl rfl | exact Or.inr rfl) (pe_methR0 (pv 0) T.c_Reader T.t_Reader_word (fn_Reader_word T) hr1 pc))
      (pss_cons (ps_if (PW.pt (pw_and (pt_cmpR op_in_seq (pv 2) (pe_tup (pa_cons (pe_str) (pa_cons (pe_str) (pa_cons (pe_str) pa_nil)))) rfl) (pw_and (pt_truth (pe_fld (pv 0) rfl) (by intro _; rfl)) (pw_and1 (pt_cmpR op_lt (pe_fld (pv 0) rfl) (pe_gi T.i_MOST_BRANCHES) (nomark _)))))) (pss_one (ps_ret (pe_methR (pv 0) T.c_Reader T.t_Reader_branching (fn_Reader_branching T) hr4 pc (pa_cons (pv 2) pa_nil)))) (pss_nil))
      (Evl.pss_cut (ps_if (PW.pt (pw_and (pt_cmpR op_eq (pv 2) (pe_str) (nomark _)) (pw_and1 (pt_truth (pe_fld (pv 0) rfl) (by intro _; rfl))))) (pss_cons (ps_fldaug (pv 0) (pe_int) in_add)
      (pss_one (ps_ret (pe_tup (pa_cons (pv 2) (pa_cons (pe_methR (pv 0) T.c_Reader T.t_Reader_take (fn_Reader_take T) hr3 pc (pa_cons (pe_fld (pv 0) rfl) pa_nil)) (pa_cons (pe_methR (pv 0) T.c_Reader T.t_Reader_expression (fn_Reader_expression T) hr9 pc (pa_cons (pe_gi T.i_DEEPEST) pa_nil)) pa_nil))))))) (pss_nil))
      (Evl.pss_cut (ps_if (pt_cmpR op_eq (pv 2) (pe_str) (nomark _)) (pss_cons (ps_fldaug (pv 0) (pe_int) in_add)
      (pss_one (ps_ret (pe_tup (pa_cons (pv 2) (pa_cons (pe_methR (pv 0) T.c_Reader T.t_Reader_take (fn_Reader_take T) hr3 pc (pa_cons (pe_gr T.g_SEATS) pa_nil)) (pa_cons (pe_methR (pv 0) T.c_Reader T.t_Reader_expression (fn_Reader_expression T) hr9 pc (pa_cons (pe_gi T.i_DEEPEST) pa_nil)) pa_nil))))))) (pss_nil))
      (Evl.pss_cut (ps_if (pt_cmpR op_in_seq (pv 2) (pe_tup (pa_cons (pe_str) (pa_cons (pe_str) pa_nil))) rfl) (pss_cons (ps_fldaug (pv 0) (pe_int) in_add)
      (pss_one (ps_ret (pe_tup (pa_cons (pv 2) (pa_cons (pe_methR (pv 0) T.c_Reader T.t_Reader_expression (fn_Reader_expression T) hr9 pc (pa_cons (pe_gi T.i_DEEPEST) pa_nil)) pa_nil)))))) (pss_nil))
      (pss_cons (ps_if (PW.pt (pw_and (pt_cmpR op_eq (pv 2) (pe_str) (nomark _)) (pw_and1 (pt_cmpR op_gt (pv 1) (pe_int) (nomark _))))) (pss_cons (ps_fldaug (pv 0) (pe_int) in_add)
      (pss_one (ps_ret (pe_methR (pv 0) T.c_Reader T.t_Reader_choice IH hr pc (pa_cons (pe_op op_sub (pv 1) (pe_int)) pa_nil))))) (pss_nil))
      (pss_one (ps_ret (pe_non)))))))), ?_⟩
  obtain ⟨dx, hp, _⟩ := id hr0
  refine ⟨_, rfl, p, dx, _, rfl, hp, rfl, L, p, W, N, at_, b, m, rfl, hr0, ?_⟩
  generalize hw0 : wat W at_ = w0 at kn
  have hat : w0 ≠ "" → W[at_]? = some w0 := fun h => wat_of hw0 h
  dsimp only [gName]
  have hne : ("" : Str) ∉ N := fun z => name_ne (hN _ z) rfl
  have mvN : ∀ H1, Ex H H1 → Rw K p L W N at_ b m H1 := fun H1 x1 => hr0.ex x1
  have hpN : ∀ H1, Ex H H1 → H1 p = some (.ins (ga K "Reader") dx (rdF L.1 L.2 at_ b m)) := fun H1 x1 => x1 _ _ hp
  -- a draw or a move
  refine q_when (b := decide (w0 ∈ MV_) && (decide (N ≠ []) && decide (b < 10))) (et_and (et_test fun H1 e1 Q1 q1 => ⟨_, rfl, (by show 3 ≤ sizeLine; decide), fun t nt => ⟨t, MV_.map V.str, rfl, .inr (SqT.of upd_same), rfl, flat_strs _, by show Q1 (V.bl (inV (.str w0) (MV_.map V.str))) _; rw [inV_strs]; exact q1 _ (Ex.new nt)⟩⟩) fun _ => et_and (tr_names T hr0 rfl fun H1 e1 Q1 q1 => ⟨_, rfl, p, _, _, _, _, rfl, hpN H1 e1, T.c_Reader, T.a_Reader_names, rfl, _, .inl ⟨_, SqL.of (by obtain ⟨_, _, _, h3, _⟩ := mvN H1 e1; exact h3), rfl⟩, q1⟩) fun _ => et_test fun H1 e1 Q1 q1 => ⟨_, rfl, p, _, _, _, _, rfl, hpN H1 e1, T.c_Reader, T.a_Reader_branches, rfl, _, _, rfl, rfl, by
    show Q1 (V.bl (decide ((b : Int) < 10))) H1
    rw [show decide ((b : Int) < 10) = decide (b < 10) from decide_eq_decide.mpr (by omega)]
    exact q1 H1 (Ex.refl _)⟩) (fun hc H1 x1 => ?_) fun hc H1 x1 => ?_
  · rw [Bool.and_eq_true, Bool.and_eq_true, decide_eq_true_eq, decide_eq_true_eq, decide_eq_true_eq] at hc
    obtain ⟨c1, c2, c3⟩ := hc
    have hx0 := hat (mv_ne w0 c1).2.2.2.2.2.2.2
    have hbg := beg_mv (r := r) (sc := scOf N b) (w := w0) c1 c2 (by show 0 < 10 - b; omega)
    have s1 := Stp.ofEx (ms := [p]) e x1
    refine ⟨_, rfl, p, dx, _, rfl, hpN H1 x1, rfl, _, rfl, B, L, p, W, N, w0, at_, b, m, rfl, s1.in_, hb, mvN H1 x1, hx0, hN, fun v B2 H2 x n m2 d hd hx n1 n8 st hr2 hv hnn hcase => ?_, fun i hi => ?_⟩
    · refine k v B2 H2 d [w0, x, istr n] (b + 1) m2 hd ?_ (s1.trans st) hr2 hv hnn
      rcases hcase with ⟨rfl, rfl, rfl⟩ | ⟨h1, rfl, rfl⟩
      · exact .draw hx n1 n8 c3 .nil
      · refine .move ?_ hx n1 n8 c3 .nil
        have : w0 ∈ (["draw", "choose", "come"] : List Str) := c1
        rcases List.mem_cons.mp this with rfl | h
        · exact absurd rfl h1
        · exact h
    · have := kb (i + 1) fun k => by
        rw [drop_at hx0]
        exact stm_bad hbg (hi _) k
      rw [show at_ + (i + 1) = at_ + 1 + i by omega] at this
      exact this
  have c1 : ¬ (w0 ∈ MV_ ∧ N ≠ [] ∧ 0 < (scOf N b).left) := fun z => by
    have : b < 10 := by have := z.2.2; unfold scOf at this; dsimp only at this; omega
    rw [decide_eq_true z.1, decide_eq_true z.2.1, decide_eq_true this] at hc
    exact Bool.noConfusion hc
  clear hc
  -- set
  have st1 := Stp.ofEx (ms := [p]) e x1
  have hr1' := mvN H1 x1
  have hp1 := hpN H1 x1
  refine ⟨fun σ H' => ¬ (w0 = "set" ∧ N ≠ []) ∧ Ex H1 H' ∧ σ = [some (.ref p), some (.int (r : Int)), some (.str w0)], ?_, ?_⟩
  · refine s_if (b := decide (w0 = "set") && decide (N ≠ [])) (et_and (et_test (ev_is (ev_op (ev_var rfl) ev_c (rv_eq rfl)) (congrArg V.bl (decide_eq_decide.mpr ⟨fun h => V.str.inj h, fun h => by rw [h]⟩)))) fun _ => tr_names T hr1' rfl fun H2 e2 Q1 q1 => ⟨_, rfl, p, _, _, _, _, rfl, e2 _ _ hp1, T.c_Reader, T.a_Reader_names, rfl, _, .inl ⟨_, SqL.of (by obtain ⟨_, _, _, h3, _⟩ := hr1'.ex e2; exact h3), rfl⟩, q1⟩) (fun hc H2 x2 => ?_) fun hc H2 x2 => ⟨fun z => by rw [decide_eq_true z.1, decide_eq_true z.2] at hc; exact Bool.noConfusion hc, x2, rfl⟩
    rw [Bool.and_eq_true, decide_eq_true_eq, decide_eq_true_eq] at hc
    obtain ⟨rfl, c2⟩ := hc
    have hx0 := hat kw_nn.1
    have hbg := beg_set (r := r) (sc := scOf N b) c2
    have hp2 := x2 _ _ hp1
    refine ⟨_, rfl, p, _, _, _, _, rfl, hp2, T.c_Reader, T.a_Reader_at, rfl, _, _, rfl, rfl, _, _, hp2, (by show 5 < 1000; decide), ?_⟩
    have e2 := st1.in_.trans x2
    have s3 := (st1.trans (Stp.ofEx (ms := [p]) st1.in_ x2)).trans (Stp.put (ms := [p]) (o := .ins (ga K "Reader") dx (putF "at" (.int ((at_ : Int) + 1)) (rdF L.1 L.2 at_ b m))) e2 hb (.head _))
    have hr3' := (hr1'.ex x2).at hx0 hp2
    obtain ⟨dx3, hp3, hw3, hn3, _⟩ := id hr3'
    have kbr : ∀ i, BadAt [.one, .val 6] (scOf N b) (W.drop (at_ + 1)) i → Bt K E (at_ + 1 + i) := fun i hi => by
      have := kb (i + 1) fun k => by
        rw [drop_at hx0]
        exact stm_bad hbg hi k
      rw [show at_ + (i + 1) = at_ + 1 + i by omega] at this
      exact this
    refine ⟨_, rfl, _, rfl, p, dx3, _, rfl, hp3, rfl, _, rfl, p, _, _, _, _, rfl, hp3, T.c_Reader, T.a_Reader_names, rfl, B, L, p, L.2, W, N, N, at_ + 1, b, m, rfl, s3.in_, hb, hr3', .inl (SqL.of hn3), hne, fun x H4 hx1 hx t4 hr4 => ?_, fun hno => ?_⟩
    rotate_left
    · refine kbr 0 (bad_app (s := [.one]) (s2 := [.val 6]) (bad_head (by trivial) fun x r hxr => ?_))
      rw [step_one]
      exact if_neg (hno x (head_of hxr))
    have s4 := s3.trans t4
    obtain ⟨dx4, hp4, _⟩ := id hr4
    have hg : Go [.one] (scOf N b) [x] (scOf N b) := go_one (by rw [step_one]; exact if_pos hx)
    refine ⟨_, rfl, p, dx4, _, rfl, hp4, rfl, B, L, p, W, N, at_ + 1 + 1, b, m, rfl, by decide, s4.in_, hb, hr4, hN, fun v B5 H5 d we hd ie t5 hr5 hv => ?_, fun i hi => ?_⟩
    · have s5 := s4.trans t5
      refine ⟨(by show 3 ≤ sizeLine; decide), fun u nu => ?_⟩
      have t6 := Stp.new (ms := []) (o := .tup [V.str "set", V.str x, v]) s5.in_ nu
      have hl : at_ + 1 + 1 + we.length = at_ + (("set" : Str) :: x :: we ++ []).length := by simp; omega
      rw [hl] at hd hr5
      refine k _ _ _ _ (("set" : Str) :: x :: we ++ []) b m ?_ (.set_ hx ie .nil) (s5.trans t6.nil) (hr5.stp t6) (.tup (SqT.of upd_same) (.cons (.str _) (.cons (.str _) (.cons (dp_mono t6.base hv) .nil)))) nofun
      rw [drop_at hx0, drop_at hx1, hd]
      simp
    · have := kbr (1 + i) (by
        rw [drop_at hx1]
        exact go_bad (s := [.one]) (s2 := [.val 6]) hg (hi _))
      rw [show at_ + 1 + (1 + i) = at_ + 1 + 1 + i by omega] at this
      exact this
  rintro σ H2 ⟨c2, x2', rfl⟩
  have x2 := x1.trans x2'
  clear st1 hr1' hp1 x1 x2'
  have st2 := Stp.ofEx (ms := [p]) e x2
  have hr2' := mvN H2 x2
  have hp2 := hpN H2 x2
  -- show
  refine ⟨fun σ H' => w0 ≠ "show" ∧ Ex H2 H' ∧ σ = [some (.ref p), some (.int (r : Int)), some (.str w0)], ?_, ?_⟩
  · refine s_if (b := decide (w0 = "show")) (et_test (ev_is (ev_op (ev_var rfl) ev_c (rv_eq rfl)) (congrArg V.bl (decide_eq_decide.mpr ⟨fun h => V.str.inj h, fun h => by rw [h]⟩)))) (fun hc H3 x3 => ?_) fun hc H3 x3 => ⟨fun z => by rw [decide_eq_true z] at hc; exact Bool.noConfusion hc, x3, rfl⟩
    rw [decide_eq_true_eq] at hc
    subst hc
    have hx0 := hat kw_nn.2.1
    have hbg := beg_show (r := r) (sc := scOf N b)
    have hp3 := x3 _ _ hp2
    refine ⟨_, rfl, p, _, _, _, _, rfl, hp3, T.c_Reader, T.a_Reader_at, rfl, _, _, rfl, rfl, _, _, hp3, (by show 5 < 1000; decide), ?_⟩
    have e3 := st2.in_.trans x3
    have s3 := (st2.trans (Stp.ofEx (ms := [p]) st2.in_ x3)).trans (Stp.put (ms := [p]) (o := .ins (ga K "Reader") dx (putF "at" (.int ((at_ : Int) + 1)) (rdF L.1 L.2 at_ b m))) e3 hb (.head _))
    have hr3' := (hr2'.ex x3).at hx0 hp3
    obtain ⟨dx3, hp3, hw3, hn3, _⟩ := id hr3'
    have kbr : ∀ i, BadAt [.seat, .val 6] (scOf N b) (W.drop (at_ + 1)) i → Bt K E (at_ + 1 + i) := fun i hi => by
      have := kb (i + 1) fun k => by
        rw [drop_at hx0]
        exact stm_bad hbg hi k
      rw [show at_ + (i + 1) = at_ + 1 + i by omega] at this
      exact this
    have hcc : ("" : Str) ∉ CC_ := by decide +kernel
    refine ⟨_, rfl, _, rfl, p, dx3, _, rfl, hp3, rfl, B, L, p, ga K "SEATS", W, N, CC_, at_ + 1, b, m, rfl, s3.in_, hb, hr3', .inr (tupB_ok T.p_SEATS _), hcc, fun x H4 hx1 hx t4 hr4 => ?_, fun hno => ?_⟩
    rotate_left
    · refine kbr 0 (bad_app (s := [.seat]) (s2 := [.val 6]) (bad_head (by trivial) fun x r hxr => ?_))
      rw [step_seat]
      exact if_neg fun z => hno x (head_of hxr) (cc_mem.mpr z)
    have s4 := s3.trans t4
    obtain ⟨dx4, hp4, _⟩ := id hr4
    have hg : Go [.seat] (scOf N b) [x] (scOf N b) := go_one (by rw [step_seat]; exact if_pos (cc_mem.mp hx))
    refine ⟨_, rfl, p, dx4, _, rfl, hp4, rfl, B, L, p, W, N, at_ + 1 + 1, b, m, rfl, by decide, s4.in_, hb, hr4, hN, fun v B5 H5 d we hd ie t5 hr5 hv => ?_, fun i hi => ?_⟩
    · have s5 := s4.trans t5
      refine ⟨(by show 3 ≤ sizeLine; decide), fun u nu => ?_⟩
      have t6 := Stp.new (ms := []) (o := .tup [V.str "show", V.str x, v]) s5.in_ nu
      have hl : at_ + 1 + 1 + we.length = at_ + (("show" : Str) :: x :: we ++ []).length := by simp; omega
      rw [hl] at hd hr5
      refine k _ _ _ _ (("show" : Str) :: x :: we ++ []) b m ?_ (.show_ hx ie .nil) (s5.trans t6.nil) (hr5.stp t6) (.tup (SqT.of upd_same) (.cons (.str _) (.cons (.str _) (.cons (dp_mono t6.base hv) .nil)))) nofun
      rw [drop_at hx0, drop_at hx1, hd]
      simp
    · have := kbr (1 + i) (by
        rw [drop_at hx1]
        exact go_bad (s := [.seat]) (s2 := [.val 6]) hg (hi _))
      rw [show at_ + 1 + (1 + i) = at_ + 1 + 1 + i by omega] at this
      exact this
  rintro σ H3 ⟨c3, x3', rfl⟩
  have x3 := x2.trans x3'
  clear st2 hr2' hp2 x2 x3'
  have st3 := Stp.ofEx (ms := [p]) e x3
  have hr3' := mvN H3 x3
  have hp3 := hpN H3 x3
  -- pay, take
  refine ⟨fun σ H' => ¬ (w0 = "pay" ∨ w0 = "take") ∧ Ex H3 H' ∧ σ = [some (.ref p), some (.int (r : Int)), some (.str w0)], ?_, ?_⟩
  · refine s_if (b := decide (w0 ∈ PT_)) (et_test fun H1 e1 Q1 q1 => ⟨_, rfl, (by show 2 ≤ sizeLine; decide), fun t nt => ⟨t, PT_.map V.str, rfl, .inr (SqT.of upd_same), rfl, flat_strs _, by show Q1 (V.bl (inV (.str w0) (PT_.map V.str))) _; rw [inV_strs]; exact q1 _ (Ex.new nt)⟩⟩) (fun hc H4 x4 => ?_) fun hc H4 x4 => ⟨fun z => by rw [decide_eq_true (pt_mem.mpr z)] at hc; exact Bool.noConfusion hc, x4, rfl⟩
    rw [decide_eq_true_eq] at hc
    have hpt := pt_mem.mp hc
    have hx0 := hat (hpt.elim (fun z => by rw [z]; exact kw_nn.2.2.1) (fun z => by rw [z]; exact kw_nn.2.2.2.1))
    have hbg := beg_pay (r := r) (sc := scOf N b) hpt
    have hp4 := x4 _ _ hp3
    refine ⟨_, rfl, p, _, _, _, _, rfl, hp4, T.c_Reader, T.a_Reader_at, rfl, _, _, rfl, rfl, _, _, hp4, (by show 5 < 1000; decide), ?_⟩
    have e4 := st3.in_.trans x4
    have s4 := (st3.trans (Stp.ofEx (ms := [p]) st3.in_ x4)).trans (Stp.put (ms := [p]) (o := .ins (ga K "Reader") dx (putF "at" (.int ((at_ : Int) + 1)) (rdF L.1 L.2 at_ b m))) e4 hb (.head _))
    have hr4 := (hr3'.ex x4).at hx0 hp4
    obtain ⟨dx4, hp4, _⟩ := id hr4
    refine ⟨_, rfl, _, rfl, p, dx4, _, rfl, hp4, rfl, B, L, p, W, N, at_ + 1, b, m, rfl, by decide, s4.in_, hb, hr4, hN, fun v B5 H5 d we hd ie t5 hr5 hv => ?_, fun i hi => ?_⟩
    · have s5 := s4.trans t5
      refine ⟨(by show 2 ≤ sizeLine; decide), fun u nu => ?_⟩
      have t6 := Stp.new (ms := []) (o := .tup [V.str w0, v]) s5.in_ nu
      have hl : at_ + 1 + we.length = at_ + (w0 :: we ++ []).length := by simp; omega
      rw [hl] at hd hr5
      refine k _ _ _ _ (w0 :: we ++ []) b m ?_ (.pay hc ie .nil) (s5.trans t6.nil) (hr5.stp t6) (.tup (SqT.of upd_same) (.cons (.str _) (.cons (dp_mono t6.base hv) .nil))) nofun
      rw [drop_at hx0, hd]
      simp
    · have := kb (i + 1) fun k => by
        rw [drop_at hx0]
        exact stm_bad hbg (hi _) k
      rw [show at_ + (i + 1) = at_ + 1 + i by omega] at this
      exact this
  rintro σ H4 ⟨c4, x4', rfl⟩
  have x4 := x3.trans x4'
  clear st3 hr3' hp3 x3 x4'
  have st4 := Stp.ofEx (ms := [p]) e x4
  have hr4' := mvN H4 x4
  have hp4 := hpN H4 x4
  -- if
  refine q_when (b := decide (w0 = "if") && decide (0 < r)) (et_and (et_test (ev_is (ev_op (ev_var rfl) ev_c (rv_eq rfl)) (congrArg V.bl (decide_eq_decide.mpr ⟨fun h => V.str.inj h, fun h => by rw [h]⟩)))) fun _ => et_test fun H1 e1 Q1 q1 => ⟨_, rfl, _, _, rfl, rfl, by
    show Q1 (V.bl (decide ((0 : Int) < (r : Int)))) H1
    rw [show decide ((0 : Int) < (r : Int)) = decide (0 < r) from decide_eq_decide.mpr (by omega)]
    exact q1 H1 (Ex.refl _)⟩) (fun hc H5 x5 => ?_) fun hc H5 x5 => ?_
  · rw [Bool.and_eq_true, decide_eq_true_eq, decide_eq_true_eq] at hc
    obtain ⟨rfl, hr0'⟩ := hc
    obtain ⟨r', rfl⟩ : ∃ r', r = r' + 1 := ⟨r - 1, by omega⟩
    have hx0 := hat kw_nn.2.2.2.2.1
    have hbg := beg_if (sc := scOf N b) hr0'
    have hp5 := x5 _ _ hp4
    refine ⟨_, rfl, p, _, _, _, _, rfl, hp5, T.c_Reader, T.a_Reader_at, rfl, _, _, rfl, rfl, _, _, hp5, (by show 5 < 1000; decide), ?_⟩
    have e5 := st4.in_.trans x5
    have s5 := (st4.trans (Stp.ofEx (ms := [p]) st4.in_ x5)).trans (Stp.put (ms := [p]) (o := .ins (ga K "Reader") dx (putF "at" (.int ((at_ : Int) + 1)) (rdF L.1 L.2 at_ b m))) e5 hb (.head _))
    have hr5 := (hr4'.ex x5).at hx0 hp5
    obtain ⟨dx5, hp5, _⟩ := id hr5
    have er : ((r' + 1 : Nat) : Int) - 1 = (r' : Int) := by omega
    refine ⟨_, rfl, p, dx5, _, rfl, hp5, rfl, _, rfl, _, _, rfl, rfl, B, L, p, W, N, at_ + 1, b, m, by show [V.ref p, V.int (((r' + 1 : Nat) : Int) - 1)] = _; rw [er], s5.in_, hb, hr5, hN, fun v B6 H6 ex ts os we wt wo b1 m1 b2 m2 n hd hn ie it io t6 hr6 hv nn => ?_, fun i hi => ?_⟩
    · have hl : at_ + 1 + n = at_ + (("if" : Str) :: we ++ wt ++ elseW os wo ++ [("end" : Str)] ++ []).length := by rw [hn]; simp; omega
      rw [hl] at hd hr6
      refine k _ _ _ _ (("if" : Str) :: we ++ wt ++ elseW os wo ++ [("end" : Str)] ++ []) b2 m2 ?_ (.ite ie it io .nil) (s5.trans t6) hr6 hv nn
      rw [drop_at hx0, hd]
      simp
    · have := kb (i + 1) fun k => by
        rw [drop_at hx0]
        exact stm_bad hbg hi k
      rw [show at_ + (i + 1) = at_ + 1 + i by omega] at this
      exact this
  -- nothing begins here
  have c5 : ¬ (w0 = "if" ∧ 0 < r) := fun z => by
    rw [decide_eq_true z.1, decide_eq_true z.2] at hc
    exact Bool.noConfusion hc
  have hbn : begins (scOf N b) w0 r = none := beg_none c2 c1 c3 c4 c5
  exact kn hbn _ (st4.trans (Stp.ofEx (ms := [p]) st4.in_ x5)) (hr4'.ex x5)
end
end LL
namespace LL
open PySem PySem.Spec PyProof.Rows L2 He Evl
theorem small_2m {n : Nat} (h : n ≤ 2000000) : n < sizeLine := Nat.lt_of_le_of_lt h (by decide)
section
variable {w : World} {K : PySem.W.Frag} {mg : Str → Option Value} {base : Heap}
def BJG (K : PySem.W.Frag) (L : Addr × Addr) (p c : Addr) (B H0 : Hp) (W N : List Str) (at_ b m r : Nat) (vd : List V) (v : V) (H' : Hp) : Prop := ∃ (B' : Hp) (dd : List PyData) (wd : List Str) (b1 m1 : Nat), Stp [c, p] B H0 B' H' ∧ H' c = some (.lst vd) ∧ DpAll K B' vd dd ∧ B' p = none ∧ W.drop at_ = wd ++ W.drop (at_ + wd.length) ∧ PaB N r b m b1 m1 dd wd ∧
  ((v = .non ∧ Rw K p L W N (at_ + wd.length) b1 m1 H' ∧ begins (scOf N b1) (wat W (at_ + wd.length)) r = none) ∨
   (v ≠ .non ∧ ∃ (d : PyData) (w1 : List Str) (b2 m2 : Nat), PaB N r b1 m1 b2 m2 [d] w1 ∧ Dp K B' v d ∧ W.drop (at_ + wd.length) = w1 ++ W.drop (at_ + wd.length + w1.length) ∧ Rw K p L W N (at_ + wd.length + w1.length) b2 m2 H'))
theorem callJG {L : Addr × Addr} {p c : Addr} {B H0 : Hp} {W N : List Str} {at_ b m r : Nat} (hcp : c ≠ p) (hN : ∀ x ∈ N, IsName x) {B' H' : Hp} {vd : List V} {dd : List PyData} {wd : List Str} {b1 m1 : Nat} {Q : VK} {E : XK}
    (s : Stp [c, p] B H0 B' H') (hc : H' c = some (.lst vd)) (hd : DpAll K B' vd dd) (hb : B' p = none) (hdr : W.drop at_ = wd ++ W.drop (at_ + wd.length)) (ip : PaB N r b m b1 m1 dd wd) (hr : Rw K p L W N (at_ + wd.length) b1 m1 H') (k : ∀ v H2, BJG K L p c B H0 W N at_ b m r vd v H2 → Q v H2)
    (kb : ∀ i, (∀ k, BadAt [.blk r k] (scOf N b) (W.drop at_) i) → Bt K E (at_ + i)) : spStmG K r [.ref p, .int (r : Int)] H' Q E := by
  obtain ⟨dx, hp, _⟩ := id hr
  have hcn : c ∉ [p] := by simpa using hcp
  refine ⟨B', L, p, W, N, at_ + wd.length, b1, m1, rfl, s.in_, hb, hr, hN, fun hbg H2 t hr2 => ?_, fun v B2 H2 d ws b2 m2 hd2 ip2 t hr2 hv nn => ?_, fun i hi => ?_⟩
  · exact k _ _ ⟨B', dd, wd, b1, m1, s.trans (t.wk (by simp)), t.fr c _ hcn hc, hd, hb, hdr, ip, .inl ⟨rfl, hr2, hbg⟩⟩
  · exact k _ _ ⟨B2, dd, wd, b1, m1, s.trans (t.wk (by simp)), t.fr c _ hcn hc, dpa_mono t.base hd, t.off hb hp, hdr, ip, .inr ⟨nn, d, ws, b2, m2, ip2, hv, hd2, hr2⟩⟩
  · have := kb (wd.length + i) fun k => by
      rw [hdr]
      exact gob_bad (ip.go hN k) (hi _)
    rw [← Nat.add_assoc] at this
    exact this
theorem drop_le {W ws : List Str} {a b : Nat} (h : W.drop a = ws ++ W.drop b) : ws.length ≤ W.length := by
  have := congrArg List.length h
  rw [List.length_append, List.length_drop, List.length_drop] at this
  omega
theorem fn_blk1 (T : Txt K mg) (r : Nat) (IH : Fn P w K mg base (9 + 3 * r + 1) (ma K (ga K "Reader") "statement") (spStmG K r)) : Fn P w K mg base (9 + 3 * r + 1 + 1) (ma K (ga K "Reader") "block") (spBlkG K r) := by
  refine fn_def T.d_Reader_block sc_Reader_block (fun _ _ _ _ _ _ us hl => match us, hl with | [_, _], _ => rfl) (fun vs H Q E h => ?_) (fun cdv A outer s H vs Q E hr h => ?_)
  · obtain ⟨B, L, p, W, N, at_, b, m, rfl, _⟩ := h
    rfl
  obtain ⟨B, L, p, W, N, at_, b, m, rfl, e, hb, hr0, hN, k, kb⟩ := h
  have nd := sc_Reader_block.nd
  refine ⟨_, pss_cons (ps_set (i := 2) nd rfl (by first | exact Or.inl rfl | exact Or.inr rfl) (pe_lst pa_nil))
      (pss_cons (ps_set (i := 3) nd rfl (by first | exact Or.inl rfl | exact Or.inr rfl) (pe_methR (pv 0) T.c_Reader T.t_Reader_statement IH hr pc (pa_cons (pv 1) pa_nil)))
      (pss_cons (ps_while (passes_of rfl) (pt_cmpR op_notN (pv 3) (pe_non) (nomark _)) (pss_cons (ps_expr (pe_bm PySem.F.plainAttrs_list PySem.F.slot_list_append PySem.F.type_list_append mt_append (pv 2) (pa_cons (pv 3) pa_nil)))
      (pss_one (ps_set (i := 3) nd rfl (by first | exact Or.inl rfl | exact Or.inr rfl) (pe_methR (pv 0) T.c_Reader T.t_Reader_statement IH hr pc (pa_cons (pv 1) pa_nil))))))
      (pss_one (ps_ret (pe_callTy call_tuple_of (by rfl) T.f_tuple (by decide +kernel) (pa_cons (pv 2) pa_nil)))))), ?_⟩
  refine ⟨(by show 0 ≤ sizeLine; decide), fun c nc => ?_⟩
  have e0 : Ex B (upd H c (.lst [])) := Ex.mut e (ex_none e nc)
  obtain ⟨dx, hp, hw, hn, haW, hlW, hxW⟩ := id hr0
  have hc1 : c ≠ L.1 := fun z => by rw [← z, nc] at hw; cases hw
  have hc2 : c ≠ L.2 := fun z => by rw [← z, nc] at hn; cases hn
  have hcp : c ≠ p := fun z => by rw [← z, nc] at hp; cases hp
  have hr1 := hr0.ex (Ex.new (o := .lst []) nc)
  have hp1 := (Ex.new (o := .lst []) nc) _ _ hp
  refine ⟨_, rfl, p, dx, _, rfl, hp1, rfl, _, rfl, ?_⟩
  dsimp only [tNil]
  refine callJG (B := B) (H0 := upd H c (.lst [])) (vd := []) (dd := []) (wd := []) (c := c) hcp hN (Stp.refl e0) upd_same .nil hb rfl .nil hr1 (fun v H2 hJ => ?_) kb
  dsimp only [gName, tSeq]
  refine while_by (fun σ H' => ∃ v vd, BJG K L p c B (upd H c (.lst [])) W N at_ b m r vd v H' ∧ σ = [some (.ref p), some (.int (r : Int)), some (.ref c), some v])
    (fun _ H' => match H' c with | some (.lst xs) => 3000000 - xs.length | _ => 0) ⟨v, [], hJ, rfl⟩ ?_ ?_
  · rintro σ H' ⟨v, vd, ⟨B', dd, wd, b1, m1, s1, hc, hd, hb', hdr, ip, hh⟩, rfl⟩
    refine ⟨_, rfl, rfl, _, rfl, ite2 (fun c1 => ?_) fun c1 => ?_⟩
    · rcases hh with ⟨rfl, _, _⟩ | ⟨nn, d, w1, b2, m2, ip2, hdv, hd2, hr'⟩
      · exact absurd c1 (by decide)
      have hvl := dp_all_len hd
      have hll : dd.length ≤ 2000000 := Nat.le_trans ip.le.2.2.2 (Nat.le_trans (drop_le hdr) hlW)
      have hcb : B' c = none := s1.off (ex_none e nc) upd_same
      have t2 := Stp.put (ms := [c]) (o := .lst (vd ++ [v])) s1.in_ hcb (.head _)
      have s2 := s1.trans (t2.wk (ns := [c, p]) (by simp))
      have hr2 : Rw K p L W N (at_ + wd.length + w1.length) b2 m2 (upd H' c (.lst (vd ++ [v]))) := by
        obtain ⟨dx, h1, h2, h3, h4⟩ := hr'
        exact ⟨dx, by rw [upd_ne hcp.symm]; exact h1, by rw [upd_ne hc1.symm]; exact h2, by rw [upd_ne hc2.symm]; exact h3, h4⟩
      obtain ⟨dx2, hp2, _⟩ := id hr2
      have el : at_ + wd.length + w1.length = at_ + (wd ++ w1).length := by rw [List.length_append]; omega
      rw [el] at hr2 hd2
      refine ⟨_, rfl, .inl ⟨rfl, _, SqL.of hc⟩, _, rfl, c, _, _, rfl, rfl, hc, small_2m (by omega), ?_⟩
      refine ⟨_, rfl, p, dx2, _, rfl, hp2, rfl, _, rfl, ?_⟩
      dsimp only [tNil]
      refine callJG hcp hN s2 upd_same (dpa_app hd hdv) hb' (by rw [hdr, hd2, List.append_assoc]) (ip.app ip2) hr2 (fun v2 H2 hJ => ?_) kb
      refine ⟨⟨v2, _, hJ, rfl⟩, ?_⟩
      obtain ⟨_, _, _, _, _, _, hc2, _⟩ := hJ
      show (match H2 c with | some (.lst xs) => 3000000 - xs.length | _ => 0) < (match H' c with | some (.lst xs) => 3000000 - xs.length | _ => 0)
      rw [hc2, hc]
      show 3000000 - (vd ++ [v]).length < 3000000 - vd.length
      rw [List.length_append, List.length_singleton]
      omega
    · rcases hh with ⟨rfl, hr2, hbg⟩ | ⟨nn, _⟩
      · refine ⟨_, rfl, c, _, rfl, .inl ⟨SqL.of hc, fun l nl => ?_⟩⟩
        have s3 := Stp.with nc s1
        have t4 := Stp.new (ms := []) (o := .tup vd) s1.in_ nl
        exact k _ _ _ _ _ _ _ hdr ip hbg (s3.trans t4.nil) (hr2.stp t4) (.tup (SqT.of upd_same) (dpa_mono t4.base hd))
      · exfalso
        apply c1
        show (!decide (v = .non)) = true
        rw [decide_eq_false nn]
        rfl
  · rintro σ H' Q1 Q2 f ⟨v, e1, h1, kk, h2, q⟩
    exact ⟨v, e1, h1, kk, h2, f _ _ q⟩
theorem fn_ch1 (T : Txt K mg) (r : Nat) (IH : Fn P w K mg base (9 + 3 * r + 1 + 1) (ma K (ga K "Reader") "block") (spBlkG K r)) : Fn P w K mg base (9 + 3 * r + 1 + 1 + 1) (ma K (ga K "Reader") "choice") (spChG K r) := by
  refine fn_def T.d_Reader_choice sc_Reader_choice (fun _ _ _ _ _ _ us hl => match us, hl with | [_, _], _ => rfl) (fun vs H Q E h => ?_) (fun cdv A outer s H vs Q E hr h => ?_)
  · obtain ⟨B, L, p, W, N, at_, b, m, rfl, _⟩ := h
    rfl
  obtain ⟨B, L, p, W, N, at_, b, m, rfl, e, hb, hr0, hN, k, kb⟩ := h
  have nd := sc_Reader_choice.nd
  have hr1 : Room 1 _ := hr.mono (by omega)
  have hr2 : Room 2 _ := hr.mono (by omega)
  have hr3 : Room 3 _ := hr.mono (by omega)
  have hr9 : Room 9 _ := hr.mono (by omega)
  refine ⟨_, pss_cons (ps_set (i := 2) nd rfl (by first | exact Or.inl rfl | exact Or.inr rfl) (pe_methR (pv 0) T.c_Reader T.t_Reader_expression (fn_Reader_expression T) hr9 pc (pa_cons (pe_gi T.i_DEEPEST) pa_nil)))
      (pss_cons (ps_set (i := 3) nd rfl (by first | exact Or.inl rfl | exact Or.inr rfl) (pe_methR (pv 0) T.c_Reader T.t_Reader_block IH hr pc (pa_cons (pv 1) pa_nil)))
      (pss_cons (ps_set (i := 4) nd rfl (by first | exact Or.inl rfl | exact Or.inr rfl) (pe_tup pa_nil))
      (pss_cons (ps_if (pt_cmpR op_eq (pe_methR0 (pv 0) T.c_Reader T.t_Reader_word (fn_Reader_word T) hr1 pc) (pe_str) (nomark _)) (pss_cons (ps_fldaug (pv 0) (pe_int) in_add)
      (pss_cons (ps_set (i := 4) nd rfl (by first | exact Or.inl rfl | exact Or.inr rfl) (pe_methR (pv 0) T.c_Reader T.t_Reader_block IH hr pc (pa_cons (pv 1) pa_nil)))
      (pss_one (ps_if (pt_not (pt_truth (pv 4) (by intro _; rfl))) (pss_one (ps_raise rfl (takes_of rfl rfl rfl rfl) (pmk_BadText T hr2 (pa_cons (pe_fld (pv 0) rfl) pa_nil)))) (pss_nil))))) (pss_nil))
      (pss_cons (ps_expr (pe_methR (pv 0) T.c_Reader T.t_Reader_take (fn_Reader_take T) hr3 pc (pa_cons (pe_tup (pa_cons (pe_str) pa_nil)) pa_nil)))
      (pss_one (ps_ret (pe_tup (pa_cons (pe_str) (pa_cons (pv 2) (pa_cons (pv 3) (pa_cons (pv 4) pa_nil))))))))))), ?_⟩
  obtain ⟨dx, hp, _⟩ := id hr0
  refine ⟨_, rfl, p, dx, _, rfl, hp, rfl, B, L, p, W, N, at_, b, m, rfl, by decide, e, hb, hr0, hN, fun v1 B1 H1 d we hd1 ie t1 hr1 hv1 => ?_, fun i hi => kb i (bad_app (s := [.val 6]) (s2 := [.blk r .thn]) (hi _))⟩
  have hb1 := t1.off hb hp
  obtain ⟨dx1, hp1, _⟩ := id hr1
  have hgE : Go [.val 6] (scOf N b) we (scOf N b) := go_expr hN ie _
  have kb1 : ∀ i, BadAt [.blk r .thn] (scOf N b) (W.drop (at_ + we.length)) i → Bt K E (at_ + we.length + i) := fun i hi => by
    have := kb (we.length + i) (by
      rw [hd1]
      exact go_bad (s := [.val 6]) (s2 := [.blk r .thn]) hgE hi)
    rw [← Nat.add_assoc] at this
    exact this
  refine ⟨_, rfl, p, dx1, _, rfl, hp1, rfl, _, rfl, B1, L, p, W, N, at_ + we.length, b, m, rfl, t1.in_, hb1, hr1, hN, fun v2 B2 H2 ts wt b1 m1 hd2 it hbg2 t2 hr2 hv2 => ?_, fun i hi => kb1 i (hi _)⟩
  have hb2 := t2.off hb1 hp1
  have s2 := t1.trans t2
  have hgT : GoB r .thn (scOf N b) wt .thn (scOf N b1) := by
    have h := it.go hN .thn
    have hk : (if ts = [] then Kd.thn else nextK .thn) = .thn := by split <;> rfl
    rw [hk] at h
    exact h
  have kb2 : ∀ i, BadAt [.blk r .thn] (scOf N b1) (W.drop (at_ + we.length + wt.length)) i → Bt K E (at_ + we.length + wt.length + i) := fun i hi => by
    have := kb1 (wt.length + i) (by
      rw [hd2]
      exact gob_bad hgT hi)
    rw [← Nat.add_assoc] at this
    exact this
  refine ⟨(by show 0 ≤ sizeLine; decide), fun o no => ?_⟩
  have t3 := Stp.new (ms := [p]) (o := .tup []) s2.in_ no
  have t3n := Stp.new (ms := []) (o := .tup []) s2.in_ no
  have hr3 := hr2.stp t3n
  obtain ⟨dx2, hp2, _⟩ := id hr2
  have hp3 := t3n.fr _ _ (by simp) hp2
  have hb3 : (upd B2 o (.tup [])) p = none := t3n.off hb2 hp2
  have hee : ("" : Str) ∉ ([("end" : Str)] : List Str) := by decide +kernel
  refine ⟨_, rfl, p, dx2, _, rfl, hp3, rfl, L, p, W, N, at_ + we.length + wt.length, b1, m1, rfl, hr3, ?_⟩
  by_cases hx : wat W (at_ + we.length + wt.length) = "else"
  · have hx1 := wat_of hx kw_nn.2.2.2.2.2.2.1
    refine ⟨rfl, _, rfl, ite2 (fun _ => ?_) fun c => absurd (show decide ((.str (wat W (at_ + we.length + wt.length)) : V) = .str "else") = true by rw [hx]; exact decide_eq_true rfl) c⟩
    refine ⟨_, rfl, p, _, _, _, _, rfl, hp3, T.c_Reader, T.a_Reader_at, rfl, _, _, rfl, rfl, _, _, hp3, (by show 5 < 1000; decide), ?_⟩
    have s4 := (s2.trans t3).trans (Stp.put (ms := [p]) (o := .ins (ga K "Reader") dx2 (putF "at" (.int (((at_ + we.length + wt.length : Nat) : Int) + 1)) (rdF L.1 L.2 (at_ + we.length + wt.length) b1 m1))) t3.in_ hb3 (.head _))
    have hr5 := hr3.at hx1 hp3
    obtain ⟨dx5, hp5, _⟩ := id hr5
    have kb5 : ∀ i, BadAt [.blk r .emp] (scOf N b1) (W.drop (at_ + we.length + wt.length + 1)) i → Bt K E (at_ + we.length + wt.length + 1 + i) := fun i hi => by
      have := kb2 (i + 1) (by
        rw [drop_at hx1]
        exact step_more blk_else hi)
      rw [show at_ + we.length + wt.length + (i + 1) = at_ + we.length + wt.length + 1 + i by omega] at this
      exact this
    refine ⟨_, rfl, p, dx5, _, rfl, hp5, rfl, _, rfl, _, L, p, W, N, at_ + we.length + wt.length + 1, b1, m1, rfl, s4.in_, hb3, hr5, hN, fun v6 B6 H6 os wo b2 m2 hd6 io hbg6 t6 hr6 hv6 => ?_, fun i hi => kb5 i (hi _)⟩
    have hb6 := t6.off hb3 hp5
    obtain ⟨dx6, hp6, _⟩ := id hr6
    obtain ⟨ao, vso, rfl, so, dvo⟩ := dp_tup hv6
    have hlo := dp_all_len dvo
    refine ⟨_, rfl, _, .inr (.inl ⟨_, ex_t t6.in_ so, rfl⟩), ite2 (fun c => ?_) fun c => ?_⟩
    · have hos : os = [] := by
        cases vso with
        | nil => exact List.eq_nil_of_length_eq_zero hlo.symm
        | cons _ _ => exact absurd c (by show ¬ (!true) = true; decide)
      subst hos
      obtain ⟨rfl, rfl⟩ : wo = [] ∧ b2 = b1 := by cases io; exact ⟨rfl, rfl⟩
      refine ⟨_, rfl, p, _, _, _, _, rfl, hp6, T.c_Reader, T.a_Reader_at, rfl, _, rfl, fun d nd => kb5 0 (bad_head (by trivial) fun x rr hxr => ?_) d _ upd_same⟩
      have hw := wat_some (head_of hxr)
      rw [show at_ + we.length + wt.length + 1 + ([] : List Str).length = at_ + we.length + wt.length + 1 from rfl, hw] at hbg6
      exact blk_none hbg6 _ (fun z => by rcases z.2 with z | z <;> cases z) (fun z => by cases z.2)
    · have hos : os ≠ [] := fun z => by
        subst z
        cases vso with
        | nil => exact c rfl
        | cons _ _ => exact absurd hlo (by simp)
      have s6 := s4.trans t6
      have hgO : GoB r .emp (scOf N b1) wo .els (scOf N b2) := by
        have h := io.go hN .emp
        rw [if_neg hos] at h
        exact h
      refine ⟨_, rfl, p, dx6, _, rfl, hp6, rfl, (by show 1 ≤ sizeLine; decide), fun t nt => ?_⟩
      have t7 := Stp.cell (ms := []) (o := .tup [V.str "end"]) s6.in_ nt
      refine ⟨_, L, p, t, W, N, ["end"], at_ + we.length + wt.length + 1 + wo.length, b2, m2, rfl, t7.in_, hb6, hr6.stp t7, .inr (SqT.of upd_same), hee, fun x H8 hx8 hxe t8 hr8 => ?_, fun hno => ?_⟩
      · have ex : x = "end" := by simpa using hxe
        subst ex
        have s8 := (s6.trans t7.nil).trans t8
        refine ⟨_, rfl, _, rfl, _, rfl, (by show 4 ≤ sizeLine; decide), fun u nu => ?_⟩
        have t9 := Stp.new (ms := []) (o := .tup [V.str "if", v1, v2, .ref ao]) s8.in_ nu
        have hew : elseW os wo = ("else" : Str) :: wo := if_neg hos
        have hl : at_ + we.length + wt.length + 1 + wo.length + 1 = at_ + (we ++ wt ++ elseW os wo ++ [("end" : Str)]).length := by rw [hew]; simp; omega
        have hd8 := drop_at hx8
        rw [hl] at hr8 hd8
        refine k _ _ _ d ts os we wt wo b1 m1 b2 m2 _ ?_ rfl ie it io (s8.trans t9.nil) (hr8.stp t9) (.tup (SqT.of upd_same) (.cons (.str _) (.cons (dp_mono ((t2.base.trans (t3.base.trans (t6.base.trans (t7.base.trans t8.base)))).trans t9.base) hv1) (.cons (dp_mono ((t3.base.trans (t6.base.trans (t7.base.trans t8.base))).trans t9.base) hv2) (.cons (dp_mono (t7.base.trans (t8.base.trans t9.base)) hv6) .nil))))) nofun
        rw [hd1, hd2, drop_at hx1, hd6, hd8, hew]
        simp
      · have := kb5 (wo.length + 0) (by
          rw [hd6]
          refine gob_bad hgO (bad_head (by trivial) fun x rr hxr => ?_)
          have hw := wat_some (head_of hxr)
          rw [hw] at hbg6
          exact blk_none hbg6 _ (fun z => hno x (head_of hxr) (by rw [z.1]; exact .head _)) (fun z => by cases z.2))
        exact this
  · refine ⟨rfl, _, rfl, ite2 (fun c => absurd (V.str.inj (of_decide_eq_true c)) hx) fun _ => ?_⟩
    have s6 := s2.trans t3
    refine ⟨_, rfl, p, dx2, _, rfl, hp3, rfl, (by show 1 ≤ sizeLine; decide), fun t nt => ?_⟩
    have t7 := Stp.cell (ms := []) (o := .tup [V.str "end"]) s6.in_ nt
    refine ⟨_, L, p, t, W, N, ["end"], at_ + we.length + wt.length, b1, m1, rfl, t7.in_, hb3, hr3.stp t7, .inr (SqT.of upd_same), hee, fun x H8 hx8 hxe t8 hr8 => ?_, fun hno => ?_⟩
    · have ex : x = "end" := by simpa using hxe
      subst ex
      have s8 := (s6.trans t7.nil).trans t8
      refine ⟨_, rfl, _, rfl, _, rfl, (by show 4 ≤ sizeLine; decide), fun u nu => ?_⟩
      have t9 := Stp.new (ms := []) (o := .tup [V.str "if", v1, v2, .ref o]) s8.in_ nu
      have hl : at_ + we.length + wt.length + 1 = at_ + (we ++ wt ++ elseW ([] : List PyData) [] ++ [("end" : Str)]).length := by simp [elseW]; omega
      have hd8 := drop_at hx8
      rw [hl] at hr8 hd8
      refine k _ _ _ d ts [] we wt [] b1 m1 b1 m1 _ ?_ rfl ie it .nil (s8.trans t9.nil) (hr8.stp t9) (.tup (SqT.of upd_same) (.cons (.str _) (.cons (dp_mono ((t2.base.trans (t3.base.trans (t7.base.trans t8.base))).trans t9.base) hv1) (.cons (dp_mono ((t3.base.trans (t7.base.trans t8.base)).trans t9.base) hv2) (.cons (.tup (SqT.of (t9.base _ _ (t8.base _ _ (t7.base _ _ upd_same)))) .nil) .nil))))) nofun
      rw [hd1, hd2, hd8]
      simp [elseW]
    · refine kb2 0 (bad_head (by trivial) fun x rr hxr => ?_)
      have hw := wat_some (head_of hxr)
      rw [hw] at hbg2 hx
      exact blk_none hbg2 _ (fun z => hno x (head_of hxr) (by rw [z.1]; exact .head _)) (fun z => hx z.1)
theorem fn_all (T : Txt K mg) : ∀ r, Fn P w K mg base (9 + 3 * r + 1) (ma K (ga K "Reader") "statement") (spStmG K r) ∧ Fn P w K mg base (9 + 3 * r + 1 + 1) (ma K (ga K "Reader") "block") (spBlkG K r) ∧ Fn P w K mg base (9 + 3 * r + 1 + 1 + 1) (ma K (ga K "Reader") "choice") (spChG K r)
  | 0 => by
    have h1 := fn_stm1 (w := w) (base := base) T 0 (fun _ _ _ _ _ _ _ _ _ _ _ h => h.elim)
    have h2 := fn_blk1 T 0 h1
    exact ⟨h1, h2, fn_ch1 T 0 h2⟩
  | r + 1 => by
    have h0 := (fn_all T r).2.2
    have h1 := fn_stm1 T (r + 1) h0
    have h2 := fn_blk1 T (r + 1) h1
    exact ⟨h1, h2, fn_ch1 T (r + 1) h2⟩
theorem fn_Reader_block (T : Txt K mg) : Fn P w K mg base 23 (ma K (ga K "Reader") "block") (spBlkG K 4) := (fn_all T 4).2.1
end
end LL
namespace LL
open PySem PySem.Spec PyProof.Rows L2 He Evl
section
variable {w : World} {K : PySem.W.Frag} {mg : Str → Option Value} {base : Heap}
/-- a list or a tuple of data -/
def SqD (K : PySem.W.Frag) (B H : Hp) (a : Addr) (ds : List PyData) : Prop := ∃ vs, (SqL K H a vs ∨ SqT K B a vs) ∧ DpAll K B vs ds
def gmF (v1 v2 : V) : List (Str × V) := [("variables", v1), ("block", v2)]
def spGI (K : PySem.W.Frag) : Sp := fun vs H Q _ => ∃ (B : Hp) (x dx a1 a2 : Addr) (d1 d2 : List PyData), vs = [.ref x, .ref a1, .ref a2] ∧ Ex B H ∧ B x = none ∧ H x = some (.ins (ga K "Game") dx []) ∧ SqD K B H a1 d1 ∧ SqD K B H a2 d2 ∧
  ∀ (B2 H2 : Hp) (v1 v2 : V), Stp [x] B H B2 H2 → H2 x = some (.ins (ga K "Game") dx (gmF v1 v2)) → Dp K B2 v1 (.tuple d1) → Dp K B2 v2 (.tuple d2) → Q .non H2
theorem sqd_stp {ms : List Addr} {B H B2 H2 : Hp} {a : Addr} {ds : List PyData} (h : SqD K B H a ds) (s : Stp ms B H B2 H2) (n : a ∉ ms) : SqD K B2 H2 a ds := by
  obtain ⟨vs, h1, h2⟩ := h
  refine ⟨vs, ?_, dpa_mono s.base h2⟩
  rcases h1 with h1 | h1
  · rcases h1 with (h1 | ⟨u, h1⟩) | h1
    · exact .inl (.inl (.inl (s.fr _ _ n h1)))
    · exact .inl (.inl (.inr ⟨u, s.fr _ _ n h1⟩))
    · exact .inl (.inr h1)
  · exact .inr (ex_t s.base h1)
theorem sqd_put {B H : Hp} {a x C dx : Addr} {fs : List (Str × V)} {o : HO} {ds : List PyData} (h : SqD K B H a ds) (hx : H x = some (.ins C dx fs)) : SqD K B (upd H x o) a ds := by
  obtain ⟨vs, h1, h2⟩ := h
  refine ⟨vs, ?_, h2⟩
  rcases h1 with h1 | h1
  · rcases h1 with (h1 | ⟨u, h1⟩) | h1
    · exact .inl (.inl (.inl (by rw [upd_ne (fun z => by rw [z, hx] at h1; cases h1)]; exact h1)))
    · exact .inl (.inl (.inr ⟨u, by rw [upd_ne (fun z => by rw [z, hx] at h1; cases h1)]; exact h1⟩))
    · exact .inl (.inr h1)
  · exact .inr h1
theorem fn_Game_init (T : Txt K mg) : Fn P w K mg base 1 (ma K (ga K "Game") "__init__") (spGI K) := by
  refine fn_def T.d_Game_init sc_Game_init (fun _ _ _ _ _ _ us hl => match us, hl with | [_, _, _], _ => rfl) (fun vs H Q E h => ?_) (fun cdv A outer s H vs Q E hr h => ?_)
  · obtain ⟨B, x, dx, a1, a2, d1, d2, rfl, _⟩ := h
    rfl
  obtain ⟨B, x, dx, a1, a2, d1, d2, rfl, e, hb, hx, h1, h2, k⟩ := h
  have nd := sc_Game_init.nd
  refine ⟨_, Evl.pss_cut (ps_fld (pv 0) (pe_callTy call_tuple_of (by rfl) T.f_tuple (by decide +kernel) (pa_cons (pv 1) pa_nil)) rfl)
      (pss_one (ps_fld (pv 0) (pe_callTy call_tuple_of (by rfl) T.f_tuple (by decide +kernel) (pa_cons (pv 2) pa_nil)) rfl)), ?_⟩
  refine ⟨fun σ H' => ∃ (v1 : V) (B1 : Hp), Stp [x] B H B1 H' ∧ H' x = some (.ins (ga K "Game") dx [("variables", v1)]) ∧ Dp K B1 v1 (.tuple d1) ∧ B1 x = none ∧ SqD K B1 H' a2 d2 ∧ σ = [some (.ref x), some (.ref a1), some (.ref a2)], ?_, ?_⟩
  · obtain ⟨vs1, hs, hd⟩ := h1
    rcases hs with hs | hs
    · refine ⟨_, rfl, a1, vs1, rfl, .inl ⟨hs, fun l nl => ?_⟩⟩
      have t1 := Stp.new (ms := []) (o := .tup vs1) e nl
      have hx1 := t1.fr x _ (by simp) hx
      have hb1 := t1.off hb hx
      have s2 := t1.nil.trans (Stp.put (ms := [x]) (o := .ins (ga K "Game") dx (putF "variables" (.ref l) [])) t1.in_ hb1 (.head _))
      exact ⟨_, rfl, x, _, dx, _, rfl, hx1, T.c_Game, T.a_Game_variables, (by show 0 < 1000; decide), .ref l, _, s2, upd_same, .tup (SqT.of upd_same) (dpa_mono t1.base hd), hb1, sqd_put (sqd_stp h2 t1 (by simp)) hx1, rfl⟩
    · refine ⟨_, rfl, a1, vs1, rfl, .inr ⟨ex_t e hs, ?_⟩⟩
      have s2 := Stp.put (ms := [x]) (o := .ins (ga K "Game") dx (putF "variables" (.ref a1) [])) e hb (.head _)
      exact ⟨_, rfl, x, _, dx, _, rfl, hx, T.c_Game, T.a_Game_variables, (by show 0 < 1000; decide), .ref a1, _, s2, upd_same, .tup hs hd, hb, sqd_put h2 hx, rfl⟩
  rintro σ H1 ⟨v1, B1, s1, hx1, hd1, hb1, h21, rfl⟩
  obtain ⟨vs2, hs, hd⟩ := h21
  rcases hs with hs | hs
  · refine ⟨_, rfl, a2, vs2, rfl, .inl ⟨hs, fun l nl => ?_⟩⟩
    have t1 := Stp.new (ms := []) (o := .tup vs2) s1.in_ nl
    have hx2 := t1.fr x _ (by simp) hx1
    have hb2 := t1.off hb1 hx1
    have s2 := (s1.trans t1.nil).trans (Stp.put (ms := [x]) (o := .ins (ga K "Game") dx (putF "block" (.ref l) [("variables", v1)])) t1.in_ hb2 (.head _))
    exact ⟨_, rfl, x, _, dx, _, rfl, hx2, T.c_Game, T.a_Game_block, (by show 1 < 1000; decide), k _ _ v1 (.ref l) s2 upd_same (dp_mono t1.base hd1) (.tup (SqT.of upd_same) (dpa_mono t1.base hd))⟩
  · refine ⟨_, rfl, a2, vs2, rfl, .inr ⟨ex_t s1.in_ hs, ?_⟩⟩
    have s2 := s1.trans (Stp.put (ms := [x]) (o := .ins (ga K "Game") dx (putF "block" (.ref a2) [("variables", v1)])) s1.in_ hb1 (.head _))
    exact ⟨_, rfl, x, _, dx, _, rfl, hx1, T.c_Game, T.a_Game_block, (by show 1 < 1000; decide), k _ _ v1 (.ref a2) s2 upd_same hd1 (.tup hs hd)⟩
/-- a Game with its parts -/
def GameAt (K : PySem.W.Frag) (H : Hp) (g : V) (d1 d2 : List PyData) : Prop := ∃ (a dx : Addr) (v1 v2 : V), g = .ref a ∧ H a = some (.ins (ga K "Game") dx (gmF v1 v2)) ∧ Dp K H v1 (.tuple d1) ∧ Dp K H v2 (.tuple d2)
theorem GameAt.mono {H H2 : Hp} {g : V} {d1 d2 : List PyData} (h : GameAt K H g d1 d2) (e : Ex H H2) : GameAt K H2 g d1 d2 := by
  obtain ⟨a, dx, v1, v2, h1, h2, h3, h4⟩ := h
  exact ⟨a, dx, v1, v2, h1, e _ _ h2, dp_mono e h3, dp_mono e h4⟩
/-- Game(..) -/
theorem mk_game {B H : Hp} {a1 a2 : Addr} {d1 d2 : List PyData} {Q : VK} {E : XK} (e : Ex B H) (h1 : SqD K B H a1 d1) (h2 : SqD K B H a2 d2) (k : ∀ (g : V) (B2 H2 : Hp), Stp [] B H B2 H2 → GameAt K B2 g d1 d2 → Q g H2) :
    ∀ x dx, H x = none → H dx = none → dx ≠ x → spGI K [.ref x, .ref a1, .ref a2] (upd (upd H dx (.own x)) x (.ins (ga K "Game") dx [])) (fun v H2 => v = .non ∧ Q (.ref x) H2) E := by
  intro x dx nx ndx ne
  have t1 := Stp.new (ms := []) (o := .own x) e ndx
  have nx1 : (upd H dx (.own x)) x = none := by rw [upd_ne ne.symm]; exact nx
  have t2 := Stp.cell (ms := []) (o := .ins (ga K "Game") dx []) t1.in_ nx1
  have s2 := t1.trans t2
  refine ⟨_, x, dx, a1, a2, d1, d2, rfl, s2.in_, ex_none t1.in_ nx1, upd_same, sqd_stp h1 s2 (by simp), sqd_stp h2 s2 (by simp), fun B3 H3 v1 v2 s3 hx hd1 hd2 => ⟨rfl, ?_⟩⟩
  have s4 := Stp.close t1.in_ nx1 s3 hx
  have hb3 : B3 x = none := s3.off (ex_none t1.in_ nx1) upd_same
  have kk := (Stp.keep s3.in_ hx hb3).1
  exact k _ _ _ (t1.trans s4) ⟨x, dx, v1, v2, rfl, upd_same, dp_mono kk hd1, dp_mono kk hd2⟩
end
end LL
namespace LL
open PySem PySem.Spec PyProof.Rows L2 He Evl
/-- a word that a text may hold -/
structure WG (x : Str) : Prop where
  l : x.length ≤ 22
  s : 32 ∉ x.cps.toList
theorem txtG_split {W : List Str} (hne : W ≠ []) (h : ∀ x ∈ W, WG x) : Txt.split (txt W) " " = W := by
  have e : (" " : Str) = SX.S [32] := rfl
  rw [txt_S, e, SX.split_S (by decide) (by decide), SX.spl_join (by simpa using hne) ?_, map_S]
  intro p hp
  obtain ⟨x, hx, rfl⟩ := List.mem_map.mp hp
  exact (h x hx).s
theorem txtG_len {W : List Str} (h : ∀ x ∈ W, WG x) (hl : W.length ≤ 600000) : (txt W).length ≤ 15000000 := by
  rw [txt_S, SX.S_len]
  refine Nat.le_trans (joinL_len _ 22 ?_) (by rw [List.length_map]; omega)
  intro p hp
  obtain ⟨x, hx, rfl⟩ := List.mem_map.mp hp
  rw [len_S]
  exact (h x hx).l
theorem txtG_ne {W : List Str} (hne : W ≠ []) (h1 : W ≠ [("" : Str)]) : txt W ≠ "" := by
  intro z
  have hz : (txt W).length = 0 := by rw [z]; rfl
  rw [txt_S, SX.S_len] at hz
  match W, hne, h1, hz with
  | [p], _, h1, hz =>
    have hz : p.cps.toList.length = 0 := hz
    have : p = "" := TL.ext_tl (by show p.cps.toList = _; rw [List.eq_nil_of_length_eq_zero hz]; rfl)
    exact h1 (by rw [this])
  | p :: q :: r, _, _, hz =>
    have hz : (p.cps.toList ++ ([32] ++ TL.joinL [32] ((q :: r).map fun x : Str => x.cps.toList))).length = 0 := hz
    rw [List.length_append, List.length_append] at hz
    simp at hz
section
variable {w : World} {K : PySem.W.Frag} {mg : Str → Option Value} {base : Heap}
def spRInitG (K : PySem.W.Frag) : Sp := fun vs H Q _ => ∃ (B : Hp) (p dx : Addr) (W : List Str), vs = [.ref p, .str (txt W)] ∧ Ex B H ∧ B p = none ∧ H p = some (.ins (ga K "Reader") dx []) ∧ (∀ x ∈ W, WG x) ∧ W.length ≤ 600000 ∧ W ≠ [("" : Str)] ∧
  ∀ (B2 H2 : Hp) (lw ln : Addr), Stp [p] B H B2 H2 → Rw K p (lw, ln) W [] 0 0 0 H2 → B2 ln = none → ln ≠ lw → B2 p = none → H ln = none → Q .non H2
theorem fn_Reader_init (T : Txt K mg) : Fn P w K mg base 1 (ma K (ga K "Reader") "__init__") (spRInitG K) := by
  refine fn_def T.d_Reader_init sc_Reader_init (fun _ _ _ _ _ _ us hl => match us, hl with | [_, _], _ => rfl) (fun vs H Q E h => ?_) (fun cdv A outer s H vs Q E hr h => ?_)
  · obtain ⟨B, p, dx, W, rfl, _⟩ := h
    rfl
  obtain ⟨B, p, dx, W, rfl, e, hb, hp, hW, hl, hW1, k⟩ := h
  have nd := sc_Reader_init.nd
  refine ⟨_, Evl.pss_cut (ps_fld (pv 0) (pe_ifExp (pt_cmpR op_ne (pv 1) (pe_str) (nomark _)) (pe_split (pv 1) (pe_str)) (pe_lst pa_nil)) rfl)
      (pss_cons (ps_fld (pv 0) (pe_int) rfl)
      (pss_cons (ps_fld (pv 0) (pe_lst pa_nil) rfl)
      (pss_cons (ps_fld (pv 0) (pe_int) rfl)
      (pss_one (ps_fld (pv 0) (pe_int) rfl))))), ?_⟩
  refine ⟨fun σ H' => ∃ (lw : Addr) (B1 : Hp), Stp [p] B H B1 H' ∧ H' p = some (.ins (ga K "Reader") dx [("words", .ref lw)]) ∧ H' lw = some (.lst (W.map V.str)) ∧ B1 p = none ∧ σ = [some (.ref p), some (.str (txt W))], ?_, ?_⟩
  · have fin : ∀ l, H l = none → (∃ v, [some (V.ref p), some (.str (txt W))][0]? = some (some v) ∧ ∃ a C dx' fs, v = .ref a ∧ (upd H l (.lst (W.map V.str))) a = some (.ins C dx' fs) ∧ Cls K C ∧ NoAttr K C "words" ∧ fs.length < 1000 ∧
        ∃ (lw : Addr) (B1 : Hp), Stp [p] B H B1 (upd (upd H l (.lst (W.map V.str))) a (.ins C dx' (putF "words" (.ref l) fs))) ∧ (upd (upd H l (.lst (W.map V.str))) a (.ins C dx' (putF "words" (.ref l) fs))) p = some (.ins (ga K "Reader") dx [("words", .ref lw)]) ∧ (upd (upd H l (.lst (W.map V.str))) a (.ins C dx' (putF "words" (.ref l) fs))) lw = some (.lst (W.map V.str)) ∧ B1 p = none ∧ [some (V.ref p), some (.str (txt W))] = [some (.ref p), some (.str (txt W))]) := by
      intro l nl
      have t1 := Stp.new (ms := []) (o := .lst (W.map V.str)) e nl
      have hp1 := t1.fr p _ (by simp) hp
      have hb1 := t1.off hb hp
      have s2 := t1.nil.trans (Stp.put (ms := [p]) (o := .ins (ga K "Reader") dx (putF "words" (.ref l) [])) t1.in_ hb1 (.head _))
      exact ⟨_, rfl, p, _, dx, _, rfl, hp1, T.c_Reader, T.a_Reader_words, (by show 0 < 1000; decide), l, _, s2, upd_same, by rw [upd_ne (lst_ne hp1 upd_same)]; exact upd_same, hb1, rfl⟩
    refine ⟨_, rfl, rfl, _, rfl, ite2 (fun c => ?_) fun c => ?_⟩
    · have hne : W ≠ [] := fun z => by
        rw [z, txt_nil] at c
        exact absurd c (by decide)
      have hlen := txtG_len hW hl
      refine ⟨_, rfl, ⟨_, rfl⟩, txt W, " ", rfl, rfl, rfl, (by have : (16000000 : Nat) ≤ sizeLine := by decide
                                                               omega), fun l nl => ?_⟩
      rw [txtG_split hne hW]
      exact fin l nl
    · have hne : W = [] := Classical.byContradiction fun zz => absurd (show (!decide ((.str (txt W) : V) = .str "")) = true by rw [decide_eq_false (fun z => txtG_ne zz hW1 (V.str.inj z))]; rfl) c
      refine ⟨(by show 0 ≤ sizeLine; decide), fun l nl => ?_⟩
      have := fin l nl
      rw [hne] at this ⊢
      exact this
  rintro σ H1 ⟨lw, B1, s1, hp1, hw1, hb1, rfl⟩
  refine ⟨_, rfl, p, _, dx, _, rfl, hp1, T.c_Reader, T.a_Reader_at, (by show 1 < 1000; decide), ?_⟩
  have hwp : lw ≠ p := lst_ne hp1 hw1
  have s2 := s1.trans (Stp.put (ms := [p]) (o := .ins (ga K "Reader") dx (putF "at" (.int 0) [("words", .ref lw)])) s1.in_ hb1 (.head _))
  refine ⟨(by show 0 ≤ sizeLine; decide), fun ln nl => ?_⟩
  have hp2 : (upd H1 p (.ins (ga K "Reader") dx (putF "at" (.int 0) [("words", .ref lw)]))) p = _ := upd_same
  have hw2 : (upd H1 p (.ins (ga K "Reader") dx (putF "at" (.int 0) [("words", .ref lw)]))) lw = some (.lst (W.map V.str)) := by rw [upd_ne hwp]; exact hw1
  have t3 := Stp.cell (ms := []) (o := .lst []) s2.in_ nl
  have s3 := s2.trans t3.nil
  have hp3 := t3.fr p _ (by simp) hp2
  have hw3 := t3.fr lw _ (by simp) hw2
  have hnp : ln ≠ p := fun z => by rw [z, hp2] at nl; cases nl
  have hnw : ln ≠ lw := fun z => by rw [z, hw2] at nl; cases nl
  refine ⟨_, rfl, p, _, dx, _, rfl, hp3, T.c_Reader, T.a_Reader_names, (by show 2 < 1000; decide), ?_⟩
  refine ⟨_, rfl, p, _, dx, _, rfl, upd_same, T.c_Reader, T.a_Reader_branches, (by show 3 < 1000; decide), ?_⟩
  refine ⟨_, rfl, p, _, dx, _, rfl, upd_same, T.c_Reader, T.a_Reader_moves, (by show 4 < 1000; decide), ?_⟩
  rw [upd_twice, upd_twice]
  have s4 := s3.trans (Stp.put (ms := [p]) (o := .ins (ga K "Reader") dx (rdF lw ln 0 0 0)) s3.in_ hb1 (.head _))
  have hn0 : H ln = none := by
    cases hh : H ln with
    | none => rfl
    | some o => exact absurd nl (s2.al ln (by rw [hh]; exact fun z => nomatch z))
  refine k B1 _ lw ln s4 ⟨dx, upd_same, ?_, ?_, Nat.zero_le _, by omega, fun x hx => Nat.le_trans (hW x hx).l (by decide)⟩ (ex_none s2.in_ nl) hnw hb1 hn0
  · show (upd _ p _) lw = _
    rw [upd_ne hwp]
    exact hw3
  · show (upd _ p _) ln = _
    rw [upd_ne hnp]
    exact upd_same
theorem Rw.put {p c : Addr} {L : Addr × Addr} {W N : List Str} {a b m : Nat} {H : Hp} {o : HO} (h : Rw K p L W N a b m H) (h0 : c ≠ p) (h1 : c ≠ L.1) (h2 : c ≠ L.2) : Rw K p L W N a b m (upd H c o) := by
  obtain ⟨dx, g1, g2, g3, g4⟩ := h
  exact ⟨dx, by rw [upd_ne h0.symm]; exact g1, by rw [upd_ne h1.symm]; exact g2, by rw [upd_ne h2.symm]; exact g3, g4⟩
theorem Rw.names {p : Addr} {L : Addr × Addr} {W N N2 : List Str} {a b m : Nat} {H : Hp} (h : Rw K p L W N a b m H) (h1 : L.2 ≠ L.1) : Rw K p L W N2 a b m (upd H L.2 (.lst (N2.map V.str))) := by
  obtain ⟨dx, g1, g2, g3, g4⟩ := h
  exact ⟨dx, by rw [upd_ne (lst_ne g1 g3).symm]; exact g1, by rw [upd_ne h1.symm]; exact g2, upd_same, g4⟩
theorem Rw.wl {p : Addr} {L : Addr × Addr} {W N : List Str} {a b m : Nat} {H : Hp} (h : Rw K p L W N a b m H) (j : Nat) : (wat W j).length ≤ 1000 := by
  obtain ⟨_, _, _, _, _, _, hlen⟩ := h
  unfold wat
  cases h : W[j]? with
  | none => exact (show 0 ≤ 1000 by decide)
  | some x => exact hlen x (List.mem_of_getElem? h)
def spGameG (K : PySem.W.Frag) : Sp := fun vs H Q E => ∃ (B : Hp) (L : Addr × Addr) (p : Addr) (W : List Str), vs = [.ref p] ∧ Ex B H ∧ B p = none ∧ B L.2 = none ∧ L.2 ≠ L.1 ∧ Rw K p L W [] 0 0 0 H ∧
  (∀ (g : V) (B2 H2 : Hp) (xs : List (Str × Int)) (ds : List PyData) (ws : List Str), W = gW xs ws → PaG xs ds ws → Stp [p, L.2] B H B2 H2 → GameAt K B2 g (xs.map varD) ds → Q g H2) ∧
  (∀ i, BadAt [.head] ⟨[], 10⟩ W i → Bt K E i)
theorem fn_Reader_game (T : Txt K mg) : Fn P w K mg base 25 (ma K (ga K "Reader") "game") (spGameG K) := by
  refine fn_def T.d_Reader_game sc_Reader_game (fun _ _ _ _ _ _ us hl => match us, hl with | [_], _ => rfl) (fun vs H Q E h => ?_) (fun cdv A outer s H vs Q E hr h => ?_)
  · obtain ⟨B, L, p, W, rfl, _⟩ := h
    rfl
  obtain ⟨B, L, p, W, rfl, e, hb, hbn, hnw, hr0, k, kb⟩ := h
  have nd := sc_Reader_game.nd
  refine ⟨_, pss_cons (ps_set (i := 1) nd rfl (by first | exact Or.inl rfl | exact Or.inr rfl) (pe_lst pa_nil))
      (pss_cons (ps_while (passes_of rfl) (PW.pt (pw_and (pt_cmpR op_eq (pe_methR0 (pv 0) T.c_Reader T.t_Reader_word (fn_Reader_word T) (hr.mono (by decide)) pc) (pe_str) (nomark _)) (pw_and1 (pt_cmpR op_lt (pe_callB call_len_seq (by rfl) T.f_len PySem.boot_len (pa_cons (pv 1) pa_nil)) (pe_gi T.i_MOST_NAMES) (nomark _))))) (pss_cons (ps_fldaug (pv 0) (pe_int) in_add)
      (pss_cons (ps_set (i := 2) nd rfl (by first | exact Or.inl rfl | exact Or.inr rfl) (pe_methR0 (pv 0) T.c_Reader T.t_Reader_word (fn_Reader_word T) (hr.mono (by decide)) pc))
      (pss_cons (ps_if (PW.pt (pw_or (pt_not (pt_val (pe_fn T.d_is_name (fn_is_nameG T) (hr.mono (by decide)) T.g_is_name pc (pa_cons (pv 2) pa_nil)))) (pw_or1 (pt_cmpR op_in_seq (pv 2) (pe_fld (pv 0) rfl) rfl)))) (pss_one (ps_raise rfl (takes_of rfl rfl rfl rfl) (pmk_BadText T (hr.mono (by decide)) (pa_cons (pe_fld (pv 0) rfl) pa_nil)))) (pss_nil))
      (pss_cons (ps_fldaug (pv 0) (pe_int) in_add)
      (pss_cons (ps_expr (pe_bm PySem.F.plainAttrs_list PySem.F.slot_list_append PySem.F.type_list_append mt_append (pv 1) (pa_cons (pe_tup (pa_cons (pv 2) (pa_cons (pe_methR (pv 0) T.c_Reader T.t_Reader_take_number (fn_Reader_take_number T) (hr.mono (by decide)) pc (pa_cons (pe_int) (pa_cons (pe_gi T.i_GREATEST) pa_nil))) pa_nil))) pa_nil)))
      (pss_one (ps_expr (pe_bm PySem.F.plainAttrs_list PySem.F.slot_list_append PySem.F.type_list_append mt_append (pe_fld (pv 0) rfl) (pa_cons (pv 2) pa_nil))))))))))
      (pss_cons (ps_set (i := 3) nd rfl (by first | exact Or.inl rfl | exact Or.inr rfl) (pe_methR (pv 0) T.c_Reader T.t_Reader_block (fn_Reader_block T) (hr.mono (by decide)) pc (pa_cons (pe_gi T.i_DEEPEST_IF) pa_nil)))
      (pss_cons (ps_if (pt_cmpR op_lt (pe_fld (pv 0) rfl) (pe_callB call_len_seq (by rfl) T.f_len PySem.boot_len (pa_cons (pe_fld (pv 0) rfl) pa_nil)) (nomark _)) (pss_one (ps_raise rfl (takes_of rfl rfl rfl rfl) (pmk_BadText T (hr.mono (by decide)) (pa_cons (pe_fld (pv 0) rfl) pa_nil)))) (pss_nil))
      (pss_one (ps_ret (StX.pe_makeR T.m_Game (fn_Game_init T) (hr.mono (by decide)) rfl T.g_Game pc (pa_cons (pv 1) (pa_cons (pv 3) pa_nil)))))))), ?_⟩
  refine ⟨(by show 0 ≤ sizeLine; decide), fun c nc => ?_⟩
  obtain ⟨dx, hp, hw, hn, _⟩ := id hr0
  have hc1 : c ≠ L.1 := fun z => by rw [← z, nc] at hw; cases hw
  have hc2 : c ≠ L.2 := fun z => by rw [← z, nc] at hn; cases hn
  have hcp : c ≠ p := fun z => by rw [← z, nc] at hp; cases hp
  have hpn : L.2 ≠ p := lst_ne hp hn
  clear hp hw hn
  have hcB := ex_none e nc
  have e0 : Ex B (upd H c (.lst [])) := Ex.mut e hcB
  dsimp only [gName, tSeq]
  refine while_by (fun σ H' => ∃ (xs : List (Str × Int)) (B' : Hp) (vs : List V) (v2 : Option V), xs.length ≤ 5 ∧ (∀ x ∈ xs, IsName x.1 ∧ 1 ≤ x.2 ∧ x.2 ≤ 65535) ∧ (xs.map Prod.fst).Nodup ∧ W = varW xs ++ W.drop (varW xs).length ∧ Stp [c, p, L.2] B (upd H c (.lst [])) B' H' ∧ H' c = some (.lst vs) ∧ DpAll K B' vs (xs.map varD) ∧ Rw K p L W (xs.map Prod.fst) (varW xs).length 0 0 H' ∧ B' p = none ∧ B' L.2 = none ∧
      σ = [some (.ref p), some (.ref c), v2, none])
    (fun _ H' => match H' c with | some (.lst xs) => 10 - xs.length | _ => 0) ⟨[], B, [], none, Nat.zero_le _, (fun _ h => nomatch h), List.nodup_nil, rfl, Stp.refl e0, upd_same, .nil, hr0.put hcp hc1 hc2, hb, hbn, rfl⟩ ?_ ?_
  · rintro σ H1 ⟨xs, B1, vs, v2, hi, hok, hnd, hWe, s1, hc, hd, hr1, hb1, hbn1, rfl⟩
    have hvl := dp_all_len hd
    rw [List.length_map] at hvl
    have hN : ∀ x ∈ xs.map Prod.fst, IsName x := fun x hx => by
      obtain ⟨y, hy, rfl⟩ := List.mem_map.mp hx
      exact (hok y hy).1
    have hgo := vars_go xs [] 10 (by simpa using hi) hok (by rw [List.nil_append]; exact hnd)
    rw [List.nil_append] at hgo
    generalize hat : (varW xs).length = aa at hWe hr1
    have kb1 : ∀ i, BadAt [.head] ⟨xs.map Prod.fst, 10⟩ (W.drop aa) i → Bt K E (aa + i) := fun i hi => by
      have := kb ((varW xs).length + i) (by
        rw [hWe]
        exact goh_bad hgo hi)
      rw [hat] at this
      exact this
    obtain ⟨dx, hp, hw, hn, ha, hl⟩ := id hr1
    refine ⟨_, rfl, p, dx, _, rfl, hp, rfl, L, p, W, xs.map Prod.fst, aa, 0, 0, rfl, hr1, ?_⟩
    by_cases hv : wat W aa = "var" ∧ xs.length < 5
    · -- one more
      obtain ⟨hv, h5⟩ := hv
      have hx0 := wat_of hv kw_nn.2.2.2.2.2.2.2.2.2
      rw [hv]
      refine ⟨rfl, _, rfl, ite2 (fun _ => ?_) fun c => absurd rfl c⟩
      refine ⟨_, rfl, c, _, rfl, .inl (SqL.of hc), _, _, rfl, rfl, _, rfl, ite2 (fun _ => ?_) fun c => absurd (decide_eq_true (by omega)) c⟩
      refine ⟨_, rfl, p, _, _, _, _, rfl, hp, T.c_Reader, T.a_Reader_at, rfl, _, _, rfl, rfl, _, _, hp, (by show 5 < 1000; decide), ?_⟩
      have s2 := s1.trans (Stp.put (ms := [c, p, L.2]) (o := .ins (ga K "Reader") dx (putF "at" (.int ((aa : Int) + 1)) (rdF L.1 L.2 aa 0 0))) s1.in_ hb1 (by simp))
      have hr2 := hr1.at hx0 hp
      have hc_2 : (upd H1 p (.ins (ga K "Reader") dx (putF "at" (.int ((aa : Int) + 1)) (rdF L.1 L.2 aa 0 0)))) c = _ := (upd_ne hcp).trans hc
      have kb2 : ∀ i, BadAt [.new, .num 1 65535, .head] ⟨xs.map Prod.fst, 10⟩ (W.drop (aa + 1)) i → Bt K E (aa + 1 + i) := fun i hi => by
        have := kb1 (i + 1) (by
          rw [drop_at hx0]
          exact step_more (step_var (by show (xs.map Prod.fst).length < 5; rw [List.length_map]; exact h5)) hi)
        rw [show aa + (i + 1) = aa + 1 + i by omega] at this
        exact this
      obtain ⟨dx2, hp2, hw2, hn2, _⟩ := id hr2
      refine ⟨_, rfl, p, dx2, _, rfl, hp2, rfl, L, p, W, xs.map Prod.fst, aa + 1, 0, 0, rfl, hr2, ?_⟩
      have badName : ¬ (wat W (aa + 1) ∉ xs.map Prod.fst ∧ IsName (wat W (aa + 1))) → Bt K E (aa + 1) := fun hno => kb2 0 (bad_app (s := [.new]) (s2 := [.num 1 65535, .head]) (bad_head (by trivial) fun x r hxr => by
        rw [step_new]
        refine if_neg ?_
        rw [wat_some (head_of hxr)] at hno
        exact hno))
      refine ⟨_, rfl, wat W (aa + 1), rfl, hr2.wl _, fun hnm H3 x3 => ?_, fun hnm H3 x3 => ?_⟩
      rotate_left
      · refine ⟨_, rfl, iteT ?_⟩
        exact ⟨_, rfl, p, _, _, _, _, rfl, x3 _ _ hp2, T.c_Reader, T.a_Reader_at, rfl, _, rfl, fun d nd => badName (fun z => hnm z.2) d _ upd_same⟩
      refine ⟨_, rfl, iteF ?_⟩
      refine ⟨_, rfl, _, rfl, p, _, _, _, _, rfl, x3 _ _ hp2, T.c_Reader, T.a_Reader_names, rfl, L.2, _, rfl, .inl (SqL.of (x3 _ _ hn2)), rfl, flat_strs _, _, rfl, ite2 (fun cc => ?_) fun cc => ?_⟩
      · have c' : inV (.str (wat W (aa + 1))) ((xs.map Prod.fst).map V.str) = true := cc
        rw [inV_strs] at c'
        have hmem := of_decide_eq_true c'
        exact ⟨_, rfl, p, _, _, _, _, rfl, x3 _ _ hp2, T.c_Reader, T.a_Reader_at, rfl, _, rfl, fun d nd => badName (fun z => z.1 hmem) d _ upd_same⟩
      have hni : wat W (aa + 1) ∉ xs.map Prod.fst := fun z => cc (by
        show inV (.str (wat W (aa + 1))) ((xs.map Prod.fst).map V.str) = true
        rw [inV_strs, decide_eq_true z])
      have hx1 := wat_of (W := W) (a := aa + 1) rfl (name_ne hnm)
      generalize wat W (aa + 1) = nm at hnm hni hx1 badName
      have s3 := s2.trans (Stp.ofEx (ms := [c, p, L.2]) s2.in_ x3)
      refine ⟨_, rfl, p, _, _, _, _, rfl, x3 _ _ hp2, T.c_Reader, T.a_Reader_at, rfl, _, _, rfl, rfl, _, _, x3 _ _ hp2, (by show 5 < 1000; decide), ?_⟩
      have s4 := s3.trans (Stp.put (ms := [c, p, L.2]) (o := .ins (ga K "Reader") dx2 (putF "at" (.int (((aa + 1 : Nat) : Int) + 1)) (rdF L.1 L.2 (aa + 1) 0 0))) s3.in_ hb1 (by simp))
      have hr4 := (hr2.ex x3).at hx1 (x3 _ _ hp2)
      have hc4 : (upd H3 p (.ins (ga K "Reader") dx2 (putF "at" (.int (((aa + 1 : Nat) : Int) + 1)) (rdF L.1 L.2 (aa + 1) 0 0)))) c = _ := (upd_ne hcp).trans (x3 _ _ hc_2)
      obtain ⟨dx4, hp4, _⟩ := id hr4
      refine ⟨_, rfl, .inl ⟨rfl, _, SqL.of hc4⟩, _, rfl, _, rfl, p, dx4, _, rfl, hp4, rfl, B1, L, p, W, xs.map Prod.fst, 1, 65535, aa + 1 + 1, 0, 0, rfl, s4.in_, hb1, hr4, fun n H5 hx2 _ _ n1 n2 t5 hr5 => ?_, fun hno => ?_⟩
      rotate_left
      · exact kb2 (1 + 0) (by
          rw [drop_at hx1]
          refine go_bad (s := [.new]) (s2 := [.num 1 65535, .head]) (ws := [nm]) (go_one (by rw [step_new, if_pos ⟨hni, hnm⟩])) (bad_app (s := [.num 1 65535]) (s2 := [.head]) (bad_head (by trivial) fun x r hxr => ?_))
          rw [step_num]
          exact if_neg (hno x (head_of hxr)))
      have s5 := s4.trans (t5.wk (ns := [c, p, L.2]) (by simp))
      have hc5 := t5.fr c _ (by simpa using hcp) hc4
      refine ⟨(by show 2 ≤ sizeLine; decide), fun u nu => ?_⟩
      have t6 := Stp.new (ms := []) (o := .tup [V.str nm, V.int n]) s5.in_ nu
      have s6 := s5.trans t6.nil
      have hc6 := t6.fr c _ (by simp) hc5
      have hr6 := hr5.stp t6
      have hcB6 := s6.off hcB upd_same
      obtain ⟨dx5, hp5, hw5, hn5, _⟩ := id hr5
      have hb6 : (upd B1 u (.tup [V.str nm, V.int n])) p = none := t6.off hb1 hp5
      have hbn6 : (upd B1 u (.tup [V.str nm, V.int n])) L.2 = none := t6.off hbn1 hn5
      refine ⟨c, _, _, rfl, rfl, hc6, small1000 (by omega), ?_⟩
      have s7 := s6.trans (Stp.put (ms := [c, p, L.2]) (o := .lst (vs ++ [.ref u])) s6.in_ hcB6 (.head _))
      have hr7 : Rw K p L W (xs.map Prod.fst) (aa + 1 + 1 + 1) 0 0 (upd (upd H5 u (.tup [V.str nm, V.int n])) c (.lst (vs ++ [.ref u]))) := hr6.put hcp hc1 hc2
      obtain ⟨dx7, hp7, hw7, hn7, _⟩ := id hr7
      refine ⟨_, rfl, p, _, _, _, _, rfl, hp7, T.c_Reader, T.a_Reader_names, rfl, .inl ⟨rfl, _, SqL.of hn7⟩, _, rfl, L.2, _, _, rfl, rfl, hn7, small1000 (by rw [List.length_map, List.length_map]; omega), ?_⟩
      have hr8 := hr7.names (N2 := (xs ++ [(nm, n)]).map Prod.fst) hnw
      have em : ((xs ++ [(nm, n)]).map Prod.fst).map V.str = (xs.map Prod.fst).map V.str ++ [V.str nm] := by rw [List.map_append, List.map_append]; rfl
      rw [em] at hr8
      have evw : varW (xs ++ [(nm, n)]) = varW xs ++ [("var" : Str), nm, istr n] := by rw [varW_app]; rfl
      have el : (varW (xs ++ [(nm, n)])).length = aa + 1 + 1 + 1 := by rw [evw, List.length_append, hat]; rfl
      refine ⟨⟨xs ++ [(nm, n)], _, vs ++ [.ref u], _, by rw [List.length_append, List.length_singleton]; omega, ?_, ?_, ?_, s7.trans (Stp.put s7.in_ hbn6 (by simp)), (upd_ne hc2).trans upd_same, ?_, by rw [el]; exact hr8, hb6, hbn6, rfl⟩, ?_⟩
      · intro y hy
        rcases List.mem_append.mp hy with hy | hy
        · exact hok y hy
        · rw [List.mem_singleton.mp hy]
          exact ⟨hnm, n1, n2⟩
      · rw [List.map_append, List.nodup_append]
        refine ⟨hnd, by simp, ?_⟩
        intro a ha b hb z
        have hb : b ∈ [nm] := hb
        rw [List.mem_singleton.mp hb] at z
        exact hni (by rw [← z]; exact ha)
      · rw [el, evw, List.append_assoc]
        have : W.drop aa = [("var" : Str), nm, istr n] ++ W.drop (aa + 1 + 1 + 1) := by rw [drop_at hx0, drop_at hx1, drop_at hx2]; rfl
        rw [← this]
        exact hWe
      · rw [List.map_append]
        exact dpa_app (dpa_mono t6.base hd) (.tup (SqT.of upd_same) (.cons (.str _) (.cons (.int _) .nil)))
      · show (match (upd (upd (upd H5 u (.tup [V.str nm, V.int n])) c (.lst (vs ++ [.ref u]))) L.2 _) c with | some (.lst xs) => 10 - xs.length | _ => 0) < (match H1 c with | some (.lst xs) => 10 - xs.length | _ => 0)
        rw [upd_ne hc2, upd_same, hc]
        show 10 - (vs ++ [V.ref u]).length < 10 - vs.length
        rw [List.length_append, List.length_singleton]
        omega
    · -- all read
      have hcond : ∀ w r, W.drop aa = w :: r → ¬ (w = "var" ∧ (⟨xs.map Prod.fst, 10⟩ : Sc).vs.length < 5) := fun x r hx z => hv ⟨(wat_some (head_of hx)).trans z.1, by have := z.2; rw [List.length_map] at this; exact this⟩
      refine (fun (hh : wat W aa = "var" ∨ wat W aa ≠ "var") => ?_) (Classical.em _)
      rcases hh with hvar | hvar
      rotate_left
      rotate_left
      rw [hvar]
      refine ⟨rfl, _, rfl, ite2 (fun _ => ?_) fun c => absurd rfl c⟩
      refine ⟨_, rfl, c, _, rfl, .inl (SqL.of hc), _, _, rfl, rfl, _, rfl, ite2 (fun cc => absurd ⟨hvar, by have := of_decide_eq_true cc; omega⟩ hv) fun _ => ?_⟩
      rotate_left
      refine ⟨rfl, _, rfl, ite2 (fun cc => absurd (V.str.inj (of_decide_eq_true cc)) hvar) fun _ => iteF ?_⟩
      all_goals
        refine ⟨_, rfl, p, dx, _, rfl, hp, rfl, B1, L, p, W, xs.map Prod.fst, aa, 0, 0, rfl, s1.in_, hb1, hr1, hN, fun v3 B3 H3 ds ws b2 m2 hd3 ip hbg t3 hr3 hv3 => ?_, fun i hi => kb1 i (head_bad hcond (hi .game))⟩
        have s3 := s1.trans (t3.wk (ns := [c, p, L.2]) (by simp))
        have hc3 := t3.fr c _ (by simpa using hcp) hc
        obtain ⟨dx3, hp3, hw3, hn3, ha3, hl3⟩ := id hr3
        refine ⟨_, rfl, p, _, _, _, _, rfl, hp3, T.c_Reader, T.a_Reader_at, rfl, _, rfl, p, _, _, _, _, rfl, hp3, T.c_Reader, T.a_Reader_words, rfl, L.1, _, rfl, .inl (SqL.of hw3), _, _, rfl, rfl, _, rfl, ite2 (fun cc => ?_) fun cc => ?_⟩
        · have hlt : aa + ws.length < W.length := by
            have := of_decide_eq_true cc
            rw [List.length_map] at this
            omega
          have hxl : W[aa + ws.length]? = some W[aa + ws.length] := List.getElem?_eq_getElem hlt
          refine ⟨_, rfl, p, _, _, _, _, rfl, hp3, T.c_Reader, T.a_Reader_at, rfl, _, rfl, fun d nd => kb1 (ws.length + 0) (head_bad hcond ?_) d _ upd_same⟩
          have hg := ip.go hN .game
          have hk : (if ds = [] then Kd.game else nextK .game) = .game := by split <;> rfl
          rw [hk] at hg
          rw [hd3, drop_at hxl]
          rw [wat_some hxl] at hbg
          exact gob_bad hg (step_bad (blk_none hbg _ (fun z => by rcases z.2 with z | z <;> cases z) fun z => by cases z.2))
        · have hend : W.length ≤ aa + ws.length := by
            rcases Nat.lt_or_ge (aa + ws.length) W.length with h | h
            · exact absurd (decide_eq_true (by rw [List.length_map]; omega)) cc
            · exact h
          obtain ⟨a3, vs3, rfl, sq3, dq3⟩ := dp_tup hv3
          have hWg : W = gW xs ws := by
            rw [gW_eq]
            rw [List.drop_eq_nil_of_le hend, List.append_nil] at hd3
            rw [← hd3]
            exact hWe
          refine ⟨_, rfl, _, rfl, mk_game (E := E) (d1 := xs.map varD) (d2 := ds) s3.in_ ⟨vs, .inl (SqL.of hc3), dpa_mono t3.base hd⟩ ⟨vs3, .inr sq3, dq3⟩ fun g B4 H4 t4 hg4 => ?_⟩
          exact k g B4 H4 xs ds ws hWg ⟨hi, hok, hnd, _, _, ip⟩ ((Stp.with nc s3).trans t4.nil) hg4
  · rintro σ H' Q1 Q2 f ⟨v, e1, a, dx, fs, h1, h2, h3, L', p', W', N', at', b', m', e3, h4, hf, b, e4, q⟩
    refine ⟨v, e1, a, dx, fs, h1, h2, h3, L', p', W', N', at', b', m', e3, h4, hf, b, e4, ?_⟩
    by_cases hbt : b = true
    · rw [if_pos hbt] at q ⊢
      obtain ⟨v2, g1, a2, xs2, g2, g3, i2, j2, g4, g5, k2, g6, q⟩ := q
      exact ⟨v2, g1, a2, xs2, g2, g3, i2, j2, g4, g5, k2, g6, f _ _ q⟩
    · rw [if_neg hbt] at q ⊢
      exact f _ _ q
def spReadG (K : PySem.W.Frag) : Sp := fun vs H Q E => ∃ (B : Hp) (W : List Str), vs = [.str (txt W)] ∧ Ex B H ∧ (∀ x ∈ W, WG x) ∧ W.length ≤ 600000 ∧ W ≠ [("" : Str)] ∧
  (∀ (g : V) (B2 H2 : Hp) (xs : List (Str × Int)) (ds : List PyData) (ws : List Str), W = gW xs ws → PaG xs ds ws → Stp [] B H B2 H2 → GameAt K B2 g (xs.map varD) ds → Q g H2) ∧
  (∀ i, BadAt [.head] ⟨[], 10⟩ W i → Bt K E i)
theorem fn_read_game (T : Txt K mg) : Fn P w K mg base 26 (ga K "read_game") (spReadG K) := by
  refine fn_def T.d_read_game sc_read_game (fun _ _ _ _ _ _ us hl => match us, hl with | [_], _ => rfl) (fun vs H Q E h => ?_) (fun cdv A outer s H vs Q E hr h => ?_)
  · obtain ⟨B, W, rfl, _⟩ := h
    rfl
  obtain ⟨B, W, rfl, e, hW, hl, hW1, k, kb⟩ := h
  have nd := sc_read_game.nd
  refine ⟨_, pss_one (ps_ret (pe_methR0 (StX.pe_makeR T.m_Reader (fn_Reader_init T) (hr.mono (by decide)) rfl T.g_Reader pc (pa_cons (pv 0) pa_nil)) T.c_Reader T.t_Reader_game (fn_Reader_game T) (hr.mono (by decide)) pc)), ?_⟩
  refine ⟨_, rfl, fun x dx nx ndx ne => ?_⟩
  have t1 := Stp.new (ms := []) (o := .own x) e ndx
  have nx1 : (upd H dx (.own x)) x = none := by rw [upd_ne ne.symm]; exact nx
  have t2 := Stp.cell (ms := []) (o := .ins (ga K "Reader") dx []) t1.in_ nx1
  have s2 := t1.trans t2
  refine ⟨_, x, dx, W, rfl, s2.in_, ex_none t1.in_ nx1, upd_same, hW, hl, hW1, fun B3 H3 lw ln s3 hr3 hbn hnw hb3 hn0 => ⟨rfl, ?_⟩⟩
  obtain ⟨dx3, hp3, _⟩ := id hr3
  refine ⟨x, dx3, _, rfl, hp3, rfl, B3, (lw, ln), x, W, rfl, s3.in_, hb3, hbn, hnw, hr3, fun g B4 H4 xs ds ws hWe hg s4 hg4 => ?_, kb⟩
  have hnH : H ln = none := by
    cases hh : H ln with
    | none => rfl
    | some o => exact absurd hn0 (s2.al ln (by rw [hh]; exact fun z => nomatch z))
  have s5 := ((s2.nil (ns := [x, ln])).trans (s3.wk (by simp))).trans s4
  exact k g B4 H4 xs ds ws hWe hg ((s5.drop nx).drop hnH) hg4
end
end LL
namespace LL
open PySem PySem.Spec PyProof.Rows L2 He Evl
section
variable {w : World} {K : PySem.W.Frag} {mg : Str → Option Value} {base : Heap}
def spPW (K : PySem.W.Frag) (r : Nat) : Sp := fun vs H Q _ => ∃ (x : V) (ns : List Str) (b m b2 m2 : Nat) (ds : List PyData) (ws : List Str), vs = [x] ∧ Dp K H x (.tuple ds) ∧ PaB ns r b m b2 m2 ds ws ∧ ws.length ≤ 600000 ∧ ∀ (l : Addr) (H2 : Hp), Ex H H2 → H l = none → H2 l = some (.lst (ws.map V.str)) → Q (.ref l) H2
def spPWP (K : PySem.W.Frag) : Nat → Sp
  | 0 => fun _ _ _ _ => False
  | r + 1 => spPW K r
theorem fn_ew1 (T : Txt K mg) (n : Nat) (hn : n ≤ 5) (IH : Fn P w K mg base n (ga K "expression_words") (spVW K n)) : Fn P w K mg base (n + 1) (ga K "expression_words") (spVW K (n + 1)) := by
  refine fn_def T.d_expression_words sc_expression_words (fun _ _ _ _ _ _ us hl => match us, hl with | [_], _ => rfl) (fun vs H Q E h => ?_) (fun cdv A outer s H vs Q E hr h => ?_)
  · obtain ⟨x, ns, d, ws, rfl, _⟩ := h
    rfl
  obtain ⟨x, ns, d, ws, rfl, hd, ie, k⟩ := h
  have nd := sc_expression_words.nd
  refine ⟨_, pss_cons (ps_if (pt_cmpR op_eq (pe_callB call_len_seq (by rfl) T.f_len PySem.boot_len (pa_cons (pv 0) pa_nil)) (pe_int) (nomark _)) (pss_one (ps_ret (pe_lst (pa_cons (pe_callTy call_strIS (by rfl) T.f_str (by decide +kernel) (pa_cons (pe_ix ix_tup (pv 0) (pe_int) (fun _ _ => rfl)) pa_nil)) pa_nil)))) (pss_nil))
      (pss_one (ps_ret (pe_lst (pa_cons (pe_ix ix_tup (pv 0) (pe_int) (fun _ _ => rfl)) (StX.pa_star (pe_fn T.d_expression_words IH hr T.g_expression_words pc (pa_cons (pe_ix ix_tup (pv 0) (pe_int) (fun _ _ => rfl)) pa_nil)) (StX.pa_star (pe_fn T.d_expression_words IH hr T.g_expression_words pc (pa_cons (pe_ix ix_tup (pv 0) (pe_int) (fun _ _ => rfl)) pa_nil)) pa_nil)))))), ?_⟩
  cases ie with
  | @num _ i h0 h1 =>
    obtain ⟨a, vs, rfl, sx, dx⟩ := dp_tup hd
    obtain ⟨_, rfl, dx1⟩ := dpa_s dx
    obtain ⟨_, rfl, dx2⟩ := dpa_i dx1
    cases dpa_n dx2
    refine ⟨_, rfl, a, _, rfl, .inr sx, rfl, _, rfl, ite2 (fun _ => ?_) fun c => absurd rfl c⟩
    exact ⟨_, rfl, a, _, _, _, rfl, rfl, sx, rfl, .inl ⟨i, rfl, log_small h0 h1, (by show 1 ≤ sizeLine; decide), fun l nl => k l _ (Ex.new nl) nl upd_same⟩⟩
  | @var _ x h =>
    obtain ⟨a, vs, rfl, sx, dx⟩ := dp_tup hd
    obtain ⟨_, rfl, dx1⟩ := dpa_s dx
    obtain ⟨_, rfl, dx2⟩ := dpa_s dx1
    cases dpa_n dx2
    refine ⟨_, rfl, a, _, rfl, .inr sx, rfl, _, rfl, ite2 (fun _ => ?_) fun c => absurd rfl c⟩
    exact ⟨_, rfl, a, _, _, _, rfl, rfl, sx, rfl, .inr ⟨x, rfl, (by show 1 ≤ sizeLine; decide), fun l nl => k l _ (Ex.new nl) nl upd_same⟩⟩
  | @op _ sg da db wa wb hs ha hb =>
    obtain ⟨a, vs, rfl, sx, dx⟩ := dp_tup hd
    obtain ⟨_, rfl, dx1⟩ := dpa_s dx
    obtain ⟨va, _, rfl, hva, dx2⟩ := dpa_c dx1
    obtain ⟨vb, _, rfl, hvb, dx3⟩ := dpa_c dx2
    cases dpa_n dx3
    have la := len63 ha (by omega)
    have lb := len63 hb (by omega)
    refine ⟨_, rfl, a, _, rfl, .inr sx, rfl, _, rfl, ite2 (fun c => ?_) fun _ => ?_⟩
    · exact absurd (of_decide_eq_true c) (fun z => absurd (V.int.inj z) (by show ¬ (3 : Int) = 2; decide))
    refine ⟨_, rfl, a, _, _, _, rfl, rfl, sx, rfl, _, rfl, a, _, _, _, rfl, rfl, sx, rfl, va, ns, da, wa, rfl, hva, ha, fun l1 H1 x1 n1 h1 => ?_⟩
    refine ⟨l1, _, rfl, .inr (SqL.of h1), _, rfl, a, _, _, _, rfl, rfl, ex_t x1 sx, rfl, vb, ns, db, wb, rfl, dp_mono x1 hvb, hb, fun l2 H2 x2 n2 h2 => ?_⟩
    refine ⟨l2, _, rfl, .inr (SqL.of h2), big_ (by simp; omega), fun l nl => ?_⟩
    have e2 := x1.trans x2
    refine k l _ (e2.trans (Ex.new nl)) (fresh_back e2 nl) ?_
    rw [upd_same]
    simp
theorem fn_ew (T : Txt K mg) : ∀ n, n ≤ 6 → Fn P w K mg base n (ga K "expression_words") (spVW K n)
  | 0, _ => fun _ _ _ _ _ _ _ _ _ _ _ ⟨_, _, _, _, _, _, h, _⟩ => nomatch h
  | n + 1, h => fn_ew1 T n (by omega) (fn_ew T n (by omega))
theorem fn_expression_words (T : Txt K mg) : Fn P w K mg base 7 (ga K "expression_words") (spVW K 6) := (fn_ew T 6 (by decide)).mono (by decide)
theorem fn_pbw1 (T : Txt K mg) (r : Nat) (hr4 : r ≤ 4) (IH : Fn P w K mg base (7 + r) (ga K "block_words") (spPWP K r)) : Fn P w K mg base (7 + r + 1) (ga K "block_words") (spPW K r) := by
  refine fn_def T.d_block_words sc_block_words (fun _ _ _ _ _ _ us hl => match us, hl with | [_], _ => rfl) (fun vs H Q E h => ?_) (fun cdv A outer s H vs Q E hr h => ?_)
  · obtain ⟨x, ns, b, m, b2, m2, ds, ws, rfl, _⟩ := h
    rfl
  obtain ⟨x, ns, b, m, b2, m2, ds, ws, rfl, hd, ib, h9, k⟩ := h
  have nd := sc_block_words.nd
  have hr1 : Room 7 _ := hr.mono (by omega)
  refine ⟨_, pss_cons (ps_set (i := 1) nd rfl (by first | exact Or.inl rfl | exact Or.inr rfl) (pe_lst pa_nil))
      (pss_cons (ps_for (passes_of rfl) rfl (pi_tup (pv 0)) (pg_name (i := 2) nd rfl (by first | exact Or.inl rfl | exact Or.inr rfl)) (pss_one (ps_if (pt_cmpR op_eq (pe_ix ix_tup (pv 2) (pe_int) (fun _ _ => rfl)) (pe_str) (nomark _)) (pss_cons (ps_expr (pe_bm PySem.F.plainAttrs_list PySem.F.slot_list_extend PySem.F.type_list_extend mt_extend (pv 1) (pa_cons (pe_lst (pa_cons (pe_str) (StX.pa_star (pe_fn T.d_expression_words (fn_expression_words T) hr1 T.g_expression_words pc (pa_cons (pe_ix ix_tup (pv 2) (pe_int) (fun _ _ => rfl)) pa_nil)) (StX.pa_star (pe_fn T.d_block_words IH hr T.g_block_words pc (pa_cons (pe_ix ix_tup (pv 2) (pe_int) (fun _ _ => rfl)) pa_nil)) pa_nil)))) pa_nil)))
      (Evl.pss_cut (ps_if (pt_truth (pe_ix ix_tup (pv 2) (pe_int) (fun _ _ => rfl)) (by intro _; rfl)) (pss_one (ps_expr (pe_bm PySem.F.plainAttrs_list PySem.F.slot_list_extend PySem.F.type_list_extend mt_extend (pv 1) (pa_cons (pe_lst (pa_cons (pe_str) (StX.pa_star (pe_fn T.d_block_words IH hr T.g_block_words pc (pa_cons (pe_ix ix_tup (pv 2) (pe_int) (fun _ _ => rfl)) pa_nil)) pa_nil))) pa_nil)))) (pss_nil))
      (pss_one (ps_expr (pe_bm PySem.F.plainAttrs_list PySem.F.slot_list_append PySem.F.type_list_append mt_append (pv 1) (pa_cons (pe_str) pa_nil)))))) (pss_one (ps_if (pt_cmpR op_in_seq (pe_ix ix_tup (pv 2) (pe_int) (fun _ _ => rfl)) (pe_tup (pa_cons (pe_str) (pa_cons (pe_str) (pa_cons (pe_str) pa_nil)))) rfl) (pss_one (ps_expr (pe_bm PySem.F.plainAttrs_list PySem.F.slot_list_extend PySem.F.type_list_extend mt_extend (pv 1) (pa_cons (pe_lst (pa_cons (pe_ix ix_tup (pv 2) (pe_int) (fun _ _ => rfl)) (pa_cons (pe_ix ix_tup (pv 2) (pe_int) (fun _ _ => rfl)) (pa_cons (pe_callTy call_strIS (by rfl) T.f_str (by decide +kernel) (pa_cons (pe_ix ix_tup (pv 2) (pe_int) (fun _ _ => rfl)) pa_nil)) pa_nil)))) pa_nil)))) (pss_one (ps_expr (pe_bm PySem.F.plainAttrs_list PySem.F.slot_list_extend PySem.F.type_list_extend mt_extend (pv 1) (pa_cons (pe_lst (StX.pa_star (pe_slice sl_tup (pv 2) po_none (po_some (pe_un un_neg (pe_int)))) (StX.pa_star (pe_fn T.d_expression_words (fn_expression_words T) hr1 T.g_expression_words pc (pa_cons (pe_ix ix_tup (pv 2) (pe_un un_neg (pe_int)) (fun _ _ => rfl)) pa_nil)) pa_nil))) pa_nil)))))))))
      (pss_one (ps_ret (pv 1)))), ?_⟩
  obtain ⟨a, vs, rfl, sx, dx⟩ := dp_tup hd
  have hbig := h9
  refine ⟨(by show 0 ≤ sizeLine; decide), fun l nl => ?_⟩
  refine ⟨_, rfl, a, rfl, ⟨vs, ex_t (Ex.new nl) sx⟩, for_tup (xs := vs) (fun i σ H' => ∃ (w1 w2 : List Str) (b' m' : Nat) (v2 : Option V), Ex H H' ∧ H' l = some (.lst (w1.map V.str)) ∧ PaB ns r b' m' b2 m2 (ds.drop i) w2 ∧ ws = w1 ++ w2 ∧ σ = [some (.ref a), some (.ref l), v2]) ?_ ?_ ?_ ?_⟩
  · exact ⟨[], ws, b, m, none, Ex.new nl, upd_same, ib, rfl, rfl⟩
  · rintro i σ H' _ ⟨_, _, _, _, _, e, _⟩
    exact ex_t e sx
  · rintro i x σ H1 hx ⟨w1, w2, b', m', v2, e1, hl1, ib2, rfl, rfl⟩
    rw [List.length_append] at hbig
    have hi : i < vs.length := (List.getElem?_eq_some_iff.mp hx).1
    obtain ⟨x', d, hx', hdd, hxd⟩ := dp_all_get dx hi
    rw [hx] at hx'
    cases hx'
    rw [drop_one hdd] at ib2
    cases ib2 with
    | @pay _ _ _ _ _ s e we _ w3 hs he h =>
      obtain ⟨ar, vr, rfl, sr, d0⟩ := dp_tup hxd
      obtain ⟨_, rfl, d1⟩ := dpa_s d0
      obtain ⟨ve, _, rfl, hve, d4⟩ := dpa_c d1
      cases dpa_n d4
      have hm := mvN _ (show s ∈ _ by rcases List.mem_cons.mp hs with rfl | hs; exact .head _; rw [List.mem_singleton.mp hs]; exact .tail _ (.head _))
      have l63 := len63 he (Nat.le_refl _)
      simp only [List.length_cons, List.length_append] at hbig
      refine ⟨_, rfl, ar, _, _, _, rfl, rfl, ex_t e1 sr, rfl, rfl, _, rfl, ite2 (fun c => absurd (V.str.inj (of_decide_eq_true c)) hm.1) fun _ => ?_⟩
      refine ⟨_, rfl, ar, _, _, _, rfl, rfl, ex_t e1 sr, rfl, (by show 3 ≤ sizeLine; decide), fun t nt => ⟨t, MV_.map V.str, rfl, .inr (SqT.of upd_same), rfl, flat_strs _, _, rfl, ite2 (fun c => ?_) fun _ => ?_⟩⟩
      · have c' : inV (.str _) (MV_.map V.str) = true := c
        rw [inV_strs] at c'
        exact absurd (of_decide_eq_true c') hm.2
      have e2 := e1.trans (Ex.new (o := .tup (MV_.map V.str)) nt)
      have hl2 := (Ex.new (o := .tup (MV_.map V.str)) nt) _ _ hl1
      refine ⟨_, rfl, .inl ⟨rfl, _, SqL.of hl2⟩, _, rfl, _, rfl, _, rfl, ar, _, rfl, ex_t e2 sr, (by show ¬ (HT.sIx 2 0 none = 0 ∧ HT.sIx 2 2 (some (-1)) = 2); decide), fun t2 nt2 => ?_⟩
      have e3 := e2.trans (Ex.new (o := .tup [V.str s]) nt2)
      have hl3 := (Ex.new (o := .tup [V.str s]) nt2) _ _ hl2
      refine ⟨t2, [V.str s], rfl, .inl (SqT.of upd_same), _, rfl, _, rfl, ar, _, _, _, rfl, rfl, ex_t e3 sr, rfl, ve, ns, _, _, rfl, dp_mono e3 hve, he, fun l4 H4 x4 n4 h4 => ?_⟩
      have e4 := e3.trans x4
      refine ⟨l4, _, rfl, .inr (SqL.of h4), big_ (by simp; omega), fun l5 nl5 => ?_⟩
      have e5 := e4.trans (Ex.new (o := .lst ([V.str s] ++ (we.map V.str ++ []))) nl5)
      refine ⟨l, l5, _, _, rfl, rfl, (Ex.new nl5) _ _ (x4 _ _ hl3), upd_same, big_ (by simp; omega), ?_⟩
      refine ⟨w1 ++ [s] ++ we, _, b', m', _, Ex.mut e5 nl, ?_, h, ?_, rfl⟩
      · rw [upd_same]; simp
      · simp
    | @show_ _ _ _ _ _ s e we _ w3 hs he h =>
      obtain ⟨ar, vr, rfl, sr, d0⟩ := dp_tup hxd
      obtain ⟨_, rfl, d1⟩ := dpa_s d0
      obtain ⟨_, rfl, d2⟩ := dpa_s d1
      obtain ⟨ve, _, rfl, hve, d4⟩ := dpa_c d2
      cases dpa_n d4
      have hm := mvN _ (show ("show" : Str) ∈ _ from .tail _ (.tail _ (.head _)))
      have l63 := len63 he (Nat.le_refl _)
      simp only [List.length_cons, List.length_append] at hbig
      refine ⟨_, rfl, ar, _, _, _, rfl, rfl, ex_t e1 sr, rfl, rfl, _, rfl, ite2 (fun c => absurd (V.str.inj (of_decide_eq_true c)) hm.1) fun _ => ?_⟩
      refine ⟨_, rfl, ar, _, _, _, rfl, rfl, ex_t e1 sr, rfl, (by show 3 ≤ sizeLine; decide), fun t nt => ⟨t, MV_.map V.str, rfl, .inr (SqT.of upd_same), rfl, flat_strs _, _, rfl, ite2 (fun c => ?_) fun _ => ?_⟩⟩
      · have c' : inV (.str _) (MV_.map V.str) = true := c
        rw [inV_strs] at c'
        exact absurd (of_decide_eq_true c') hm.2
      have e2 := e1.trans (Ex.new (o := .tup (MV_.map V.str)) nt)
      have hl2 := (Ex.new (o := .tup (MV_.map V.str)) nt) _ _ hl1
      refine ⟨_, rfl, .inl ⟨rfl, _, SqL.of hl2⟩, _, rfl, _, rfl, _, rfl, ar, _, rfl, ex_t e2 sr, (by show ¬ (HT.sIx 3 0 none = 0 ∧ HT.sIx 3 3 (some (-1)) = 3); decide), fun t2 nt2 => ?_⟩
      have e3 := e2.trans (Ex.new (o := .tup [V.str "show", V.str s]) nt2)
      have hl3 := (Ex.new (o := .tup [V.str "show", V.str s]) nt2) _ _ hl2
      refine ⟨t2, [V.str "show", V.str s], rfl, .inl (SqT.of upd_same), _, rfl, _, rfl, ar, _, _, _, rfl, rfl, ex_t e3 sr, rfl, ve, ns, _, _, rfl, dp_mono e3 hve, he, fun l4 H4 x4 n4 h4 => ?_⟩
      have e4 := e3.trans x4
      refine ⟨l4, _, rfl, .inr (SqL.of h4), big_ (by simp; omega), fun l5 nl5 => ?_⟩
      have e5 := e4.trans (Ex.new (o := .lst ([V.str "show", V.str s] ++ (we.map V.str ++ []))) nl5)
      refine ⟨l, l5, _, _, rfl, rfl, (Ex.new nl5) _ _ (x4 _ _ hl3), upd_same, big_ (by simp; omega), ?_⟩
      refine ⟨w1 ++ [("show" : Str), s] ++ we, _, b', m', _, Ex.mut e5 nl, ?_, h, ?_, rfl⟩
      · rw [upd_same]; simp
      · simp
    | @set_ _ _ _ _ _ s e we _ w3 hs he h =>
      obtain ⟨ar, vr, rfl, sr, d0⟩ := dp_tup hxd
      obtain ⟨_, rfl, d1⟩ := dpa_s d0
      obtain ⟨_, rfl, d2⟩ := dpa_s d1
      obtain ⟨ve, _, rfl, hve, d4⟩ := dpa_c d2
      cases dpa_n d4
      have hm := mvN _ (show ("set" : Str) ∈ _ from .tail _ (.tail _ (.tail _ (.head _))))
      have l63 := len63 he (Nat.le_refl _)
      simp only [List.length_cons, List.length_append] at hbig
      refine ⟨_, rfl, ar, _, _, _, rfl, rfl, ex_t e1 sr, rfl, rfl, _, rfl, ite2 (fun c => absurd (V.str.inj (of_decide_eq_true c)) hm.1) fun _ => ?_⟩
      refine ⟨_, rfl, ar, _, _, _, rfl, rfl, ex_t e1 sr, rfl, (by show 3 ≤ sizeLine; decide), fun t nt => ⟨t, MV_.map V.str, rfl, .inr (SqT.of upd_same), rfl, flat_strs _, _, rfl, ite2 (fun c => ?_) fun _ => ?_⟩⟩
      · have c' : inV (.str _) (MV_.map V.str) = true := c
        rw [inV_strs] at c'
        exact absurd (of_decide_eq_true c') hm.2
      have e2 := e1.trans (Ex.new (o := .tup (MV_.map V.str)) nt)
      have hl2 := (Ex.new (o := .tup (MV_.map V.str)) nt) _ _ hl1
      refine ⟨_, rfl, .inl ⟨rfl, _, SqL.of hl2⟩, _, rfl, _, rfl, _, rfl, ar, _, rfl, ex_t e2 sr, (by show ¬ (HT.sIx 3 0 none = 0 ∧ HT.sIx 3 3 (some (-1)) = 3); decide), fun t2 nt2 => ?_⟩
      have e3 := e2.trans (Ex.new (o := .tup [V.str "set", V.str s]) nt2)
      have hl3 := (Ex.new (o := .tup [V.str "set", V.str s]) nt2) _ _ hl2
      refine ⟨t2, [V.str "set", V.str s], rfl, .inl (SqT.of upd_same), _, rfl, _, rfl, ar, _, _, _, rfl, rfl, ex_t e3 sr, rfl, ve, ns, _, _, rfl, dp_mono e3 hve, he, fun l4 H4 x4 n4 h4 => ?_⟩
      have e4 := e3.trans x4
      refine ⟨l4, _, rfl, .inr (SqL.of h4), big_ (by simp; omega), fun l5 nl5 => ?_⟩
      have e5 := e4.trans (Ex.new (o := .lst ([V.str "set", V.str s] ++ (we.map V.str ++ []))) nl5)
      refine ⟨l, l5, _, _, rfl, rfl, (Ex.new nl5) _ _ (x4 _ _ hl3), upd_same, big_ (by simp; omega), ?_⟩
      refine ⟨w1 ++ [("set" : Str), s] ++ we, _, b', m', _, Ex.mut e5 nl, ?_, h, ?_, rfl⟩
      · rw [upd_same]; simp
      · simp
    | @draw _ _ _ _ _ s n _ w3 hs h0 h1 hb h =>
      obtain ⟨ar, vr, rfl, sr, d0⟩ := dp_tup hxd
      obtain ⟨_, rfl, d1⟩ := dpa_s d0
      obtain ⟨_, rfl, d2⟩ := dpa_s d1
      obtain ⟨_, rfl, d3⟩ := dpa_i d2
      cases dpa_n d3
      have hm : ("draw" : Str) ∈ MV_ := .head _
      simp only [List.length_cons] at hbig
      refine ⟨_, rfl, ar, _, _, _, rfl, rfl, ex_t e1 sr, rfl, rfl, _, rfl, ite2 (fun c => absurd (V.str.inj (of_decide_eq_true c)) (mvI _ hm)) fun _ => ?_⟩
      refine ⟨_, rfl, ar, _, _, _, rfl, rfl, ex_t e1 sr, rfl, (by show 3 ≤ sizeLine; decide), fun t nt => ⟨t, MV_.map V.str, rfl, .inr (SqT.of upd_same), rfl, flat_strs _, _, rfl, ite2 (fun _ => ?_) fun c => ?_⟩⟩
      rotate_left
      · have c' : ¬ inV (.str _) (MV_.map V.str) = true := c
        rw [inV_strs] at c'
        exact absurd (decide_eq_true hm) c'
      have e2 := e1.trans (Ex.new (o := .tup (MV_.map V.str)) nt)
      have hl2 := (Ex.new (o := .tup (MV_.map V.str)) nt) _ _ hl1
      refine ⟨_, rfl, .inl ⟨rfl, _, SqL.of hl2⟩, _, rfl, ar, _, _, _, rfl, rfl, ex_t e2 sr, rfl, _, rfl, ar, _, _, _, rfl, rfl, ex_t e2 sr, rfl, _, rfl, ar, _, _, _, rfl, rfl, ex_t e2 sr, rfl, .inl ⟨_, rfl, log_small (by omega) (by omega), (by show 3 ≤ sizeLine; decide), fun l2 nl2 => ?_⟩⟩
      have e3 := e2.trans (Ex.new (o := .lst [V.str ("draw" : Str), V.str s, V.str (istr n)]) nl2)
      refine ⟨l, l2, _, _, rfl, rfl, (Ex.new nl2) _ _ hl2, upd_same, big_ (by simp; omega), ?_⟩
      refine ⟨w1 ++ [("draw" : Str), s, istr n], _, _, _, _, Ex.mut e3 nl, ?_, h, ?_, rfl⟩
      · rw [upd_same]; simp
      · simp
    | @move _ _ _ _ _ c s n _ w3 hc hs h0 h1 hb h =>
      obtain ⟨ar, vr, rfl, sr, d0⟩ := dp_tup hxd
      obtain ⟨_, rfl, d1⟩ := dpa_s d0
      obtain ⟨_, rfl, d2⟩ := dpa_s d1
      obtain ⟨_, rfl, d3⟩ := dpa_i d2
      obtain ⟨_, rfl, d4⟩ := dpa_i d3
      cases dpa_n d4
      have hm : c ∈ MV_ := (.tail _ hc)
      simp only [List.length_cons] at hbig
      refine ⟨_, rfl, ar, _, _, _, rfl, rfl, ex_t e1 sr, rfl, rfl, _, rfl, ite2 (fun c => absurd (V.str.inj (of_decide_eq_true c)) (mvI _ hm)) fun _ => ?_⟩
      refine ⟨_, rfl, ar, _, _, _, rfl, rfl, ex_t e1 sr, rfl, (by show 3 ≤ sizeLine; decide), fun t nt => ⟨t, MV_.map V.str, rfl, .inr (SqT.of upd_same), rfl, flat_strs _, _, rfl, ite2 (fun _ => ?_) fun c => ?_⟩⟩
      rotate_left
      · have c' : ¬ inV (.str _) (MV_.map V.str) = true := c
        rw [inV_strs] at c'
        exact absurd (decide_eq_true hm) c'
      have e2 := e1.trans (Ex.new (o := .tup (MV_.map V.str)) nt)
      have hl2 := (Ex.new (o := .tup (MV_.map V.str)) nt) _ _ hl1
      refine ⟨_, rfl, .inl ⟨rfl, _, SqL.of hl2⟩, _, rfl, ar, _, _, _, rfl, rfl, ex_t e2 sr, rfl, _, rfl, ar, _, _, _, rfl, rfl, ex_t e2 sr, rfl, _, rfl, ar, _, _, _, rfl, rfl, ex_t e2 sr, rfl, .inl ⟨_, rfl, log_small (by omega) (by omega), (by show 3 ≤ sizeLine; decide), fun l2 nl2 => ?_⟩⟩
      have e3 := e2.trans (Ex.new (o := .lst [V.str c, V.str s, V.str (istr n)]) nl2)
      refine ⟨l, l2, _, _, rfl, rfl, (Ex.new nl2) _ _ hl2, upd_same, big_ (by simp; omega), ?_⟩
      refine ⟨w1 ++ [c, s, istr n], _, _, _, _, Ex.mut e3 nl, ?_, h, ?_, rfl⟩
      · rw [upd_same]; simp
      · simp
    | @ite r' _ _ b3 m3 b4 m4 _ _ e we wt wo w3 ts os _ he ht ho h =>
      obtain ⟨ar, vr, rfl, sr, d0⟩ := dp_tup hxd
      obtain ⟨_, rfl, d1⟩ := dpa_s d0
      obtain ⟨ve, _, rfl, hve, d2⟩ := dpa_c d1
      obtain ⟨vt, _, rfl, hvt, d3⟩ := dpa_c d2
      obtain ⟨vo, _, rfl, hvo, d4⟩ := dpa_c d3
      cases dpa_n d4
      simp only [List.length_cons, List.length_append] at hbig
      refine ⟨_, rfl, ar, _, _, _, rfl, rfl, ex_t e1 sr, rfl, rfl, _, rfl, ite2 (fun _ => ?_) fun c => absurd rfl c⟩
      refine ⟨_, rfl, .inl ⟨rfl, _, SqL.of hl1⟩, _, rfl, ar, _, _, _, rfl, rfl, ex_t e1 sr, rfl, ve, ns, _, _, rfl, dp_mono e1 hve, he, fun l4 H4 x4 n4 h4 => ?_⟩
      have e4 := e1.trans x4
      refine ⟨l4, _, rfl, .inr (SqL.of h4), _, rfl, ar, _, _, _, rfl, rfl, ex_t e4 sr, rfl, vt, ns, _, _, _, _, ts, wt, rfl, dp_mono e4 hvt, ht, by omega, fun l6 H6 x6 n6 h6 => ?_⟩
      have e6 := e4.trans x6
      refine ⟨l6, _, rfl, .inr (SqL.of h6), big_ (by simp; omega), fun l7 nl7 => ?_⟩
      have e7 := e6.trans (Ex.new (o := .lst (V.str "if" :: (we.map V.str ++ (wt.map V.str ++ [])))) nl7)
      refine ⟨l, l7, _, _, rfl, rfl, (Ex.new nl7) _ _ (x6 _ _ (x4 _ _ hl1)), upd_same, big_ (by simp; omega), ?_⟩
      have e8 : Ex H (upd (upd H6 l7 (.lst (V.str "if" :: (we.map V.str ++ (wt.map V.str ++ []))))) l (.lst (w1.map V.str ++ V.str "if" :: (we.map V.str ++ (wt.map V.str ++ []))))) := Ex.mut e7 nl
      refine ⟨fun σ H' => Ex H H' ∧ H' l = some (.lst ((w1 ++ (("if" : Str) :: we ++ wt ++ elseW os wo)).map V.str)) ∧ σ = [some (.ref a), some (.ref l), some (.ref ar)], ?_, ?_⟩
      · obtain ⟨ao, vso, rfl, so, do_⟩ := dp_tup hvo
        have hol := dp_all_len do_
        refine ⟨_, rfl, ar, _, _, _, rfl, rfl, ex_t e8 sr, rfl, _, .inr (.inl ⟨_, ex_t e8 so, rfl⟩), ite2 (fun c => ?_) fun c => ?_⟩
        · have hn : os ≠ [] := fun z => by
            rw [z] at hol
            cases vso with
            | nil => exact absurd c (by decide)
            | cons _ _ => exact absurd hol (by simp)
          have hew : elseW os wo = ("else" : Str) :: wo := if_neg hn
          rw [hew] at hbig ⊢
          simp only [List.length_cons] at hbig
          refine ⟨_, rfl, .inl ⟨rfl, _, SqL.of upd_same⟩, _, rfl, ar, _, _, _, rfl, rfl, ex_t e8 sr, rfl, .ref ao, ns, _, _, _, _, os, wo, rfl, dp_mono e8 hvo, ho, by omega, fun l10 H10 x10 n10 h10 => ?_⟩
          refine ⟨l10, _, rfl, .inr (SqL.of h10), big_ (by simp; omega), fun l11 nl11 => ?_⟩
          refine ⟨l, l11, _, _, rfl, rfl, (Ex.new nl11) _ _ (x10 _ _ upd_same), upd_same, big_ (by simp; omega), ?_⟩
          refine ⟨Ex.mut ((e8.trans x10).trans (Ex.new nl11)) nl, ?_, rfl⟩
          rw [upd_same]
          simp
        · have hn : os = [] := by
            cases os with
            | nil => rfl
            | cons z zs =>
              exfalso
              apply c
              cases vso with
              | nil => exact absurd hol (by simp)
              | cons _ _ => rfl
          have hew : elseW os wo = [] := if_pos hn
          rw [hew]
          refine ⟨e8, ?_, rfl⟩
          rw [upd_same]
          simp
      rintro σ H8 ⟨e8, h8, rfl⟩
      refine ⟨_, rfl, .inl ⟨rfl, _, SqL.of h8⟩, l, _, _, rfl, rfl, h8, ?_, ?_⟩
      · rw [List.length_map, List.length_append, List.length_append, List.length_append, List.length_cons]
        have := big_ (n := 1000000) (by decide)
        omega
      · refine ⟨w1 ++ (("if" : Str) :: we ++ wt ++ elseW os wo ++ [("end" : Str)]), w3, _, _, _, Ex.mut e8 nl, ?_, h, ?_, rfl⟩
        · rw [upd_same]; simp
        · simp
  · rintro σ H1 ⟨w1, w2, b', m', v2, e1, hl1, ib2, rfl, rfl⟩
    rw [dp_all_len dx, List.drop_length] at ib2
    cases ib2
    refine ⟨_, rfl, k l _ e1 nl ?_⟩
    rw [hl1, List.append_nil]
theorem fn_pbw (T : Txt K mg) : ∀ r, r ≤ 4 → Fn P w K mg base (7 + r + 1) (ga K "block_words") (spPW K r)
  | 0, h => fn_pbw1 T 0 h (fun _ _ _ _ _ _ _ _ _ _ _ h => h.elim)
  | r + 1, h => fn_pbw1 T (r + 1) h (fn_pbw T r (by omega))
theorem fn_block_words (T : Txt K mg) : Fn P w K mg base 12 (ga K "block_words") (spPW K 4) := fn_pbw T 4 (by decide)
end
end LL
namespace LL
open PySem PySem.Spec PyProof.Rows L2 He Evl
theorem sum8 : ∀ (W : List Str), (∀ x ∈ W, WOk x) → (W.map (·.length)).sum ≤ W.length * 8
  | [], _ => Nat.zero_le _
  | x :: W, h => by
    have h1 := (h x (.head _)).2.1
    have h2 := sum8 W fun y hy => h y (.tail _ hy)
    rw [List.map_cons, List.sum_cons, List.length_cons, Nat.add_mul]
    omega
theorem gW_snoc {xs : List (Str × Int)} {x : Str × Int} : gW (xs ++ [x]) [] = gW xs [] ++ [("var" : Str), x.1, istr x.2] := by
  unfold gW
  rw [List.flatMap_append]
  simp
theorem gW_app {xs : List (Str × Int)} {ws : List Str} : gW xs ws = gW xs [] ++ ws := by
  unfold gW
  simp
theorem sum22 : ∀ (W : List Str), (∀ x ∈ W, WG x) → (W.map (·.length)).sum ≤ W.length * 22
  | [], _ => Nat.zero_le _
  | x :: W, h => by
    have h1 := (h x (.head _)).l
    have h2 := sum22 W fun y hy => h y (.tail _ hy)
    rw [List.map_cons, List.sum_cons, List.length_cons, Nat.add_mul]
    omega
theorem joinG {W : List Str} (h : ∀ x ∈ W, WG x) (hl : W.length ≤ 600000) : (W.map (·.length)).sum + W.length * (" " : Str).length ≤ 16777216 := by
  have h1 := sum22 _ h
  have h3 : (" " : Str).length = 1 := rfl
  rw [h3]
  omega
section
variable {w : World} {K : PySem.W.Frag} {mg : Str → Option Value} {base : Heap}
theorem dp_var2 {H : Hp} {v : V} {x : Str × Int} (h : Dp K H v (varD x)) : ∃ u, v = .ref u ∧ SqT K H u [.str x.1, .int x.2] := by
  obtain ⟨u, us, rfl, su, d0⟩ := dp_tup h
  obtain ⟨_, rfl, d1⟩ := dpa_s d0
  obtain ⟨_, rfl, d2⟩ := dpa_i d1
  cases dpa_n d2
  exact ⟨u, rfl, su⟩
theorem nth_var {H : Hp} {vs : List V} {xs : List (Str × Int)} (dx : DpAll K H vs (xs.map varD)) {i : Nat} {x : V} (hx : vs[i]? = some x) : ∃ (hi : i < xs.length), Dp K H x (varD xs[i]) ∧ xs.take (i + 1) = xs.take i ++ [xs[i]] := by
  have hi : i < vs.length := (List.getElem?_eq_some_iff.mp hx).1
  have hl := dp_all_len dx
  rw [List.length_map] at hl
  obtain ⟨x', d, hx', hdd, hxd⟩ := dp_all_get dx hi
  rw [hx] at hx'
  cases hx'
  have hix : i < xs.length := by omega
  rw [List.getElem?_map, List.getElem?_eq_getElem hix] at hdd
  cases hdd
  exact ⟨hix, hxd, by rw [List.take_add_one, List.getElem?_eq_getElem hix]; rfl⟩
def spGText (K : PySem.W.Frag) : Sp := fun vs H Q _ => ∃ (g : V) (xs : List (Str × Int)) (ds : List PyData) (ws : List Str), vs = [g] ∧ GameAt K H g (xs.map varD) ds ∧ PaG xs ds ws ∧ (∀ x ∈ gW xs ws, WG x) ∧ (gW xs ws).length ≤ 600000 ∧ ∀ H2, Ex H H2 → Q (.str (txt (gW xs ws))) H2
theorem fn_game_text (T : Txt K mg) : Fn P w K mg base 13 (ga K "game_text") (spGText K) := by
  refine fn_def T.d_game_text sc_game_text (fun _ _ _ _ _ _ us hl => match us, hl with | [_], _ => rfl) (fun vs H Q E h => ?_) (fun cdv A outer s H vs Q E hr h => ?_)
  · obtain ⟨g, xs, ds, ws, rfl, _⟩ := h
    rfl
  obtain ⟨g, xs, ds, ws, rfl, ⟨a, dx, v1, v2, rfl, ha, hv1, hv2⟩, hg, hW, hlW, k⟩ := h
  have nd := sc_game_text.nd
  refine ⟨_, pss_cons (ps_set (i := 1) nd rfl (by first | exact Or.inl rfl | exact Or.inr rfl) (pe_lst pa_nil))
      (pss_cons (ps_for (passes_of rfl) rfl (pi_tup (pe_fld (pv 0) rfl)) (pg_tup rfl (pgs_cons (pg_name (i := 2) nd rfl (by first | exact Or.inl rfl | exact Or.inr rfl)) (pgs_cons (pg_name (i := 3) nd rfl (by first | exact Or.inl rfl | exact Or.inr rfl)) pgs_nil))) (pss_one (ps_expr (pe_bm PySem.F.plainAttrs_list PySem.F.slot_list_extend PySem.F.type_list_extend mt_extend (pv 1) (pa_cons (pe_lst (pa_cons (pe_str) (pa_cons (pv 2) (pa_cons (pe_callTy call_str_int (by rfl) T.f_str (by decide +kernel) (pa_cons (pv 3) pa_nil)) pa_nil)))) pa_nil)))))
      (pss_one (ps_ret (pe_join (pe_str) (pe_op op_cat (pv 1) (pe_fn T.d_block_words (fn_block_words T) (hr.mono (by decide)) T.g_block_words pc (pa_cons (pe_fld (pv 0) rfl) pa_nil))))))), ?_⟩
  obtain ⟨t1, vs, rfl, st, dv⟩ := dp_tup hv1
  have hl5 := hg.l5
  refine ⟨(by show 0 ≤ sizeLine; decide), fun l nl => ?_⟩
  have e0 : Ex H (upd H l (.lst [])) := Ex.new nl
  refine ⟨_, rfl, a, _, dx, _, _, rfl, e0 _ _ ha, T.c_Game, T.a_Game_variables, rfl, t1, rfl, ⟨vs, ex_t e0 st⟩, for_tup (xs := vs) (fun i σ H' => ∃ (u2 u3 : Option V), Ex H H' ∧ H' l = some (.lst ((gW (xs.take i) []).map V.str)) ∧ σ = [some (.ref a), some (.ref l), u2, u3]) ?_ ?_ ?_ ?_⟩
  · exact ⟨none, none, e0, upd_same, rfl⟩
  · rintro i σ H' _ ⟨_, _, e, _⟩
    exact ex_t e st
  · rintro i x σ H1 hx ⟨u2, u3, e1, hl1, rfl⟩
    obtain ⟨hi, hxd, htk⟩ := nth_var dv hx
    obtain ⟨u, rfl, su⟩ := dp_var2 hxd
    have hok := hg.ok _ (List.getElem_mem hi)
    have hgl := gW_len (xs.take i) []
    rw [List.length_take, List.length_nil] at hgl
    refine ⟨u, _, rfl, ex_t e1 su, rfl, _, _, rfl, _, _, rfl, rfl, ?_⟩
    refine ⟨_, rfl, .inl ⟨rfl, _, SqL.of hl1⟩, _, rfl, _, rfl, _, rfl, log_small (by omega) hok.2.2, (by show 3 ≤ sizeLine; decide), fun l2 nl2 => ?_⟩
    have e2 := e1.trans (Ex.new (o := .lst [V.str "var", V.str xs[i].1, V.str (istr xs[i].2)]) nl2)
    refine ⟨l, l2, _, _, rfl, rfl, (Ex.new nl2) _ _ hl1, upd_same, big_ (by rw [List.length_map]; show _ + 3 ≤ _; omega), ?_⟩
    refine ⟨_, _, Ex.mut e2 nl, ?_, rfl⟩
    rw [upd_same, htk, gW_snoc, List.map_append]
    rfl
  · rintro σ H1 ⟨u2, u3, e1, hl1, rfl⟩
    have hvl := dp_all_len dv
    rw [List.length_map] at hvl
    rw [hvl, List.take_length] at hl1
    obtain ⟨b, m, ib⟩ := id hg.rows
    have hgl := gW_len xs []
    rw [List.length_nil] at hgl
    rw [gW_len] at hlW
    refine ⟨⟨_, rfl⟩, _, rfl, _, rfl, a, _, dx, _, _, rfl, e1 _ _ ha, T.c_Game, T.a_Game_block, rfl, v2, _, 0, 0, b, m, ds, ws, rfl, dp_mono e1 hv2, ib, by omega, fun l4 H4 x4 n4 h4 => ?_⟩
    refine ⟨l, l4, _, _, rfl, rfl, x4 _ _ hl1, h4, big_ (by rw [List.length_map, List.length_map]; omega), fun l5 nl5 => ?_⟩
    refine ⟨" ", l5, gW xs ws, rfl, rfl, .inl (SqL.of (by rw [upd_same, gW_app (ws := ws), List.map_append])), joinG hW (by rw [gW_len]; omega), k _ ((e1.trans x4).trans (Ex.new nl5))⟩
/-- the law's words of a game -/
def spLW (K : PySem.W.Frag) : Sp := fun vs H Q _ => ∃ (x : V) (xs : List (Str × Int)) (ds : List PyData) (ws : List Str), vs = [x] ∧ Dp K H x (.tuple [.tuple (xs.map varD), .tuple ds]) ∧ IsG xs ds ws ∧ ∀ (l : Addr) (H2 : Hp), Ex H H2 → H l = none → H2 l = some (.lst ((gW xs ws).map V.str)) → Q (.ref l) H2
theorem fn_l_words (T : Txt K mg) : Fn P w K mg base 13 (ga K "_law_words") (spLW K) := by
  refine fn_def T.d_l_words sc_l_words (fun _ _ _ _ _ _ us hl => match us, hl with | [_], _ => rfl) (fun vs H Q E h => ?_) (fun cdv A outer s H vs Q E hr h => ?_)
  · obtain ⟨x, xs, ds, ws, rfl, _⟩ := h
    rfl
  obtain ⟨x, xs, ds, ws, rfl, hd, hg, k⟩ := h
  have nd := sc_l_words.nd
  refine ⟨_, pss_cons (ps_set (i := 1) nd rfl (by first | exact Or.inl rfl | exact Or.inr rfl) (pe_lst pa_nil))
      (pss_cons (ps_for (passes_of rfl) rfl (pi_tup (pe_ix ix_tup (pv 0) (pe_int) (fun _ _ => rfl))) (pg_tup rfl (pgs_cons (pg_name (i := 2) nd rfl (by first | exact Or.inl rfl | exact Or.inr rfl)) (pgs_cons (pg_name (i := 3) nd rfl (by first | exact Or.inl rfl | exact Or.inr rfl)) pgs_nil))) (pss_one (ps_set (i := 1) nd rfl (by first | exact Or.inl rfl | exact Or.inr rfl) (pe_op op_cat (pv 1) (pe_lst (pa_cons (pe_str) (pa_cons (pv 2) (pa_cons (pe_callTy call_str_int (by rfl) T.f_str (by decide +kernel) (pa_cons (pv 3) pa_nil)) pa_nil))))))))
      (pss_one (ps_ret (pe_op op_cat (pv 1) (pe_fn T.d_l_block_words (fn_l_block_words T) (hr.mono (by decide)) T.g_l_block_words pc (pa_cons (pe_ix ix_tup (pv 0) (pe_int) (fun _ _ => rfl)) pa_nil)))))), ?_⟩
  obtain ⟨a, us, rfl, sa, d0⟩ := dp_tup hd
  obtain ⟨v1, _, rfl, hv1, d1⟩ := dpa_c d0
  obtain ⟨v2, _, rfl, hv2, d2⟩ := dpa_c d1
  cases dpa_n d2
  obtain ⟨t1, vs, rfl, st, dv⟩ := dp_tup hv1
  have hl5 := hg.l5
  refine ⟨(by show 0 ≤ sizeLine; decide), fun l0 nl0 => ?_⟩
  have e0 : Ex H (upd H l0 (.lst [])) := Ex.new nl0
  refine ⟨_, rfl, a, _, _, _, rfl, rfl, ex_t e0 sa, rfl, t1, rfl, ⟨vs, ex_t e0 st⟩, for_tup (xs := vs) (fun i σ H' => ∃ (l : Addr) (u2 u3 : Option V), Ex H H' ∧ H' l = some (.lst ((gW (xs.take i) []).map V.str)) ∧ σ = [some (.ref a), some (.ref l), u2, u3]) ?_ ?_ ?_ ?_⟩
  · exact ⟨l0, none, none, e0, upd_same, rfl⟩
  · rintro i σ H' _ ⟨_, _, _, e, _⟩
    exact ex_t e st
  · rintro i x σ H1 hx ⟨l, u2, u3, e1, hl1, rfl⟩
    obtain ⟨hi, hxd, htk⟩ := nth_var dv hx
    obtain ⟨u, rfl, su⟩ := dp_var2 hxd
    have hok := hg.ok _ (List.getElem_mem hi)
    have hgl := gW_len (xs.take i) []
    rw [List.length_take, List.length_nil] at hgl
    refine ⟨u, _, rfl, ex_t e1 su, rfl, _, _, rfl, _, _, rfl, rfl, ?_⟩
    refine ⟨_, rfl, _, rfl, _, rfl, _, rfl, log_small (by omega) hok.2.2, (by show 3 ≤ sizeLine; decide), fun l2 nl2 => ?_⟩
    have e2 := e1.trans (Ex.new (o := .lst [V.str "var", V.str xs[i].1, V.str (istr xs[i].2)]) nl2)
    refine ⟨l, l2, _, _, rfl, rfl, (Ex.new nl2) _ _ hl1, upd_same, big_ (by rw [List.length_map]; show _ + 3 ≤ _; omega), fun l3 nl3 => ?_⟩
    refine ⟨l3, _, _, e2.trans (Ex.new nl3), ?_, rfl⟩
    rw [upd_same, htk, gW_snoc, List.map_append]
    rfl
  · rintro σ H1 ⟨l, u2, u3, e1, hl1, rfl⟩
    have hvl := dp_all_len dv
    rw [List.length_map] at hvl
    rw [hvl, List.take_length] at hl1
    obtain ⟨b, m, ib⟩ := id hg.rows
    have hgl := gW_len xs []
    rw [List.length_nil] at hgl
    have hb := ib.big (by omega) hg.l9
    refine ⟨_, rfl, _, rfl, a, _, _, _, rfl, rfl, ex_t e1 sa, rfl, v2, _, 0, 0, b, m, ds, ws, rfl, dp_mono e1 hv2, ib, hg.l9, fun l4 H4 x4 n4 h4 => ?_⟩
    refine ⟨l, l4, _, _, rfl, rfl, x4 _ _ hl1, h4, big_ (by rw [List.length_map, List.length_map]; omega), fun l5 nl5 => ?_⟩
    exact k l5 _ ((e1.trans x4).trans (Ex.new nl5)) (fresh_back (e1.trans x4) nl5) (by rw [upd_same, gW_app (ws := ws), List.map_append])
end
end LL
namespace LL
open PySem PySem.Spec PyProof.Rows L2 He Evl
theorem log_100k {n : Nat} (h : n < 100000) : ((n : Nat) : Int).natAbs.log2 < 1920 := by
  rw [Int.natAbs_natCast]
  by_cases z : n = 0
  · rw [z]; decide
  · rw [Nat.log2_lt z]
    have : (2 : Nat) ^ 17 ≤ 2 ^ 1920 := Nat.pow_le_pow_right (by decide) (by decide)
    omega
theorem lt1 (a b : Nat) : (([a] : List Nat) < [b]) ↔ a < b := by
  rw [List.cons_lt_cons_iff]
  constructor
  · rintro (h | ⟨_, h⟩)
    · exact h
    · exact absurd h (List.not_lt_nil _)
  · exact fun h => .inl h
theorem le1 (a b : Nat) : (!decide (([b] : List Nat) < [a])) = decide (a ≤ b) := by
  rw [show decide (([b] : List Nat) < [a]) = decide (b < a) from decide_eq_decide.mpr (lt1 b a)]
  by_cases z : b < a
  · rw [decide_eq_true z, decide_eq_false (by omega)]; rfl
  · rw [decide_eq_false z, decide_eq_true (by omega)]; rfl
abbrev rLeS : L2.R2 := fun x y H Q => ∃ i j, x = .str i ∧ y = .str j ∧ Q (.bl (!decide (j.cps.toList < i.cps.toList))) H
/-- lo <= c <= hi of a sign -/
theorem et_sign {σ : L2.St} {H : Hp} {c lo hi : Nat} {sl sh : Str} {i : Nat} (el : sl.cps.toList = [lo]) (eh : sh.cps.toList = [hi]) (hs : σ[i]? = some (some (.str ⟨#[c]⟩))) : EvT (tTest (tChain rLeS rLeS (tC (.str sl)) (tVar i) (tC (.str sh)))) σ H (decide (lo ≤ c) && decide (c ≤ hi)) := by
  refine et_test ?_
  intro H3 e3 Q3 q3
  refine ⟨_, hs, sl, ⟨#[c]⟩, rfl, rfl, _, rfl, ?_⟩
  have e1' : (!decide (((⟨#[c]⟩ : Str).cps.toList) < sl.cps.toList)) = decide (lo ≤ c) := by rw [el]; exact le1 lo c
  have e2' : (!decide (sh.cps.toList < ((⟨#[c]⟩ : Str).cps.toList))) = decide (c ≤ hi) := by rw [eh]; exact le1 c hi
  rw [e1']
  by_cases z : lo ≤ c
  · rw [decide_eq_true z, if_pos rfl]
    refine ⟨⟨#[c]⟩, sh, rfl, rfl, ?_⟩
    rw [e2']
    rw [decide_eq_true z, Bool.true_and] at q3
    exact q3 H3 (Ex.refl _)
  · rw [decide_eq_false z] at q3 ⊢
    exact q3 H3 (Ex.refl _)
/-- 0 < len(x) < n -/
theorem et_len {σ : L2.St} {H : Hp} {x : Str} {n : Nat} {i : Nat} (hl : x.length ≤ 1000) (hs : σ[i]? = some (some (.str x))) : EvT (tTest (tChain (rI0 fun i j => .bl (decide (i < j))) (rI0 fun i j => .bl (decide (i < j))) (tC (.int 0)) (tCB (fun xs H Q => ∃ z, xs = [.str z] ∧ z.length ≤ sizeLine ∧ Q (.int z.length) H) (tCons (tVar i) tNil)) (tC (.int (n : Nat))))) σ H (decide (0 < x.length) && decide (x.length < n)) := by
  refine et_test ?_
  intro H1 e1 Q1 q1
  refine ⟨_, hs, x, rfl, slen x 1000 hl (by decide), _, _, rfl, rfl, _, rfl, ?_⟩
  rw [show decide ((0 : Int) < (x.length : Nat)) = decide (0 < x.length) from decide_eq_decide.mpr (by omega)]
  by_cases z : 0 < x.length
  · rw [decide_eq_true z, if_pos rfl]
    refine ⟨_, _, rfl, rfl, ?_⟩
    rw [decide_eq_true z, Bool.true_and] at q1
    show Q1 (V.bl (decide (((x.length : Nat) : Int) < (n : Nat)))) H1
    rw [show decide (((x.length : Nat) : Int) < (n : Nat)) = decide (x.length < n) from decide_eq_decide.mpr (by omega)]
    exact q1 H1 (Ex.refl _)
  · rw [decide_eq_false z] at q1 ⊢
    exact q1 H1 (Ex.refl _)
theorem dv_top : ∀ (cs : List Nat), NumText.AllDigits cs → NumText.digitsVal cs < 10 ^ cs.length := by
  have key : ∀ (n : Nat) (cs : List Nat), cs.length = n → NumText.AllDigits cs → NumText.digitsVal cs < 10 ^ n := by
    intro n
    induction n with
    | zero => intro cs h1 _; rw [List.eq_nil_of_length_eq_zero h1]; decide
    | succ n ih =>
      intro cs h1 h2
      obtain ⟨ds, d, rfl⟩ : ∃ ds d, cs = ds ++ [d] := ⟨cs.dropLast, cs.getLast (by intro z; rw [z] at h1; cases h1), (List.dropLast_concat_getLast _).symm⟩
      have h3 : ds.length = n := by rw [List.length_append] at h1; simp at h1; exact h1
      have h4 := ih ds h3 fun c hc => h2 c (by simp [hc])
      have h5 := h2 d (by simp)
      have e : NumText.digitsVal (ds ++ [d]) = NumText.digitsVal ds * 10 + (d - 48) := by unfold NumText.digitsVal; rw [List.foldl_append]; rfl
      rw [e, Nat.pow_succ]
      omega
  exact fun cs h => key cs.length cs rfl h
theorem chain2 {a b : Prop} [Decidable a] [Decidable b] (h : (!(decide a && decide b)) = false) : a ∧ b := by
  by_cases x : a
  · by_cases y : b
    · exact ⟨x, y⟩
    · rw [decide_eq_true x, decide_eq_false y] at h; exact Bool.noConfusion h
  · rw [decide_eq_false x] at h; exact Bool.noConfusion h
theorem chain2n {a b : Prop} [Decidable a] [Decidable b] (h : (!(decide a && decide b)) = true) : ¬ (a ∧ b) := fun ⟨x, y⟩ => by
  rw [decide_eq_true x, decide_eq_true y] at h
  exact Bool.noConfusion h
section
variable {w : World} {K : PySem.W.Frag} {mg : Str → Option Value} {base : Heap}
def spIsNmL : Sp := fun vs H Q _ => ∃ x : Str, vs = [.str x] ∧ x.length ≤ 1000 ∧ (IsName x → ∀ H2, Ex H H2 → Q (.bl true) H2) ∧ (¬ IsName x → ∀ H2, Ex H H2 → Q (.bl false) H2)
theorem fn_l_is_name (T : Txt K mg) : Fn P w K mg base 1 (ga K "_law_is_name") (spIsNmL) := by
  refine fn_def T.d_l_is_name sc_l_is_name (fun _ _ _ _ _ _ us hl => match us, hl with | [_], _ => rfl) (fun vs H Q E h => ?_) (fun cdv A outer s H vs Q E hr h => ?_)
  · obtain ⟨x, rfl, _⟩ := h
    rfl
  obtain ⟨x, rfl, hl, kt, kf⟩ := h
  have nd := sc_l_is_name.nd
  refine ⟨_, pss_cons (ps_set (i := 1) nd rfl (by first | exact Or.inl rfl | exact Or.inr rfl) (pe_tup (pa_cons (pe_str) (pa_cons (pe_str) (pa_cons (pe_str) (pa_cons (pe_str) (pa_cons (pe_str) (pa_cons (pe_str) (pa_cons (pe_str) (pa_cons (pe_str) (pa_cons (pe_str) (pa_cons (pe_str) (pa_cons (pe_str) (pa_cons (pe_str) (pa_cons (pe_str) (pa_cons (pe_str) pa_nil))))))))))))))))
      (pss_cons (ps_if (PW.pt (pw_or (pt_cmpR op_in_seq (pv 0) (pv 1) rfl) (pw_or1 (pt_not (pt_chain op_lt op_lt (pe_int) (pe_callB call_len_str (by rfl) T.f_len (by decide +kernel) (pa_cons (pv 0) pa_nil)) (pe_int)))))) (pss_one (ps_ret (pe_bl))) (pss_nil))
      (pss_cons (ps_for (passes_of rfl) rfl (pi_str (pv 0)) (pg_name (i := 2) nd rfl (by first | exact Or.inl rfl | exact Or.inr rfl)) (pss_one (ps_if (pt_not (pt_chain op_le_str op_le_str (pe_str) (pv 2) (pe_str))) (pss_one (ps_ret (pe_bl))) (pss_nil))))
      (pss_one (ps_ret (pe_bl))))), ?_⟩
  refine ⟨(by show 14 ≤ sizeLine; decide), fun t nt => ?_⟩
  have e0 : Ex H (upd H t (.tup (KEYS_.map V.str))) := Ex.new nt
  have ht : (upd H t (.tup (KEYS_.map V.str))) t = some (.tup (KEYS_.map V.str)) := upd_same
  dsimp only [gName]
  refine q_when (b := decide (x ∈ KEYS_) || !(decide (0 < x.length) && decide (x.length < 9))) (et_or (et_test fun H1 e1 Q1 q1 => ⟨_, rfl, _, rfl, t, _, rfl, .inr (SqT.of (e1 _ _ ht)), rfl, flat_strs KEYS_, by rw [inV_strs]; exact q1 H1 (Ex.refl _)⟩) fun _ => et_not (et_len (n := 9) hl rfl)) (fun c H1 e1 => ?_) (fun c H1 e1 => ?_)
  · refine kf (fun hn => ?_) H1 (e0.trans e1)
    rw [Bool.or_eq_true] at c
    rcases c with c | c
    · exact hn.nk (of_decide_eq_true c)
    · exact chain2n c ⟨by have := hn.l1; omega, by have := hn.l8; omega⟩
  · rw [Bool.or_eq_false_iff] at c
    obtain ⟨c0, c1⟩ := c
    have nk : x ∉ KEYS_ := of_decide_eq_false c0
    obtain ⟨l1, l2⟩ := chain2 c1
    refine ⟨_, rfl, x, rfl, for_it (n := x.cps.size) walk_str (fun i σ H' => ∃ u1 : Option V, Ex H1 H' ∧ σ = [some (.str x), some (.ref t), u1] ∧ ∀ c ∈ x.cps.toList.take i, 97 ≤ c ∧ c ≤ 122) ⟨_, Ex.refl _, rfl, by simp⟩ (fun _ _ _ _ _ => trivial) ?_ ?_⟩
    · rintro i y σ H2' H2 hi ⟨u1, e2, rfl, hd⟩ ⟨rfl, c, hc, rfl⟩
      have hm : x.cps.toList[i]? = some c := by rw [← hc, Array.getElem?_toList]
      refine s_when (et_not (et_sign (lo := 97) (hi := 122) rfl rfl rfl)) (fun cc H3 e3 => ?_) (fun cc H3 e3 => ?_)
      · exact kf (fun hn => chain2n cc (hn.lo c (List.mem_of_getElem? hm))) H3 (e0.trans (e1.trans (e2.trans e3)))
      · refine ⟨_, e2.trans e3, rfl, fun d hd2 => ?_⟩
        rw [List.take_add_one, hm] at hd2
        rcases List.mem_append.mp hd2 with hd2 | hd2
        · exact hd d hd2
        · rcases List.mem_singleton.mp hd2 with rfl
          exact chain2 cc
    · rintro σ H2 ⟨u1, e2, rfl, hd⟩
      rw [show x.cps.size = x.cps.toList.length from by simp, List.take_length] at hd
      exact kt ⟨by omega, by omega, hd, nk⟩ H2 (e0.trans (e1.trans e2))
def spIsNoL : Sp := fun vs H Q _ => ∃ (x : Str) (lo hi : Int), vs = [.str x, .int lo, .int hi] ∧ x.length ≤ 1000 ∧ 0 ≤ lo ∧ hi ≤ 65535 ∧ (IsNum x lo hi → ∀ H2, Ex H H2 → Q (.bl true) H2) ∧ (¬ IsNum x lo hi → ∀ H2, Ex H H2 → Q (.bl false) H2)
theorem fn_l_is_number (T : Txt K mg) : Fn P w K mg base 1 (ga K "_law_is_number") (spIsNoL) := by
  refine fn_def T.d_l_is_number sc_l_is_number (fun _ _ _ _ _ _ us hl => match us, hl with | [_, _, _], _ => rfl) (fun vs H Q E h => ?_) (fun cdv A outer s H vs Q E hr h => ?_)
  · obtain ⟨x, lo, hi, rfl, _⟩ := h
    rfl
  obtain ⟨x, lo, hi, rfl, hl, h0, h1, kt, kf⟩ := h
  have nd := sc_l_is_number.nd
  refine ⟨_, pss_cons (ps_if (pt_not (pt_chain op_lt op_lt (pe_int) (pe_callB call_len_str (by rfl) T.f_len (by decide +kernel) (pa_cons (pv 0) pa_nil)) (pe_int))) (pss_one (ps_ret (pe_bl))) (pss_nil))
      (pss_cons (ps_for (passes_of rfl) rfl (pi_str (pv 0)) (pg_name (i := 3) nd rfl (by first | exact Or.inl rfl | exact Or.inr rfl)) (pss_one (ps_if (pt_not (pt_chain op_le_str op_le_str (pe_str) (pv 3) (pe_str))) (pss_one (ps_ret (pe_bl))) (pss_nil))))
      (pss_one (ps_ret (pe_and (pe_cmpR op_eq (pe_callTy call_str_int (by rfl) T.f_str (by decide +kernel) (pa_cons (pe_callTy call_int_str (by rfl) T.f_int (by decide +kernel) (pa_cons (pv 0) pa_nil)) pa_nil)) (pv 0) (nomark _)) (pe_one (pe_chain op_le op_le (pv 1) (pe_callTy call_int_str (by rfl) T.f_int (by decide +kernel) (pa_cons (pv 0) pa_nil)) (pv 2))))))), ?_⟩
  have num : ∀ i : Int, 0 ≤ i → i ≤ 65535 → x = istr i → 0 < x.length ∧ x.length < 6 ∧ ∀ c ∈ x.cps.toList, 48 ≤ c ∧ c ≤ 57 := fun i i0 i1 hx => by
    obtain ⟨a, b⟩ := istr_len i0 i1
    rw [hx]
    exact ⟨by omega, by omega, istr_dig i0⟩
  refine q_when (et_not (et_len (n := 6) hl rfl)) (fun c H1 e1 => ?_) (fun c H1 e1 => ?_)
  · exact kf (fun ⟨i, i0, i1, _, _, hx⟩ => chain2n c ⟨(num i i0 i1 hx).1, (num i i0 i1 hx).2.1⟩) H1 e1
  · obtain ⟨l1, l2⟩ := chain2 c
    refine ⟨_, rfl, x, rfl, for_it (n := x.cps.size) walk_str (fun i σ H' => ∃ u1 : Option V, Ex H1 H' ∧ σ = [some (.str x), some (.int lo), some (.int hi), u1] ∧ ∀ c ∈ x.cps.toList.take i, 48 ≤ c ∧ c ≤ 57) ⟨_, Ex.refl _, rfl, by simp⟩ (fun _ _ _ _ _ => trivial) ?_ ?_⟩
    · rintro i y σ H2' H2 hi ⟨u1, e2, rfl, hd⟩ ⟨rfl, c, hc, rfl⟩
      have hm : x.cps.toList[i]? = some c := by rw [← hc, Array.getElem?_toList]
      refine s_when (et_not (et_sign (lo := 48) (hi := 57) rfl rfl rfl)) (fun cc H3 e3 => ?_) (fun cc H3 e3 => ?_)
      · exact kf (fun ⟨j, j0, j1, _, _, hx⟩ => chain2n cc ((num j j0 j1 hx).2.2 c (List.mem_of_getElem? hm))) H3 (e1.trans (e2.trans e3))
      · refine ⟨_, e2.trans e3, rfl, fun d hd2 => ?_⟩
        rw [List.take_add_one, hm] at hd2
        rcases List.mem_append.mp hd2 with hd2 | hd2
        · exact hd d hd2
        · rcases List.mem_singleton.mp hd2 with rfl
          exact chain2 cc
    · rintro σ H2 ⟨u1, e2, rfl, hd⟩
      rw [show x.cps.size = x.cps.toList.length from by simp, List.take_length] at hd
      have hne : x.cps.toList ≠ [] := fun z => by
        have e := len_S x
        rw [z] at e
        simp at e
        omega
      have hv := PySem.intText_digits (x := x) hd hne (by omega)
      have hb := dv_top x.cps.toList hd
      have hlen := len_S x
      have hb5 : NumText.digitsVal x.cps.toList < 100000 := Nat.lt_of_lt_of_le hb (Nat.pow_le_pow_right (n := 10) (by decide) (show x.cps.toList.length ≤ 5 by omega))
      generalize NumText.digitsVal x.cps.toList = n at hv hb5
      have e12 := e1.trans e2
      have fin : ∀ (b : Bool) H3, Ex H H3 → (b = true ↔ IsNum x lo hi) → Q (.bl b) H3 := fun b H3 e3 hb => by
        cases b with
        | true => exact kt (hb.mp rfl) H3 e3
        | false => exact kf (fun z => Bool.noConfusion (hb.mpr z)) H3 e3
      have back : IsNum x lo hi → istr (n : Int) = x ∧ lo ≤ (n : Int) ∧ (n : Int) ≤ hi := fun ⟨i, i0, i1, i2, i3, hx⟩ => by
        have h1 := istr_int5 (n := i.toNat) (by omega)
        rw [Int.toNat_of_nonneg i0, ← hx, hv] at h1
        have : (n : Int) = i := Option.some.inj h1
        rw [this]
        exact ⟨hx.symm, i2, i3⟩
      refine ⟨_, rfl, x, (n : Int), rfl, hv, by omega, (n : Int), rfl, log_100k hb5, _, rfl, rfl, _, rfl, ite2 (fun c1 => ?_) fun c1 => ?_⟩
      · have hx : istr (n : Int) = x := V.str.inj (of_decide_eq_true c1)
        refine ⟨_, rfl, _, rfl, x, (n : Int), rfl, hv, by omega, _, _, rfl, rfl, _, rfl, ite2 (fun c2 => ⟨_, rfl, _, _, rfl, rfl, ?_⟩) fun c2 => ?_⟩
        · refine fin _ H2 e12 ⟨fun h => ?_, fun h => decide_eq_true (back h).2.2⟩
          have h2 : (n : Int) ≤ hi := of_decide_eq_true h
          have h3 : lo ≤ (n : Int) := of_decide_eq_true c2
          exact ⟨n, by omega, by omega, h3, h2, hx.symm⟩
        · exact fin false H2 e12 ⟨fun z => Bool.noConfusion z, fun h => absurd (decide_eq_true (back h).2.1) c2⟩
      · exact fin false H2 e12 ⟨fun z => Bool.noConfusion z, fun h => absurd (decide_eq_true (congrArg V.str (back h).1)) c1⟩
end
end LL
namespace LL
open PySem PySem.Spec PyProof.Rows L2 He Evl
/-! ### the stack as data -/
def kdS : Kd → Str
  | .thn => "then"
  | .els => "else"
  | .emp => "empty"
  | .game => "game"
def symD : Sy → PyData
  | .one => .tuple [.str "one"]
  | .seat => .tuple [.str "seat"]
  | .num lo hi => .tuple [.str "number", .int lo, .int hi]
  | .val r => .tuple [.str "value", .int r]
  | .blk r k => .tuple [.str "block", .int r, .str (kdS k)]
  | .head => .tuple [.str "head"]
  | .new => .tuple [.str "new"]
theorem sym_names : ("one" : Str) ≠ "head" ∧ ("seat" : Str) ≠ "head" ∧ ("new" : Str) ≠ "head" ∧ ("number" : Str) ≠ "block" ∧ ("game" : Str) ≠ "then" ∧ ("then" : Str) ≠ "game" ∧ ("else" : Str) ≠ "game" ∧ ("empty" : Str) ≠ "game" := by decide +kernel
theorem str_beq {a b : Str} : (a == b) = decide (a = b) := by
  by_cases h : a = b
  · rw [h]; simp
  · rw [decide_eq_false h]; simpa using h
theorem lay_str {s : Str} (h : (s.cps.toList.all fun c => decide (c < 1114112)) = true) : (PyData.str s).canLay0 = true := by
  show s.cps.all (· < 0x110000) = true
  rw [← Array.all_toList]
  exact h
theorem lay_sym (s : Sy) : (symD s).canLay0 = true := by
  cases s with
  | blk r k => cases k <;> (unfold symD; simp only [PyData.canLay0, PyData.canLayAll0, Bool.and_true, Bool.true_and]; decide +kernel)
  | _ => unfold symD; simp only [PyData.canLay0, PyData.canLayAll0, Bool.and_true, Bool.true_and]; decide +kernel
theorem lay_syms : ∀ l : List Sy, PyData.canLayAll0 (l.map symD) = true
  | [] => rfl
  | s :: l => by
    rw [List.map_cons]
    show ((symD s).canLay0 && PyData.canLayAll0 (l.map symD)) = true
    rw [lay_sym s, lay_syms l]
    rfl
open Classical in
theorem eqv_head (s : Sy) : PyData.eqv (symD .head) (symD s) = decide (s = .head) := by
  obtain ⟨a1, a2, a3, _⟩ := sym_names
  cases s <;> simp [symD, PyData.eqv, PyData.eqvAll, str_beq, a1.symm, a2.symm, a3.symm]
open Classical in
theorem eqv_game (s : Sy) : PyData.eqv (symD (.blk 4 .game)) (symD s) = decide (s = .blk 4 .game) := by
  obtain ⟨a1, a2, a3, a4, a5, a6, a7, a8⟩ := sym_names
  cases s with
  | blk r k =>
    cases k <;> simp [symD, PyData.eqv, PyData.eqvAll, str_beq, kdS, a5, a6.symm, a7.symm, a8.symm]
    by_cases h : r = 4
    · subst h; simp
    · have : ¬ (4 : Int) = (r : Int) := by omega
      simp [h, this]
  | num lo hi => simp [symD, PyData.eqv, PyData.eqvAll, str_beq, a4.symm]
  | _ => simp [symD, PyData.eqv, PyData.eqvAll, str_beq]
open Classical in
theorem eqv_one {g : Sy} (hg : ∀ s, PyData.eqv (symD g) (symD s) = decide (s = g)) (l : List Sy) : PyData.eqv (.list [symD g]) (.list (l.map symD)) = decide (l = [g]) := by
  match l with
  | [] => simp [PyData.eqv, PyData.eqvAll]
  | [s] => simp [PyData.eqv, PyData.eqvAll, hg]
  | s :: t :: r => simp [PyData.eqv, PyData.eqvAll]
open Classical in
/-- stack in ([("head",)], [("block", 4, "game")]) -/
theorem any_ends (l : List Sy) : ([PyData.list [symD .head], PyData.list [symD (.blk 4 .game)]].any fun z => PyData.eqv z (.list (l.map symD))) = decide (l = [.head] ∨ l = [.blk 4 .game]) := by
  simp only [List.any_cons, List.any_nil, Bool.or_false]
  rw [eqv_one eqv_head, eqv_one eqv_game]
  by_cases h1 : l = [.head] <;> by_cases h2 : l = [.blk 4 .game] <;> simp [h1, h2]
section
variable {X : Cx}
def rInDT (K : PySem.W.Frag) : L2.R2 := fun x y H Q => ∃ d ds, Dp K H x d ∧ Dp K H y (.tuple ds) ∧ PyData.canLay0 d = true ∧ PyData.canLayAll0 ds = true ∧ PyData.depthAll ds ≤ 60 ∧ Q (.bl (ds.any fun z => PyData.eqv z d)) H
theorem op_inDT (hu : X.A.units + 65 < cLine) : OpR X (compareOp .In) (rInDT X.K) := by
  intro pins s σ H x y v u Q I rx ry h
  obtain ⟨d, ds, hd, he, sd, se, hdp, q⟩ := h
  obtain ⟨as, r1⟩ := Dp.reads I d x v hd rx
  obtain ⟨bs, r2⟩ := Dp.reads I (.tuple ds) y u he ry
  refine SeqAt.in_tuple_reads r2 r1 se sd ?_ ⟨.bl _, H, I, rfl, q⟩
  have := Nat.min_le_left (PyData.depthAll ds) d.depth
  omega
end
end LL
namespace LL
open PySem PySem.Spec PyProof.Rows L2 He Evl
theorem small_16m {n : Nat} (h : n ≤ 16000000) : n < sizeLine := Nat.lt_of_le_of_lt h (by decide)
def scD (n : Addr) (left : Nat) : List (Key × V) := [(.inr "var", .ref n), (.inr "left", .int (left : Nat))]
theorem dpa_append {K : PySem.W.Frag} {H : Hp} : ∀ {vs us : List V} {a b : List PyData}, DpAll K H vs a → DpAll K H us b → DpAll K H (vs ++ us) (a ++ b)
  | [], _, [], _, _, h => h
  | _ :: _, _, _ :: _, _, .cons h t, g => .cons h (dpa_append t g)
theorem dpa_last {K : PySem.W.Frag} {H : Hp} {d : PyData} : ∀ {a : List PyData} {vs : List V}, DpAll K H vs (a ++ [d]) → ∃ us v, vs = us ++ [v] ∧ DpAll K H us a ∧ Dp K H v d
  | [], _, .cons h .nil => ⟨[], _, rfl, .nil, h⟩
  | _ :: a, _, .cons h t => by
    obtain ⟨us, v, rfl, h2, h3⟩ := dpa_last (a := a) t
    exact ⟨_ :: us, v, rfl, .cons h h2, h3⟩
/-- the stack at q, the scope at d, its names at n -/
structure MSt (K : PySem.W.Frag) (q d n : Addr) (st : List Sy) (sc : Sc) (B H : Hp) : Prop where
  e : Ex B H
  hq : ∃ vs, H q = some (.lst vs) ∧ DpAll K B vs (st.reverse.map symD)
  hd : H d = some (.dK (scD n sc.left))
  hn : H n = some (.lst (sc.vs.map V.str))
  bq : B q = none
  bd : B d = none
  bn : B n = none
  qn : q ≠ n
section
variable {K : PySem.W.Frag} {q d n : Addr} {st : List Sy} {sc : Sc} {B H B2 H2 : Hp}
theorem MSt.qd (M : MSt K q d n st sc B H) : q ≠ d := fun z => by
  obtain ⟨vs, h, _⟩ := M.hq
  rw [z, M.hd] at h
  cases h
theorem MSt.nd (M : MSt K q d n st sc B H) : n ≠ d := fun z => by
  have h := M.hn
  rw [z, M.hd] at h
  cases h
theorem MSt.stp (M : MSt K q d n st sc B H) (s : Stp [] B H B2 H2) : MSt K q d n st sc B2 H2 := by
  obtain ⟨vs, h1, h2⟩ := M.hq
  exact ⟨s.in_, ⟨vs, s.fr _ _ (by simp) h1, dpa_mono s.base h2⟩, s.fr _ _ (by simp) M.hd, s.fr _ _ (by simp) M.hn, s.off M.bq h1, s.off M.bd M.hd, s.off M.bn M.hn, M.qn⟩
theorem MSt.ex (M : MSt K q d n st sc B H) (x : Ex H H2) : MSt K q d n st sc B H2 := M.stp (Stp.ofEx M.e x)
/-- more is open -/
theorem MSt.ext (M : MSt K q d n st sc B H) {vs us : List V} {l : List Sy} (h1 : H q = some (.lst vs)) (h2 : DpAll K B us (l.reverse.map symD)) : Stp [q, d, n] B H B (upd H q (.lst (vs ++ us))) ∧ MSt K q d n (l ++ st) sc B (upd H q (.lst (vs ++ us))) := by
  obtain ⟨vs', h3, h4⟩ := M.hq
  rw [h1] at h3
  cases h3
  have s := Stp.put (ms := [q, d, n]) (o := .lst (vs ++ us)) M.e M.bq (.head _)
  refine ⟨s, s.in_, ⟨_, upd_same, ?_⟩, ?_, ?_, M.bq, M.bd, M.bn, M.qn⟩
  · rw [List.reverse_append, List.map_append]
    exact dpa_append h4 h2
  · rw [upd_ne M.qd.symm]; exact M.hd
  · rw [upd_ne M.qn.symm]; exact M.hn
/-- the top is taken -/
theorem MSt.pop {s : Sy} (M : MSt K q d n (s :: st) sc B H) {vs : List V} (h1 : H q = some (.lst vs)) : ∃ v, vs[vs.length - 1]? = some v ∧ Dp K B v (symD s) ∧ Stp [q, d, n] B H B (upd H q (.lst vs.dropLast)) ∧ MSt K q d n st sc B (upd H q (.lst vs.dropLast)) := by
  obtain ⟨vs', h3, h4⟩ := M.hq
  rw [h1] at h3
  cases h3
  rw [List.reverse_cons, List.map_append] at h4
  obtain ⟨us, v, rfl, h5, h6⟩ := dpa_last (a := st.reverse.map symD) h4
  have s := Stp.put (ms := [q, d, n]) (o := .lst us) M.e M.bq (.head _)
  refine ⟨v, by rw [List.length_append]; simp, h6, ?_⟩
  rw [List.dropLast_concat]
  refine ⟨s, s.in_, ⟨_, upd_same, h5⟩, ?_, ?_, M.bq, M.bd, M.bn, M.qn⟩
  · rw [upd_ne M.qd.symm]; exact M.hd
  · rw [upd_ne M.qn.symm]; exact M.hn
/-- one draw or move fewer -/
theorem MSt.less (M : MSt K q d n st sc B H) {m : Nat} : Stp [q, d, n] B H B (upd H d (.dK (scD n m))) ∧ MSt K q d n st ⟨sc.vs, m⟩ B (upd H d (.dK (scD n m))) := by
  obtain ⟨vs, h3, h4⟩ := M.hq
  have s := Stp.put (ms := [q, d, n]) (o := .dK (scD n m)) M.e M.bd (by simp)
  exact ⟨s, s.in_, ⟨vs, by rw [upd_ne M.qd]; exact h3, h4⟩, upd_same, by rw [upd_ne M.nd]; exact M.hn, M.bq, M.bd, M.bn, M.qn⟩
/-- one name more -/
theorem MSt.name (M : MSt K q d n st sc B H) {x : Str} : Stp [q, d, n] B H B (upd H n (.lst (sc.vs.map V.str ++ [V.str x]))) ∧ MSt K q d n st ⟨sc.vs ++ [x], sc.left⟩ B (upd H n (.lst (sc.vs.map V.str ++ [V.str x]))) := by
  obtain ⟨vs, h3, h4⟩ := M.hq
  have s := Stp.put (ms := [q, d, n]) (o := .lst (sc.vs.map V.str ++ [V.str x])) M.e M.bn (by simp)
  exact ⟨s, s.in_, ⟨vs, by rw [upd_ne M.qn]; exact h3, h4⟩, by rw [upd_ne M.nd.symm]; exact M.hd, by rw [upd_same, List.map_append]; rfl, M.bq, M.bd, M.bn, M.qn⟩
end
section
variable {K : PySem.W.Frag} {q d n : Addr} {st : List Sy} {sc : Sc} {B H : Hp} {Q : VK}
theorem push2 {a b : Sy} {ta tb : List V} (M : MSt K q d n st sc B H) (hst : st.length ≤ 4000000) (ha : ∀ {H' : Hp} {u : Addr}, H' u = some (.tup ta) → Dp K H' (.ref u) (symD a)) (hb : ∀ {H' : Hp} {u : Addr}, H' u = some (.tup tb) → Dp K H' (.ref u) (symD b))
    {u1 u2 l : Addr} (n1 : H u1 = none) (n2 : (upd H u1 (.tup ta)) u2 = none) (nl : (upd (upd H u1 (.tup ta)) u2 (.tup tb)) l = none)
    (k : ∀ B2 H2, Stp [q, d, n] B H B2 H2 → MSt K q d n (b :: a :: st) sc B2 H2 → Q .non H2) : rExtend (.ref q) [.ref l] (upd (upd (upd H u1 (.tup ta)) u2 (.tup tb)) l (.lst [.ref u1, .ref u2])) Q := by
  obtain ⟨vs, hq, hv⟩ := M.hq
  have t2 := Stp.new (ms := []) (o := .tup ta) M.e n1
  have M2 := M.stp t2
  have t3 := Stp.new (ms := []) (o := .tup tb) M2.e n2
  have M3 := M2.stp t3
  have t4 := Stp.cell (ms := []) (o := .lst [V.ref u1, V.ref u2]) M3.e nl
  have M4 := M3.stp t4
  have hq4 := t4.fr q _ (by simp) (t3.fr q _ (by simp) (t2.fr q _ (by simp) hq))
  have hvl := dp_all_len hv
  rw [List.length_map, List.length_reverse] at hvl
  obtain ⟨s5, M5⟩ := M4.ext (l := [b, a]) (us := [.ref u1, .ref u2]) hq4 (.cons (ha (t3.base _ _ upd_same)) (.cons (hb upd_same) .nil))
  exact ⟨q, l, _, _, rfl, rfl, hq4, upd_same, Nat.le_of_lt (small_16m (by show _ + 2 ≤ _; omega)), k _ _ ((t2.trans (t3.trans t4)).nil.trans s5) M5⟩
theorem push1 {a : Sy} {ta : List V} (M : MSt K q d n st sc B H) (hst : st.length ≤ 4000000) (ha : ∀ {H' : Hp} {u : Addr}, H' u = some (.tup ta) → Dp K H' (.ref u) (symD a))
    {u1 : Addr} (n1 : H u1 = none)
    (k : ∀ B2 H2, Stp [q, d, n] B H B2 H2 → MSt K q d n (a :: st) sc B2 H2 → Q .non H2) : rAppend (.ref q) [.ref u1] (upd H u1 (.tup ta)) Q := by
  obtain ⟨vs, hq, hv⟩ := M.hq
  have t2 := Stp.new (ms := []) (o := .tup ta) M.e n1
  have M2 := M.stp t2
  have hq2 := t2.fr q _ (by simp) hq
  have hvl := dp_all_len hv
  rw [List.length_map, List.length_reverse] at hvl
  obtain ⟨s5, M5⟩ := M2.ext (l := [a]) (us := [.ref u1]) hq2 (.cons (ha upd_same) .nil)
  exact ⟨q, _, _, rfl, rfl, hq2, small_16m (by omega), k _ _ (t2.nil.trans s5) M5⟩
theorem push3 {a b c : Sy} {ta tb tc : List V} (M : MSt K q d n st sc B H) (hst : st.length ≤ 4000000) (ha : ∀ {H' : Hp} {u : Addr}, H' u = some (.tup ta) → Dp K H' (.ref u) (symD a)) (hb : ∀ {H' : Hp} {u : Addr}, H' u = some (.tup tb) → Dp K H' (.ref u) (symD b)) (hc : ∀ {H' : Hp} {u : Addr}, H' u = some (.tup tc) → Dp K H' (.ref u) (symD c))
    {u1 u2 u3 l : Addr} (n1 : H u1 = none) (n2 : (upd H u1 (.tup ta)) u2 = none) (n3 : (upd (upd H u1 (.tup ta)) u2 (.tup tb)) u3 = none) (nl : (upd (upd (upd H u1 (.tup ta)) u2 (.tup tb)) u3 (.tup tc)) l = none)
    (k : ∀ B2 H2, Stp [q, d, n] B H B2 H2 → MSt K q d n (c :: b :: a :: st) sc B2 H2 → Q .non H2) : rExtend (.ref q) [.ref l] (upd (upd (upd (upd H u1 (.tup ta)) u2 (.tup tb)) u3 (.tup tc)) l (.lst [.ref u1, .ref u2, .ref u3])) Q := by
  obtain ⟨vs, hq, hv⟩ := M.hq
  have t2 := Stp.new (ms := []) (o := .tup ta) M.e n1
  have M2 := M.stp t2
  have t3 := Stp.new (ms := []) (o := .tup tb) M2.e n2
  have M3 := M2.stp t3
  have t3' := Stp.new (ms := []) (o := .tup tc) M3.e n3
  have M3' := M3.stp t3'
  have t4 := Stp.cell (ms := []) (o := .lst [V.ref u1, V.ref u2, V.ref u3]) M3'.e nl
  have M4 := M3'.stp t4
  have hq4 := t4.fr q _ (by simp) (t3'.fr q _ (by simp) (t3.fr q _ (by simp) (t2.fr q _ (by simp) hq)))
  have hvl := dp_all_len hv
  rw [List.length_map, List.length_reverse] at hvl
  obtain ⟨s5, M5⟩ := M4.ext (l := [c, b, a]) (us := [.ref u1, .ref u2, .ref u3]) hq4 (.cons (ha (t3'.base _ _ (t3.base _ _ upd_same))) (.cons (hb (t3'.base _ _ upd_same)) (.cons (hc upd_same) .nil)))
  exact ⟨q, l, _, _, rfl, rfl, hq4, upd_same, Nat.le_of_lt (small_16m (by show _ + 3 ≤ _; omega)), k _ _ ((t2.trans (t3.trans (t3'.trans t4))).nil.trans s5) M5⟩
end
/-- how a step of the law goes on -/
def StepK (K : PySem.W.Frag) (q d n : Addr) (st : List Sy) (B H : Hp) (o : Option (List Sy × Sc)) (Q : VK) : Prop :=
  (∀ l sc2, o = some (l, sc2) → ∀ B2 H2, Stp [q, d, n] B H B2 H2 → MSt K q d n (l ++ st) sc2 B2 H2 → Q (.bl true) H2) ∧ (o = none → ∀ B2 H2, Stp [q, d, n] B H B2 H2 → Q (.bl false) H2)
theorem StepK.from_ {K : PySem.W.Frag} {q d n : Addr} {st : List Sy} {B H B1 H1 : Hp} {o : Option (List Sy × Sc)} {Q : VK} (k : StepK K q d n st B H o Q) (s : Stp [q, d, n] B H B1 H1) : StepK K q d n st B1 H1 o Q :=
  ⟨fun l sc2 h B2 H2 t M => k.1 l sc2 h B2 H2 (s.trans t) M, fun h B2 H2 t => k.2 h B2 H2 (s.trans t)⟩
section
variable {w : World} {K : PySem.W.Frag} {mg : Str → Option Value} {base : Heap}
theorem ev_dget {H : Hp} {d : Addr} {kvs : List (Key × V)} : True := trivial
def spVals (K : PySem.W.Frag) : Sp := fun us H Q _ => ∃ (B : Hp) (q d n : Addr) (st : List Sy) (sc : Sc) (x : Str) (r : Nat), us = [.ref q, .ref d, .str x, .int (r : Nat)] ∧ MSt K q d n st sc B H ∧ st.length ≤ 4000000 ∧ x.length ≤ 1000 ∧ StepK K q d n st B H (step sc x (.val r)) Q
theorem dpa_syms2 {H : Hp} {a b : Sy} {u v : V} (h1 : Dp K H u (symD a)) (h2 : Dp K H v (symD b)) : DpAll K H [u, v] ([b, a].reverse.map symD) := .cons h1 (.cons h2 .nil)
theorem fn_l_values (T : Txt K mg) : Fn P w K mg base 2 (ga K "_law_values") (spVals K) := by
  refine fn_def T.d_l_values sc_l_values (fun _ _ _ _ _ _ us hl => match us, hl with | [_, _, _, _], _ => rfl) (fun vs H Q E h => ?_) (fun cdv A outer s H vs Q E hr h => ?_)
  · obtain ⟨B, q, d, n, st, sc, x, r, rfl, _⟩ := h
    rfl
  obtain ⟨B, q, d, n, st, sc, x, r, rfl, M, hst, hx, k⟩ := h
  have nd := sc_l_values.nd
  refine ⟨_, pss_cons (ps_if (PW.pt (pw_and (pt_cmpR op_in_seq (pv 2) (pe_tup (pa_cons (pe_str) (pa_cons (pe_str) (pa_cons (pe_str) (pa_cons (pe_str) (pa_cons (pe_str) (pa_cons (pe_str) (pa_cons (pe_str) pa_nil)))))))) rfl) (pw_and1 (pt_cmpR op_gt (pv 3) (pe_int) (nomark _))))) (pss_cons (ps_expr (pe_bm PySem.F.plainAttrs_list PySem.F.slot_list_extend PySem.F.type_list_extend mt_extend (pv 0) (pa_cons (pe_lst (pa_cons (pe_tup (pa_cons (pe_str) (pa_cons (pe_op op_sub (pv 3) (pe_int)) pa_nil))) (pa_cons (pe_tup (pa_cons (pe_str) (pa_cons (pe_op op_sub (pv 3) (pe_int)) pa_nil))) pa_nil))) pa_nil)))
      (pss_one (ps_ret (pe_bl)))) (pss_nil))
      (pss_one (ps_ret (pe_or (pe_cmpR op_in_seq (pv 2) (pe_dget (hu_of hr) (pv 1) (pe_str) (fun _ _ => rfl)) rfl) (pe_one (pe_fn T.d_l_is_number (fn_l_is_number T) (hr.mono (by decide)) T.g_l_is_number pc (pa_cons (pv 2) (pa_cons (pe_int) (pa_cons (pe_int) pa_nil)))))))), ?_⟩
  refine q_when (b := decide (x ∈ SIGNS_) && decide (1 < r)) (et_and (et_test fun H1 e1 Q1 q1 => ⟨_, rfl, (by show 7 ≤ sizeLine; decide), fun t nt => ⟨t, SIGNS_.map V.str, rfl, .inr (SqT.of upd_same), rfl, flat_strs _, by show Q1 (V.bl (inV (.str x) (SIGNS_.map V.str))) _; rw [inV_strs]; exact q1 _ (Ex.new nt)⟩⟩) fun _ => et_test fun H1 e1 Q1 q1 => ⟨_, rfl, _, _, rfl, rfl, by
    show Q1 (V.bl (decide ((1 : Int) < (r : Nat)))) H1
    rw [show decide ((1 : Int) < (r : Nat)) = decide (1 < r) from decide_eq_decide.mpr (by omega)]
    exact q1 H1 (Ex.refl _)⟩) (fun c H1 x1 => ?_) fun c H1 x1 => ?_
  · rw [Bool.and_eq_true, decide_eq_true_eq, decide_eq_true_eq] at c
    have es : step sc x (.val r) = some ([.val (r - 1), .val (r - 1)], sc) := by rw [step_val, if_pos c]
    have er : ((r : Nat) : Int) - 1 = ((r - 1 : Nat) : Int) := by omega
    have M1 := M.ex x1
    have s1 := Stp.ofEx (ms := [q, d, n]) M.e x1
    obtain ⟨vs, hq, hv⟩ := M1.hq
    have d1 : ∀ {H' : Hp} {u : Addr}, H' u = some (.tup [V.str "value", V.int ((r : Int) - 1)]) → Dp K H' (.ref u) (symD (.val (r - 1))) := fun {H' u} h => by
      rw [er] at h
      exact .tup (SqT.of h) (.cons (.str _) (.cons (.int _) .nil))
    refine ⟨_, rfl, .inl ⟨rfl, _, SqL.of hq⟩, _, rfl, _, _, rfl, rfl, (by show 2 ≤ sizeLine; decide), fun u1 nu1 => ⟨_, rfl, _, _, rfl, rfl, (by show 2 ≤ sizeLine; decide), fun u2 nu2 => ⟨(by show 2 ≤ sizeLine; decide), fun l nl => ?_⟩⟩⟩
    dsimp only [tNil]
    exact push2 M1 hst (fun h => d1 h) (fun h => d1 h) nu1 nu2 nl fun B2 H2 s M2 => k.1 _ _ es _ _ (s1.trans s) M2
  · have hn : ¬ (x ∈ SIGNS_ ∧ 1 < r) := fun z => by
      rw [decide_eq_true z.1, decide_eq_true z.2] at c
      exact Bool.noConfusion c
    have es1 : x ∈ sc.vs ∨ IsNum x 0 65535 → step sc x (.val r) = some ([], sc) := fun z => by rw [step_val, if_neg hn, if_pos z]
    have es2 : ¬ (x ∈ sc.vs ∨ IsNum x 0 65535) → step sc x (.val r) = none := fun z => by rw [step_val, if_neg hn, if_neg z]
    have M1 := M.ex x1
    have s1 := Stp.ofEx (ms := [q, d, n]) M.e x1
    refine ⟨_, rfl, _, rfl, d, _, rfl, DGet.k (k := .inr "var") M1.hd, n, _, rfl, .inl (SqL.of M1.hn), rfl, flat_strs _, _, rfl, ?_⟩
    refine ite2 (fun c => ?_) fun c => ?_
    · have c' : inV (.str x) (sc.vs.map V.str) = true := c
      rw [inV_strs] at c'
      exact k.1 _ _ (es1 (.inl (of_decide_eq_true c'))) _ _ s1 M1
    · have c' : ¬ inV (.str x) (sc.vs.map V.str) = true := c
      rw [inV_strs] at c'
      have hm : x ∉ sc.vs := fun z => c' (decide_eq_true z)
      refine ⟨_, rfl, x, 0, 65535, rfl, hx, by decide, by decide, fun hnum H2 x2 => ?_, fun hnum H2 x2 => ?_⟩
      · exact k.1 _ _ (es1 (.inr hnum)) _ _ (s1.trans (Stp.ofEx M1.e x2)) (M1.ex x2)
      · exact k.2 (es2 fun z => z.elim hm hnum) _ _ (s1.trans (Stp.ofEx M1.e x2))
def spBegs (K : PySem.W.Frag) : Sp := fun us H Q _ => ∃ (B : Hp) (q d n : Addr) (st : List Sy) (sc : Sc) (x : Str) (r : Nat), us = [.ref q, .ref d, .str x, .int (r : Nat)] ∧ MSt K q d n st sc B H ∧ st.length ≤ 4000000 ∧ StepK K q d n st B H (begins sc x r) Q
theorem sym_v6 {H' : Hp} {u : Addr} (h : H' u = some (.tup [V.str "value", V.int 6])) : Dp K H' (.ref u) (symD (.val 6)) := .tup (SqT.of h) (.cons (.str _) (.cons (.int _) .nil))
theorem sym_one {H' : Hp} {u : Addr} (h : H' u = some (.tup [V.str "one"])) : Dp K H' (.ref u) (symD .one) := .tup (SqT.of h) (.cons (.str _) .nil)
theorem sym_seat {H' : Hp} {u : Addr} (h : H' u = some (.tup [V.str "seat"])) : Dp K H' (.ref u) (symD .seat) := .tup (SqT.of h) (.cons (.str _) .nil)
theorem sym_head {H' : Hp} {u : Addr} (h : H' u = some (.tup [V.str "head"])) : Dp K H' (.ref u) (symD .head) := .tup (SqT.of h) (.cons (.str _) .nil)
theorem sym_new {H' : Hp} {u : Addr} (h : H' u = some (.tup [V.str "new"])) : Dp K H' (.ref u) (symD .new) := .tup (SqT.of h) (.cons (.str _) .nil)
theorem sym_num {H' : Hp} {u : Addr} {a b : Int} (h : H' u = some (.tup [V.str "number", V.int a, V.int b])) : Dp K H' (.ref u) (symD (.num a b)) := .tup (SqT.of h) (.cons (.str _) (.cons (.int _) (.cons (.int _) .nil)))
theorem sym_blk {H' : Hp} {u : Addr} {r : Nat} {k : Kd} (h : H' u = some (.tup [V.str "block", V.int (r : Nat), V.str (kdS k)])) : Dp K H' (.ref u) (symD (.blk r k)) := .tup (SqT.of h) (.cons (.str _) (.cons (.int _) (.cons (.str _) .nil)))
theorem et_eqS {te : TE} {σ : L2.St} {H : Hp} {x z : Str} (h : Ev te σ H (.str x)) : EvT (tTest (tOp rEq te (tC (.str z)))) σ H (decide (x = z)) := et_test (ev_is (ev_op h ev_c (rv_eq rfl)) (congrArg V.bl (decide_eq_decide.mpr ⟨fun h => V.str.inj h, fun h => by rw [h]⟩)))
theorem and2 {a b : Prop} [Decidable a] [Decidable b] (h : (decide a && decide b) = true) : a ∧ b := by
  rw [Bool.and_eq_true, decide_eq_true_eq, decide_eq_true_eq] at h
  exact h
theorem and2n {a b : Prop} [Decidable a] [Decidable b] (h : (decide a && decide b) = false) : ¬ (a ∧ b) := fun z => by
  rw [decide_eq_true z.1, decide_eq_true z.2] at h
  exact Bool.noConfusion h
theorem fn_l_begins (T : Txt K mg) : Fn P w K mg base 1 (ga K "_law_begins") (spBegs K) := by
  refine fn_def T.d_l_begins sc_l_begins (fun _ _ _ _ _ _ us hl => match us, hl with | [_, _, _, _], _ => rfl) (fun vs H Q E h => ?_) (fun cdv A outer s H vs Q E hr h => ?_)
  · obtain ⟨B, q, d, n, st, sc, x, r, rfl, _⟩ := h
    rfl
  obtain ⟨B, q, d, n, st, sc, x, r, rfl, M, hst, k⟩ := h
  have nd := sc_l_begins.nd
  refine ⟨_, pss_cons (ps_set (i := 4) nd rfl (by first | exact Or.inl rfl | exact Or.inr rfl) (pe_cmpR op_gt (pe_callB call_len_seq (by rfl) T.f_len PySem.boot_len (pa_cons (pe_dget (hu_of hr) (pv 1) (pe_str) (fun _ _ => rfl)) pa_nil)) (pe_int) (nomark _)))
      (pss_cons (ps_if (PW.pt (pw_and (pt_cmpR op_eq (pv 2) (pe_str) (nomark _)) (pw_and1 (pt_val (pv 4))))) (pss_one (ps_expr (pe_bm PySem.F.plainAttrs_list PySem.F.slot_list_extend PySem.F.type_list_extend mt_extend (pv 0) (pa_cons (pe_lst (pa_cons (pe_tup (pa_cons (pe_str) (pa_cons (pe_int) pa_nil))) (pa_cons (pe_tup (pa_cons (pe_str) pa_nil)) pa_nil))) pa_nil)))) (pss_one (ps_if (PW.pt (pw_and (pt_cmpR op_in_seq (pv 2) (pe_tup (pa_cons (pe_str) (pa_cons (pe_str) (pa_cons (pe_str) pa_nil)))) rfl) (pw_and (pt_val (pv 4)) (pw_and1 (pt_cmpR op_gt (pe_dget (hu_of hr) (pv 1) (pe_str) (fun _ _ => rfl)) (pe_int) (nomark _)))))) (pss_cons (ps_dput (hu_of hr) (pv 1) (pe_str) (pe_op op_sub (pe_dget (hu_of hr) (pv 1) (pe_str) (fun _ _ => rfl)) (pe_int)) rfl)
      (pss_one (ps_expr (pe_bm PySem.F.plainAttrs_list PySem.F.slot_list_extend PySem.F.type_list_extend mt_extend (pv 0) (pa_cons (pe_lst (pa_cons (pe_tup (pa_cons (pe_str) (pa_cons (pe_int) (pa_cons (pe_int) pa_nil)))) (pa_cons (pe_tup (pa_cons (pe_str) pa_nil)) pa_nil))) pa_nil))))) (pss_one (ps_if (pt_cmpR op_eq (pv 2) (pe_str) (nomark _)) (pss_one (ps_expr (pe_bm PySem.F.plainAttrs_list PySem.F.slot_list_extend PySem.F.type_list_extend mt_extend (pv 0) (pa_cons (pe_lst (pa_cons (pe_tup (pa_cons (pe_str) (pa_cons (pe_int) pa_nil))) (pa_cons (pe_tup (pa_cons (pe_str) pa_nil)) pa_nil))) pa_nil)))) (pss_one (ps_if (PW.pt (pw_or (pt_cmpR op_eq (pv 2) (pe_str) (nomark _)) (pw_or1 (pt_cmpR op_eq (pv 2) (pe_str) (nomark _))))) (pss_one (ps_expr (pe_bm PySem.F.plainAttrs_list PySem.F.slot_list_append PySem.F.type_list_append mt_append (pv 0) (pa_cons (pe_tup (pa_cons (pe_str) (pa_cons (pe_int) pa_nil))) pa_nil)))) (pss_one (ps_if (PW.pt (pw_and (pt_cmpR op_eq (pv 2) (pe_str) (nomark _)) (pw_and1 (pt_cmpR op_gt (pv 3) (pe_int) (nomark _))))) (pss_one (ps_expr (pe_bm PySem.F.plainAttrs_list PySem.F.slot_list_extend PySem.F.type_list_extend mt_extend (pv 0) (pa_cons (pe_lst (pa_cons (pe_tup (pa_cons (pe_str) (pa_cons (pe_op op_sub (pv 3) (pe_int)) (pa_cons (pe_str) pa_nil)))) (pa_cons (pe_tup (pa_cons (pe_str) (pa_cons (pe_int) pa_nil))) pa_nil))) pa_nil)))) (pss_one (ps_ret (pe_bl))))))))))))
      (pss_one (ps_ret (pe_bl)))), ?_⟩
  refine ⟨_, rfl, d, _, rfl, DGet.k (k := .inr "var") M.hd, n, _, rfl, .inl (SqL.of M.hn), _, _, rfl, rfl, ?_⟩
  have en : decide ((0 : Int) < ((sc.vs.map V.str).length : Nat)) = decide (sc.vs ≠ []) := decide_eq_decide.mpr (by
    rw [List.length_map]
    cases sc.vs with
    | nil => simp
    | cons a l => simp)
  dsimp only [gName]
  rw [en]
  have go : ∀ {H1 : Hp}, Ex H H1 → Stp [q, d, n] B H B H1 ∧ MSt K q d n st sc B H1 := fun x1 => ⟨Stp.ofEx M.e x1, M.ex x1⟩
  -- set
  refine q_if (b := decide (x = "set") && decide (sc.vs ≠ [])) (et_and (et_eqS (ev_var rfl)) fun _ => et_B (ev_var rfl)) (fun c H1 x1 => ?_) fun c1 H1 x1 => ?_
  · obtain ⟨rfl, c2⟩ := and2 c
    obtain ⟨s1, M1⟩ := go x1
    obtain ⟨vs, hq, hv⟩ := M1.hq
    refine ⟨_, rfl, .inl ⟨rfl, _, SqL.of hq⟩, (by show 2 ≤ sizeLine; decide), fun u1 nu1 => ⟨(by show 1 ≤ sizeLine; decide), fun u2 nu2 => ⟨(by show 2 ≤ sizeLine; decide), fun l nl => ?_⟩⟩⟩
    dsimp only [tNil]
    exact push2 M1 hst sym_v6 sym_one nu1 nu2 nl fun B2 H2 s M2 => k.1 _ _ (beg_set c2) _ _ (s1.trans s) M2
  have c1 := and2n c1
  -- a draw or a move
  refine s_if (b := decide (x ∈ MV_) && (decide (sc.vs ≠ []) && decide (0 < sc.left))) (et_and (et_test fun H1 e1 Q1 q1 => ⟨_, rfl, (by show 3 ≤ sizeLine; decide), fun t nt => ⟨t, MV_.map V.str, rfl, .inr (SqT.of upd_same), rfl, flat_strs _, by show Q1 (V.bl (inV (.str x) (MV_.map V.str))) _; rw [inV_strs]; exact q1 _ (Ex.new nt)⟩⟩) fun _ => et_and (et_B (ev_var rfl)) fun _ => et_test fun H1 e1 Q1 q1 => ⟨_, rfl, d, _, rfl, DGet.k (k := .inr "left") (e1 _ _ (x1 _ _ M.hd)), _, _, rfl, rfl, by
    show Q1 (V.bl (decide ((0 : Int) < (sc.left : Nat)))) H1
    rw [show decide ((0 : Int) < (sc.left : Nat)) = decide (0 < sc.left) from decide_eq_decide.mpr (by omega)]
    exact q1 H1 (Ex.refl _)⟩) (fun c H2 x2 => ?_) fun c2 H2 x2 => ?_
  · rw [Bool.and_eq_true, Bool.and_eq_true, decide_eq_true_eq, decide_eq_true_eq, decide_eq_true_eq] at c
    obtain ⟨s1, M1⟩ := go (x1.trans x2)
    refine ⟨_, rfl, d, _, rfl, DGet.k (k := .inr "left") M1.hd, _, _, rfl, rfl, _, rfl, d, _, rfl, DPut.k (k := .inr "left") M1.hd (by show 2 < sizeLine; decide), ?_⟩
    have ep : putK (scD n sc.left) (.inr "left") (.int ((sc.left : Int) - 1)) = scD n (sc.left - 1) := by
      rw [show ((sc.left : Nat) : Int) - 1 = ((sc.left - 1 : Nat) : Int) by omega]
      rfl
    rw [ep]
    obtain ⟨s2, M2⟩ := M1.less (m := sc.left - 1)
    have s12 := s1.trans s2
    obtain ⟨vs, hq, hv⟩ := M2.hq
    refine ⟨_, rfl, .inl ⟨rfl, _, SqL.of hq⟩, (by show 3 ≤ sizeLine; decide), fun u1 nu1 => ⟨(by show 1 ≤ sizeLine; decide), fun u2 nu2 => ⟨(by show 2 ≤ sizeLine; decide), fun l nl => ?_⟩⟩⟩
    dsimp only [tNil]
    exact push2 M2 hst sym_num sym_one nu1 nu2 nl fun B2 H2 s M3 => k.1 _ _ (beg_mv c.1 c.2.1 c.2.2) _ _ (s12.trans s) M3
  have c2 : ¬ (x ∈ MV_ ∧ sc.vs ≠ [] ∧ 0 < sc.left) := fun z => by
    rw [decide_eq_true z.1, decide_eq_true z.2.1, decide_eq_true z.2.2] at c2
    exact Bool.noConfusion c2
  have x2 := x1.trans x2
  -- show
  refine s_if (b := decide (x = "show")) (et_eqS (ev_var rfl)) (fun c H3 x3 => ?_) fun c3 H3 x3 => ?_
  · have c := of_decide_eq_true c
    subst c
    obtain ⟨s1, M1⟩ := go (x2.trans x3)
    obtain ⟨vs, hq, hv⟩ := M1.hq
    refine ⟨_, rfl, .inl ⟨rfl, _, SqL.of hq⟩, (by show 2 ≤ sizeLine; decide), fun u1 nu1 => ⟨(by show 1 ≤ sizeLine; decide), fun u2 nu2 => ⟨(by show 2 ≤ sizeLine; decide), fun l nl => ?_⟩⟩⟩
    dsimp only [tNil]
    exact push2 M1 hst sym_v6 sym_seat nu1 nu2 nl fun B2 H2 s M2 => k.1 _ _ beg_show _ _ (s1.trans s) M2
  have c3 := of_decide_eq_false c3
  have x3 := x2.trans x3
  -- pay, take
  refine s_if (b := decide (x = "pay") || decide (x = "take")) (et_or (et_eqS (ev_var rfl)) fun _ => et_eqS (ev_var rfl)) (fun c H4 x4 => ?_) fun c4 H4 x4 => ?_
  · rw [Bool.or_eq_true, decide_eq_true_eq, decide_eq_true_eq] at c
    obtain ⟨s1, M1⟩ := go (x3.trans x4)
    obtain ⟨vs, hq, hv⟩ := M1.hq
    refine ⟨_, rfl, .inl ⟨rfl, _, SqL.of hq⟩, (by show 2 ≤ sizeLine; decide), fun u1 nu1 => ?_⟩
    dsimp only [tNil]
    exact push1 M1 hst sym_v6 nu1 fun B2 H2 s M2 => k.1 _ _ (beg_pay c) _ _ (s1.trans s) M2
  rw [Bool.or_eq_false_iff] at c4
  have c4 : ¬ (x = "pay" ∨ x = "take") := fun z => z.elim (of_decide_eq_false c4.1) (of_decide_eq_false c4.2)
  have x4 := x3.trans x4
  -- if
  refine s_if (b := decide (x = "if") && decide (0 < r)) (et_and (et_eqS (ev_var rfl)) fun _ => et_test fun H1 e1 Q1 q1 => ⟨_, rfl, _, _, rfl, rfl, by
    show Q1 (V.bl (decide ((0 : Int) < (r : Nat)))) H1
    rw [show decide ((0 : Int) < (r : Nat)) = decide (0 < r) from decide_eq_decide.mpr (by omega)]
    exact q1 H1 (Ex.refl _)⟩) (fun c H5 x5 => ?_) fun c5 H5 x5 => ?_
  · obtain ⟨rfl, hr0⟩ := and2 c
    obtain ⟨s1, M1⟩ := go (x4.trans x5)
    obtain ⟨vs, hq, hv⟩ := M1.hq
    have er : ((r : Nat) : Int) - 1 = ((r - 1 : Nat) : Int) := by omega
    have d1 : ∀ {H' : Hp} {u : Addr}, H' u = some (.tup [V.str "block", V.int ((r : Int) - 1), V.str "then"]) → Dp K H' (.ref u) (symD (.blk (r - 1) .thn)) := fun {H' u} h => by
      rw [er] at h
      exact sym_blk h
    refine ⟨_, rfl, .inl ⟨rfl, _, SqL.of hq⟩, _, rfl, _, _, rfl, rfl, (by show 3 ≤ sizeLine; decide), fun u1 nu1 => ⟨(by show 2 ≤ sizeLine; decide), fun u2 nu2 => ⟨(by show 2 ≤ sizeLine; decide), fun l nl => ?_⟩⟩⟩
    dsimp only [tNil]
    exact push2 M1 hst (fun h => d1 h) sym_v6 nu1 nu2 nl fun B2 H2 s M2 => k.1 _ _ (beg_if hr0) _ _ (s1.trans s) M2
  have c5 := and2n c5
  obtain ⟨s1, M1⟩ := go (x4.trans x5)
  exact k.2 (beg_none c1 c2 c3 c4 c5) _ _ s1
end
end LL
namespace LL
open PySem PySem.Spec PyProof.Rows L2 He Evl
theorem kd_then : ∀ k : Kd, kdS k = "then" ↔ k = .thn := by
  intro k; cases k <;> decide +kernel
theorem kd_else : ∀ k : Kd, kdS k = "else" ↔ k = .els := by
  intro k; cases k <;> decide +kernel
theorem kd_emp : ∀ k : Kd, kdS k = "empty" ↔ k = .emp := by
  intro k; cases k <;> decide +kernel
def TE_ : List Str := ["then", "else"]
section
variable {w : World} {K : PySem.W.Frag} {mg : Str → Option Value} {base : Heap}
def spBlks (K : PySem.W.Frag) : Sp := fun us H Q _ => ∃ (B : Hp) (q d n : Addr) (st : List Sy) (sc : Sc) (x : Str) (r : Nat) (k : Kd), us = [.ref q, .ref d, .str x, .int (r : Nat), .str (kdS k)] ∧ MSt K q d n st sc B H ∧ st.length ≤ 3999999 ∧ StepK K q d n st B H (step sc x (.blk r k)) Q
theorem fn_l_blocks (T : Txt K mg) : Fn P w K mg base 2 (ga K "_law_blocks") (spBlks K) := by
  refine fn_def T.d_l_blocks sc_l_blocks (fun _ _ _ _ _ _ us hl => match us, hl with | [_, _, _, _, _], _ => rfl) (fun vs H Q E h => ?_) (fun cdv A outer s H vs Q E hr h => ?_)
  · obtain ⟨B, q, d, n, st, sc, x, r, kd, rfl, _⟩ := h
    rfl
  obtain ⟨B, q, d, n, st, sc, x, r, kd, rfl, M, hst, k⟩ := h
  have nd := sc_l_blocks.nd
  refine ⟨_, pss_cons (ps_if (PW.pt (pw_and (pt_cmpR op_eq (pv 2) (pe_str) (nomark _)) (pw_and1 (pt_cmpR op_in_seq (pv 4) (pe_tup (pa_cons (pe_str) (pa_cons (pe_str) pa_nil))) rfl)))) (pss_one (ps_ret (pe_bl))) (pss_nil))
      (pss_cons (ps_if (PW.pt (pw_and (pt_cmpR op_eq (pv 2) (pe_str) (nomark _)) (pw_and1 (pt_cmpR op_eq (pv 4) (pe_str) (nomark _))))) (pss_cons (ps_expr (pe_bm PySem.F.plainAttrs_list PySem.F.slot_list_append PySem.F.type_list_append mt_append (pv 0) (pa_cons (pe_tup (pa_cons (pe_str) (pa_cons (pv 3) (pa_cons (pe_str) pa_nil)))) pa_nil)))
      (pss_one (ps_ret (pe_bl)))) (pss_nil))
      (pss_cons (ps_if (pt_cmpR op_eq (pv 4) (pe_str) (nomark _)) (pss_one (ps_set (i := 4) nd rfl (by first | exact Or.inl rfl | exact Or.inr rfl) (pe_str))) (pss_nil))
      (pss_cons (ps_expr (pe_bm PySem.F.plainAttrs_list PySem.F.slot_list_append PySem.F.type_list_append mt_append (pv 0) (pa_cons (pe_tup (pa_cons (pe_str) (pa_cons (pv 3) (pa_cons (pv 4) pa_nil)))) pa_nil)))
      (pss_one (ps_ret (pe_fn T.d_l_begins (fn_l_begins T) (hr.mono (by decide)) T.g_l_begins pc (pa_cons (pv 0) (pa_cons (pv 1) (pa_cons (pv 2) (pa_cons (pv 3) pa_nil)))))))))), ?_⟩
  have go : ∀ {H1 : Hp}, Ex H H1 → Stp [q, d, n] B H B H1 ∧ MSt K q d n st sc B H1 := fun x1 => ⟨Stp.ofEx M.e x1, M.ex x1⟩
  refine q_when (b := decide (x = "end") && decide (kdS kd ∈ TE_)) (et_and (et_eqS (ev_var rfl)) fun _ => et_test fun H1 e1 Q1 q1 => ⟨_, rfl, (by show 2 ≤ sizeLine; decide), fun t nt => ⟨t, TE_.map V.str, rfl, .inr (SqT.of upd_same), rfl, flat_strs _, by show Q1 (V.bl (inV (.str (kdS kd)) (TE_.map V.str))) _; rw [inV_strs]; exact q1 _ (Ex.new nt)⟩⟩) (fun c H1 x1 => ?_) fun c1 H1 x1 => ?_
  · obtain ⟨rfl, c2⟩ := and2 c
    obtain ⟨s1, M1⟩ := go x1
    have hk : kd = .thn ∨ kd = .els := by
      rcases List.mem_cons.mp c2 with h | h
      · exact .inl ((kd_then _).mp h)
      · exact .inr ((kd_else _).mp (List.mem_singleton.mp h))
    exact k.1 _ _ (blk_end hk) _ _ s1 M1
  have c1 : ¬ (x = "end" ∧ (kd = .thn ∨ kd = .els)) := fun z => and2n c1 ⟨z.1, by rcases z.2 with rfl | rfl; exact .head _; exact .tail _ (.head _)⟩
  refine q_when (b := decide (x = "else") && decide (kdS kd = "then")) (et_and (et_eqS (ev_var rfl)) fun _ => et_eqS (ev_var rfl)) (fun c H2 x2 => ?_) fun c2 H2 x2 => ?_
  · obtain ⟨rfl, c2⟩ := and2 c
    have hk := (kd_then _).mp c2
    subst hk
    obtain ⟨s1, M1⟩ := go (x1.trans x2)
    obtain ⟨vs, hq, hv⟩ := M1.hq
    refine ⟨_, rfl, .inl ⟨rfl, _, SqL.of hq⟩, _, rfl, (by show 3 ≤ sizeLine; decide), fun u1 nu1 => ?_⟩
    dsimp only [tNil]
    exact push1 M1 (by omega) (a := .blk r .emp) (fun h => sym_blk h) nu1 fun B2 H2 s M2 => k.1 _ _ blk_else _ _ (s1.trans s) M2
  have c2 : ¬ (x = "else" ∧ kd = .thn) := fun z => and2n c2 ⟨z.1, (kd_then _).mpr z.2⟩
  refine q_ifAsg (b := decide (kdS kd = "empty")) (v := .str (kdS (nextK kd))) (et_eqS (ev_var rfl)) (fun c => ?_) (fun c => ?_) fun H3 x3 => ?_
  · have hk := (kd_emp _).mp (of_decide_eq_true c)
    subst hk
    exact ev_c
  · have hk : kd ≠ .emp := fun z => of_decide_eq_false c ((kd_emp _).mpr z)
    cases kd with
    | emp => exact absurd rfl hk
    | _ => rfl
  obtain ⟨s3, M3⟩ := go (x1.trans (x2.trans x3))
  obtain ⟨vs, hq, hv⟩ := M3.hq
  refine ⟨_, rfl, .inl ⟨rfl, _, SqL.of hq⟩, _, rfl, _, rfl, (by show 3 ≤ sizeLine; decide), fun u1 nu1 => ?_⟩
  dsimp only [tNil]
  refine push1 M3 (by omega) (a := .blk r (nextK kd)) (fun h => sym_blk h) nu1 fun B4 H4 s4 M4 => ?_
  refine ⟨_, rfl, _, rfl, _, rfl, _, rfl, B4, q, d, n, .blk r (nextK kd) :: st, sc, x, r, rfl, M4, by rw [List.length_cons]; omega, fun l sc2 hb B5 H5 s5 M5 => ?_, fun hb B5 H5 s5 => ?_⟩
  · refine k.1 _ _ (blk_beg hb kd) _ _ (s3.trans (s4.trans s5)) ?_
    rw [List.append_assoc]
    exact M5
  · exact k.2 (blk_none hb kd c1 c2) _ _ (s3.trans (s4.trans s5))
def symN : Sy → Str
  | .one => "one"
  | .seat => "seat"
  | .num _ _ => "number"
  | .val _ => "value"
  | .blk _ _ => "block"
  | .head => "head"
  | .new => "new"
theorem sym_parts {H : Hp} {v : V} {s : Sy} (h : Dp K H v (symD s)) : ∃ (a : Addr) (vs : List V), v = .ref a ∧ SqT K H a vs ∧ vs[0]? = some (.str (symN s)) ∧ (∀ lo hi, s = .num lo hi → vs = [.str "number", .int lo, .int hi]) ∧ (∀ r, s = .val r → vs = [.str "value", .int (r : Nat)]) ∧ (∀ r k, s = .blk r k → vs = [.str "block", .int (r : Nat), .str (kdS k)]) := by
  cases s with
  | num lo hi =>
    obtain ⟨a, vs, rfl, sx, d0⟩ := dp_tup h
    obtain ⟨_, rfl, d1⟩ := dpa_s d0
    obtain ⟨_, rfl, d2⟩ := dpa_i d1
    obtain ⟨_, rfl, d3⟩ := dpa_i d2
    cases dpa_n d3
    exact ⟨a, _, rfl, sx, rfl, fun _ _ h => by cases h; rfl, nofun, nofun⟩
  | val r =>
    obtain ⟨a, vs, rfl, sx, d0⟩ := dp_tup h
    obtain ⟨_, rfl, d1⟩ := dpa_s d0
    obtain ⟨_, rfl, d2⟩ := dpa_i d1
    cases dpa_n d2
    exact ⟨a, _, rfl, sx, rfl, nofun, fun _ h => by cases h; rfl, nofun⟩
  | blk r k =>
    obtain ⟨a, vs, rfl, sx, d0⟩ := dp_tup h
    obtain ⟨_, rfl, d1⟩ := dpa_s d0
    obtain ⟨_, rfl, d2⟩ := dpa_i d1
    obtain ⟨_, rfl, d3⟩ := dpa_s d2
    cases dpa_n d3
    exact ⟨a, _, rfl, sx, rfl, nofun, nofun, fun _ _ h => by cases h; rfl⟩
  | one =>
    obtain ⟨a, vs, rfl, sx, d0⟩ := dp_tup h
    obtain ⟨_, rfl, d1⟩ := dpa_s d0
    cases dpa_n d1
    exact ⟨a, _, rfl, sx, rfl, nofun, nofun, nofun⟩
  | seat =>
    obtain ⟨a, vs, rfl, sx, d0⟩ := dp_tup h
    obtain ⟨_, rfl, d1⟩ := dpa_s d0
    cases dpa_n d1
    exact ⟨a, _, rfl, sx, rfl, nofun, nofun, nofun⟩
  | head =>
    obtain ⟨a, vs, rfl, sx, d0⟩ := dp_tup h
    obtain ⟨_, rfl, d1⟩ := dpa_s d0
    cases dpa_n d1
    exact ⟨a, _, rfl, sx, rfl, nofun, nofun, nofun⟩
  | new =>
    obtain ⟨a, vs, rfl, sx, d0⟩ := dp_tup h
    obtain ⟨_, rfl, d1⟩ := dpa_s d0
    cases dpa_n d1
    exact ⟨a, _, rfl, sx, rfl, nofun, nofun, nofun⟩
end
theorem sn_one : ∀ s : Sy, symN s = "one" → s = .one := by intro s h; cases s <;> first | rfl | exact absurd h (by dsimp only [symN]; decide +kernel)
theorem sn_seat : ∀ s : Sy, symN s = "seat" → s = .seat := by intro s h; cases s <;> first | rfl | exact absurd h (by dsimp only [symN]; decide +kernel)
theorem sn_num : ∀ s : Sy, symN s = "number" → ∃ a b, s = .num a b := by intro s h; cases s <;> first | exact ⟨_, _, rfl⟩ | exact absurd h (by dsimp only [symN]; decide +kernel)
theorem sn_val : ∀ s : Sy, symN s = "value" → ∃ r, s = .val r := by intro s h; cases s <;> first | exact ⟨_, rfl⟩ | exact absurd h (by dsimp only [symN]; decide +kernel)
theorem sn_blk : ∀ s : Sy, symN s = "block" → ∃ r k, s = .blk r k := by intro s h; cases s <;> first | exact ⟨_, _, rfl⟩ | exact absurd h (by dsimp only [symN]; decide +kernel)
theorem sn_head : ∀ s : Sy, symN s = "head" → s = .head := by intro s h; cases s <;> first | rfl | exact absurd h (by dsimp only [symN]; decide +kernel)
/-- numbers that may be asked -/
def Sy.ok : Sy → Prop
  | .num lo hi => 0 ≤ lo ∧ hi ≤ 65535
  | _ => True
section
variable {w : World} {K : PySem.W.Frag} {mg : Str → Option Value} {base : Heap}
def spNext (K : PySem.W.Frag) : Sp := fun us H Q _ => ∃ (B : Hp) (q d n : Addr) (s : Sy) (st : List Sy) (sc : Sc) (x : Str), us = [.ref q, .ref d, .str x] ∧ MSt K q d n (s :: st) sc B H ∧ s.ok ∧ st.length ≤ 3999999 ∧ sc.vs.length ≤ 1000000 ∧ x.length ≤ 1000 ∧ StepK K q d n st B H (step sc x s) Q
theorem fn_l_next (T : Txt K mg) : Fn P w K mg base 3 (ga K "_law_next") (spNext K) := by
  refine fn_def T.d_l_next sc_l_next (fun _ _ _ _ _ _ us hl => match us, hl with | [_, _, _], _ => rfl) (fun vs H Q E h => ?_) (fun cdv A outer s H vs Q E hr h => ?_)
  · obtain ⟨B, q, d, n, s, st, sc, x, rfl, _⟩ := h
    rfl
  obtain ⟨B, q, d, n, s, st, sc, x, rfl, M, hok, hst, hvl, hx, k⟩ := h
  have nd := sc_l_next.nd
  refine ⟨_, pss_cons (ps_set (i := 3) nd rfl (by first | exact Or.inl rfl | exact Or.inr rfl) (pe_bm0 PySem.F.plainAttrs_list PySem.F.slot_list_pop PySem.F.type_list_pop mt_pop (pv 0)))
      (pss_cons (ps_if (pt_cmpR op_eq (pe_ix ix_tup (pv 3) (pe_int) (fun _ _ => rfl)) (pe_str) (nomark _)) (pss_one (ps_ret (pe_cmpR op_in_seq (pv 2) (pe_dget (hu_of hr) (pv 1) (pe_str) (fun _ _ => rfl)) rfl))) (pss_nil))
      (pss_cons (ps_if (pt_cmpR op_eq (pe_ix ix_tup (pv 3) (pe_int) (fun _ _ => rfl)) (pe_str) (nomark _)) (pss_one (ps_ret (pe_cmpR op_in_seq (pv 2) (pe_tup (pa_cons (pe_str) (pa_cons (pe_str) pa_nil))) rfl))) (pss_nil))
      (pss_cons (ps_if (pt_cmpR op_eq (pe_ix ix_tup (pv 3) (pe_int) (fun _ _ => rfl)) (pe_str) (nomark _)) (pss_one (ps_ret (pe_fn T.d_l_is_number (fn_l_is_number T) (hr.mono (by decide)) T.g_l_is_number pc (pa_cons (pv 2) (pa_cons (pe_ix ix_tup (pv 3) (pe_int) (fun _ _ => rfl)) (pa_cons (pe_ix ix_tup (pv 3) (pe_int) (fun _ _ => rfl)) pa_nil)))))) (pss_nil))
      (pss_cons (ps_if (pt_cmpR op_eq (pe_ix ix_tup (pv 3) (pe_int) (fun _ _ => rfl)) (pe_str) (nomark _)) (pss_one (ps_ret (pe_fn T.d_l_values (fn_l_values T) (hr.mono (by decide)) T.g_l_values pc (pa_cons (pv 0) (pa_cons (pv 1) (pa_cons (pv 2) (pa_cons (pe_ix ix_tup (pv 3) (pe_int) (fun _ _ => rfl)) pa_nil))))))) (pss_nil))
      (pss_cons (ps_if (pt_cmpR op_eq (pe_ix ix_tup (pv 3) (pe_int) (fun _ _ => rfl)) (pe_str) (nomark _)) (pss_one (ps_ret (pe_fn T.d_l_blocks (fn_l_blocks T) (hr.mono (by decide)) T.g_l_blocks pc (pa_cons (pv 0) (pa_cons (pv 1) (pa_cons (pv 2) (pa_cons (pe_ix ix_tup (pv 3) (pe_int) (fun _ _ => rfl)) (pa_cons (pe_ix ix_tup (pv 3) (pe_int) (fun _ _ => rfl)) pa_nil)))))))) (pss_nil))
      (pss_cons (ps_if (pt_cmpR op_eq (pe_ix ix_tup (pv 3) (pe_int) (fun _ _ => rfl)) (pe_str) (nomark _)) (pss_cons (ps_if (PW.pt (pw_and (pt_cmpR op_eq (pv 2) (pe_str) (nomark _)) (pw_and1 (pt_cmpR op_lt (pe_callB call_len_seq (by rfl) T.f_len PySem.boot_len (pa_cons (pe_dget (hu_of hr) (pv 1) (pe_str) (fun _ _ => rfl)) pa_nil)) (pe_int) (nomark _))))) (pss_cons (ps_expr (pe_bm PySem.F.plainAttrs_list PySem.F.slot_list_extend PySem.F.type_list_extend mt_extend (pv 0) (pa_cons (pe_lst (pa_cons (pe_tup (pa_cons (pe_str) pa_nil)) (pa_cons (pe_tup (pa_cons (pe_str) (pa_cons (pe_int) (pa_cons (pe_int) pa_nil)))) (pa_cons (pe_tup (pa_cons (pe_str) pa_nil)) pa_nil)))) pa_nil)))
      (pss_one (ps_ret (pe_bl)))) (pss_nil))
      (pss_one (ps_ret (pe_fn T.d_l_blocks (fn_l_blocks T) (hr.mono (by decide)) T.g_l_blocks pc (pa_cons (pv 0) (pa_cons (pv 1) (pa_cons (pv 2) (pa_cons (pe_int) (pa_cons (pe_str) pa_nil))))))))) (pss_nil))
      (pss_cons (ps_set (i := 4) nd rfl (by first | exact Or.inl rfl | exact Or.inr rfl) (pe_dget (hu_of hr) (pv 1) (pe_str) (fun _ _ => rfl)))
      (pss_cons (ps_if (PW.pt (pw_or (pt_cmpR op_in_seq (pv 2) (pv 4) rfl) (pw_or1 (pt_not (pt_val (pe_fn T.d_l_is_name (fn_l_is_name T) (hr.mono (by decide)) T.g_l_is_name pc (pa_cons (pv 2) pa_nil))))))) (pss_one (ps_ret (pe_bl))) (pss_nil))
      (pss_cons (ps_expr (pe_bm PySem.F.plainAttrs_list PySem.F.slot_list_append PySem.F.type_list_append mt_append (pv 4) (pa_cons (pv 2) pa_nil)))
      (pss_one (ps_ret (pe_bl)))))))))))), ?_⟩
  obtain ⟨vs, hq, hv⟩ := M.hq
  obtain ⟨v, hv1, hvd, s0, M0⟩ := M.pop hq
  refine ⟨_, rfl, .inl ⟨rfl, _, SqL.of hq⟩, q, vs, v, rfl, rfl, hq, hv1, ?_⟩
  obtain ⟨a, us, rfl, sx, h0, hnum, hval, hblk⟩ := sym_parts hvd
  dsimp only [gName]
  have go : ∀ {H1 : Hp}, Ex (upd H q (.lst vs.dropLast)) H1 → Stp [q, d, n] B H B H1 ∧ MSt K q d n st sc B H1 ∧ SqT K H1 a us := fun x1 => ⟨s0.trans (Stp.ofEx M0.e x1), M0.ex x1, ex_t (M0.ex x1).e sx⟩
  have et : ∀ {H1 : Hp} (z : Str), Ex (upd H q (.lst vs.dropLast)) H1 → EvT (tTest (tOp rEq (tOp (rIxT K) (tVar 3) (tC (.int 0))) (tC (.str z)))) [some (.ref q), some (.ref d), some (.str x), some (.ref a), none] H1 (decide (symN s = z)) := fun z x1 => et_eqS (ev_op (ev_var rfl) ev_c (rv_ixT (go x1).2.2 (atI_nat (j := 0) h0)))
  generalize hH0 : upd H q (.lst vs.dropLast) = H0 at go et M0 s0
  -- one
  refine q_when (et "one" (Ex.refl _)) (fun c H1 x1 => ?_) fun c1 H1 x1 => ?_
  · have := sn_one s (of_decide_eq_true c)
    subst this
    obtain ⟨s1, M1, _⟩ := go x1
    refine ⟨_, rfl, _, rfl, d, _, rfl, DGet.k (k := .inr "var") M1.hd, n, _, rfl, .inl (SqL.of M1.hn), rfl, flat_strs _, ?_⟩
    show Q (V.bl (inV (.str x) (sc.vs.map V.str))) H1
    rw [inV_strs]
    by_cases z : x ∈ sc.vs
    · rw [decide_eq_true z]
      exact k.1 [] sc (by rw [step_one, if_pos z]) _ _ s1 M1
    · rw [decide_eq_false z]
      exact k.2 (by rw [step_one, if_neg z]) _ _ s1
  have c1 := of_decide_eq_false c1
  -- seat
  refine q_when (et "seat" x1) (fun c H2 x2 => ?_) fun c2 H2 x2 => ?_
  · have := sn_seat s (of_decide_eq_true c)
    subst this
    obtain ⟨s1, M1, _⟩ := go (x1.trans x2)
    refine ⟨_, rfl, (by show 2 ≤ sizeLine; decide), fun t nt => ⟨t, CC_.map V.str, rfl, .inr (SqT.of upd_same), rfl, flat_strs _, ?_⟩⟩
    have xt := Ex.new (o := .tup (CC_.map V.str)) nt
    show Q (V.bl (inV (.str x) (CC_.map V.str))) _
    rw [inV_strs]
    by_cases z : x ∈ CC_
    · rw [decide_eq_true z]
      exact k.1 [] sc (by rw [step_seat]; exact if_pos (cc_mem.mp z)) _ _ (s1.trans (Stp.ofEx M1.e xt)) (M1.ex xt)
    · rw [decide_eq_false z]
      exact k.2 (by rw [step_seat]; exact if_neg fun y => z (cc_mem.mpr y)) _ _ (s1.trans (Stp.ofEx M1.e xt))
  have c2 := of_decide_eq_false c2
  have x2 := x1.trans x2
  -- number
  refine q_when (et "number" x2) (fun c H3 x3 => ?_) fun c3 H3 x3 => ?_
  · obtain ⟨lo, hi, rfl⟩ := sn_num s (of_decide_eq_true c)
    have := hnum _ _ rfl
    subst this
    obtain ⟨s1, M1, sx1⟩ := go (x2.trans x3)
    refine ⟨_, rfl, _, rfl, a, _, _, _, rfl, rfl, sx1, rfl, _, rfl, a, _, _, _, rfl, rfl, sx1, rfl, x, lo, hi, rfl, hx, hok.1, hok.2, fun hnum H4 x4 => ?_, fun hnum H4 x4 => ?_⟩
    · exact k.1 [] sc (by rw [step_num, if_pos hnum]) _ _ (s1.trans (Stp.ofEx M1.e x4)) (M1.ex x4)
    · exact k.2 (by rw [step_num, if_neg hnum]) _ _ (s1.trans (Stp.ofEx M1.e x4))
  have c3 := of_decide_eq_false c3
  have x3 := x2.trans x3
  -- value
  refine q_when (et "value" x3) (fun c H4 x4 => ?_) fun c4 H4 x4 => ?_
  · obtain ⟨r, rfl⟩ := sn_val s (of_decide_eq_true c)
    have := hval _ rfl
    subst this
    obtain ⟨s1, M1, sx1⟩ := go (x3.trans x4)
    exact ⟨_, rfl, _, rfl, _, rfl, _, rfl, a, _, _, _, rfl, rfl, sx1, rfl, B, q, d, n, st, sc, x, r, rfl, M1, by omega, hx, k.from_ s1⟩
  have c4 := of_decide_eq_false c4
  have x4 := x3.trans x4
  -- block
  refine q_when (et "block" x4) (fun c H5 x5 => ?_) fun c5 H5 x5 => ?_
  · obtain ⟨r, kd, rfl⟩ := sn_blk s (of_decide_eq_true c)
    have := hblk _ _ rfl
    subst this
    obtain ⟨s1, M1, sx1⟩ := go (x4.trans x5)
    exact ⟨_, rfl, _, rfl, _, rfl, _, rfl, a, _, _, _, rfl, rfl, sx1, rfl, _, rfl, a, _, _, _, rfl, rfl, sx1, rfl, B, q, d, n, st, sc, x, r, kd, rfl, M1, hst, k.from_ s1⟩
  have c5 := of_decide_eq_false c5
  have x5 := x4.trans x5
  -- head
  refine q_when (et "head" x5) (fun c H6 x6 => ?_) fun c6 H6 x6 => ?_
  · have := sn_head s (of_decide_eq_true c)
    subst this
    have x6 := x5.trans x6
    refine q_when (b := decide (x = "var") && decide (sc.vs.length < 5)) (et_and (et_eqS (ev_var rfl)) fun _ => et_test fun H1 e1 Q1 q1 => ⟨_, rfl, d, _, rfl, DGet.k (k := .inr "var") (e1 _ _ (go x6).2.1.hd), n, _, rfl, .inl (SqL.of (e1 _ _ (go x6).2.1.hn)), _, _, rfl, rfl, by
      show Q1 (V.bl (decide (((sc.vs.map V.str).length : Int) < 5))) H1
      rw [List.length_map, show decide (((sc.vs.length : Nat) : Int) < 5) = decide (sc.vs.length < 5) from decide_eq_decide.mpr (by omega)]
      exact q1 H1 (Ex.refl _)⟩) (fun c7 H7 x7 => ?_) fun c7 H7 x7 => ?_
    · have c7 := and2 c7
      obtain ⟨s1, M1, _⟩ := go (x6.trans x7)
      obtain ⟨vs1, hq1, hv1⟩ := M1.hq
      refine ⟨_, rfl, .inl ⟨rfl, _, SqL.of hq1⟩, (by show 1 ≤ sizeLine; decide), fun u1 nu1 => ⟨(by show 3 ≤ sizeLine; decide), fun u2 nu2 => ⟨(by show 1 ≤ sizeLine; decide), fun u3 nu3 => ⟨(by show 3 ≤ sizeLine; decide), fun l nl => ?_⟩⟩⟩⟩
      dsimp only [tNil]
      exact push3 M1 (by omega) sym_head sym_num sym_new nu1 nu2 nu3 nl fun B2 H2 s M2 => k.1 _ _ (by rw [step_head, if_pos c7]) _ _ (s1.trans s) M2
    · have c7 := and2n c7
      obtain ⟨s1, M1, _⟩ := go (x6.trans x7)
      refine ⟨_, rfl, _, rfl, _, rfl, B, q, d, n, st, sc, x, 4, .game, rfl, M1, hst, ?_⟩
      have e : step sc x .head = step sc x (.blk 4 .game) := by rw [step_head, if_neg c7, step_blk]
      rw [← e]
      exact k.from_ s1
  have c6 := of_decide_eq_false c6
  have hs : s = .new := by
    cases s with
    | new => rfl
    | one => exact absurd rfl c1
    | seat => exact absurd rfl c2
    | num _ _ => exact absurd rfl c3
    | val _ => exact absurd rfl c4
    | blk _ _ => exact absurd rfl c5
    | head => exact absurd rfl c6
  subst hs
  -- a new name
  obtain ⟨s1, M1, _⟩ := go (x5.trans x6)
  refine ⟨_, rfl, d, _, rfl, DGet.k (k := .inr "var") M1.hd, ?_⟩
  dsimp only [gName]
  obtain ⟨bn, hbn⟩ : ∃ bn : Bool, bn = true ↔ IsName x := by
    by_cases z : IsName x
    · exact ⟨true, fun _ => z, fun _ => rfl⟩
    · exact ⟨false, fun y => Bool.noConfusion y, fun y => absurd y z⟩
  refine q_when (b := decide (x ∈ sc.vs) || !bn) (et_or (et_test fun H1 e1 Q1 q1 => ⟨_, rfl, _, rfl, n, _, rfl, .inl (SqL.of (e1 _ _ M1.hn)), rfl, flat_strs _, by show Q1 (V.bl (inV (.str x) (sc.vs.map V.str))) H1; rw [inV_strs]; exact q1 H1 (Ex.refl _)⟩) fun _ => et_not (et_B fun H1 e1 Q1 q1 => ⟨_, rfl, x, rfl, hx, fun hn H2 x2 => ?_, fun hn H2 x2 => ?_⟩)) (fun c H7 x7 => ?_) fun c H7 x7 => ?_
  · rw [hbn.mpr hn] at q1
    exact q1 H2 x2
  · have : bn = false := by
      cases bn with
      | true => exact absurd (hbn.mp rfl) hn
      | false => rfl
    rw [this] at q1
    exact q1 H2 x2
  · refine k.2 ?_ _ _ (s1.trans (Stp.ofEx M1.e x7))
    rw [step_new]
    refine if_neg fun z => ?_
    rw [decide_eq_false z.1, hbn.mpr z.2] at c
    exact Bool.noConfusion c
  · rw [Bool.or_eq_false_iff] at c
    have hni : x ∉ sc.vs := of_decide_eq_false c.1
    have hnm : IsName x := hbn.mp (by have := c.2; cases bn <;> simp_all)
    have M7 := M1.ex x7
    have s7 := s1.trans (Stp.ofEx M1.e x7)
    obtain ⟨s8, M8⟩ := M7.name (x := x)
    refine ⟨_, rfl, .inl ⟨rfl, _, SqL.of M7.hn⟩, _, rfl, n, _, _, rfl, rfl, M7.hn, small_2m (by rw [List.length_map]; omega), ?_⟩
    exact k.1 [] ⟨sc.vs ++ [x], sc.left⟩ (by rw [step_new, if_pos ⟨hni, hnm⟩]) _ _ (s7.trans s8) M8
end
end LL
namespace LL
open PySem PySem.Spec PyProof.Rows L2 He Evl
theorem units65 {A : Around} (r : Room 1 A) : A.units + 65 < cLine := by have := r.un; omega
def Bot (st : List Sy) : Prop := ∃ l, st = l ++ [.head] ∨ st = l ++ [.blk 4 .game]
theorem bot_ne {st : List Sy} (h : Bot st) : ∃ s r, st = s :: r := by
  obtain ⟨l, h⟩ := h
  rcases h with rfl | rfl <;> cases l <;> exact ⟨_, _, rfl⟩
theorem bot_app {st : List Sy} (h : Bot st) (l : List Sy) : Bot (l ++ st) := by
  obtain ⟨m, h⟩ := h
  rcases h with rfl | rfl
  · exact ⟨l ++ m, .inl (by rw [List.append_assoc])⟩
  · exact ⟨l ++ m, .inr (by rw [List.append_assoc])⟩
section
open Classical
theorem begs_all {sc sc2 : Sc} {w : Str} {r : Nat} {l : List Sy} (h : begins sc w r = some (l, sc2)) : l.length ≤ 2 ∧ (∀ s ∈ l, s.ok) ∧ sc2.vs = sc.vs := by
  unfold begins at h
  split at h
  · cases h; exact ⟨by simp, by simp [Sy.ok], rfl⟩
  split at h
  · cases h; exact ⟨by simp, by simp [Sy.ok], rfl⟩
  split at h
  · cases h; exact ⟨by simp, by simp [Sy.ok], rfl⟩
  split at h
  · cases h; exact ⟨by simp, by simp [Sy.ok], rfl⟩
  split at h
  · cases h; exact ⟨by simp, by simp [Sy.ok], rfl⟩
  · cases h
theorem stepB_all {sc sc2 : Sc} {w : Str} {r : Nat} {k : Kd} {l : List Sy} (h : stepB sc w r k = some (l, sc2)) : l.length ≤ 3 ∧ (∀ s ∈ l, s.ok) ∧ sc2.vs = sc.vs ∧ (k = .game → ∃ m, l = m ++ [.blk r .game]) := by
  unfold stepB at h
  split at h
  next c =>
    cases h
    exact ⟨by simp, by simp, rfl, fun z => by subst z; rcases c.2 with y | y <;> cases y⟩
  split at h
  next c =>
    cases h
    exact ⟨by simp, by simp [Sy.ok], rfl, fun z => by subst z; cases c.2⟩
  cases hb : begins sc w r with
  | none => rw [hb] at h; cases h
  | some x =>
    rw [hb] at h
    cases h
    obtain ⟨h1, h2, h3⟩ := begs_all (l := x.1) (sc2 := x.2) hb
    refine ⟨by rw [List.length_append]; simp; omega, fun s hs => ?_, h3, fun z => ⟨x.1, by subst z; rfl⟩⟩
    rcases List.mem_append.mp hs with hs | hs
    · exact h2 s hs
    · rw [List.mem_singleton.mp hs]; trivial
theorem step_all {sc sc2 : Sc} {w : Str} {s : Sy} {st l : List Sy} (h : step sc w s = some (l, sc2)) (hb : Bot (s :: st)) : l.length ≤ 3 ∧ (∀ s ∈ l, s.ok) ∧ sc2.vs.length ≤ sc.vs.length + 1 ∧ Bot (l ++ st) := by
  have low : ∀ {s}, Bot (s :: st) → s ≠ .head → s ≠ .blk 4 .game → Bot st := fun {s} hb h1 h2 => by
    obtain ⟨m, hm⟩ := hb
    cases m with
    | nil => rcases hm with hm | hm <;> cases hm
             · exact absurd rfl h1
             · exact absurd rfl h2
    | cons t m =>
      rcases hm with hm | hm
      · exact ⟨m, .inl (List.cons.inj hm).2⟩
      · exact ⟨m, .inr (List.cons.inj hm).2⟩
  cases s with
  | one =>
    rw [step_one] at h
    split at h
    · cases h; exact ⟨by simp, by simp, by omega, low hb nofun nofun⟩
    · cases h
  | seat =>
    rw [step_seat] at h
    split at h
    · cases h; exact ⟨by simp, by simp, by omega, low hb nofun nofun⟩
    · cases h
  | num a b =>
    rw [step_num] at h
    split at h
    · cases h; exact ⟨by simp, by simp, by omega, low hb nofun nofun⟩
    · cases h
  | val r =>
    rw [step_val] at h
    split at h
    · cases h; exact ⟨by simp, by simp [Sy.ok], by omega, bot_app (low hb nofun nofun) _⟩
    split at h
    · cases h; exact ⟨by simp, by simp, by omega, low hb nofun nofun⟩
    · cases h
  | new =>
    rw [step_new] at h
    split at h
    · cases h; exact ⟨by simp, by simp, by rw [List.length_append]; simp, low hb nofun nofun⟩
    · cases h
  | blk r k =>
    rw [step_blk] at h
    obtain ⟨h1, h2, h3, h4⟩ := stepB_all h
    refine ⟨h1, h2, by rw [h3]; omega, ?_⟩
    by_cases z : (Sy.blk r k) = .blk 4 .game
    · cases z
      obtain ⟨m, rfl⟩ := h4 rfl
      rw [List.append_assoc]
      obtain ⟨t, ht⟩ := hb
      exact bot_app ⟨t, ht⟩ m
    · exact bot_app (low hb nofun z) l
  | head =>
    rw [step_head] at h
    split at h
    · cases h
      refine ⟨by simp, by simp [Sy.ok], by omega, ?_⟩
      exact bot_app (st := .head :: st) hb [.new, .num 1 65535]
    · obtain ⟨h1, h2, h3, h4⟩ := stepB_all h
      refine ⟨h1, h2, by rw [h3]; omega, ?_⟩
      obtain ⟨m, rfl⟩ := h4 rfl
      obtain ⟨t, ht⟩ := hb
      rw [List.append_assoc]
      refine bot_app ?_ m
      cases t with
      | nil =>
        rcases ht with ht | ht
        · cases ht
          exact ⟨[], .inr rfl⟩
        · cases ht
      | cons u t =>
        refine bot_app (st := st) ?_ [_]
        rcases ht with ht | ht
        · exact ⟨t, .inl (List.cons.inj ht).2⟩
        · exact ⟨t, .inr (List.cons.inj ht).2⟩
theorem lay_ends : PyData.canLayAll0 [PyData.list [symD .head], PyData.list [symD (.blk 4 .game)]] = true := by
  have h1 := lay_syms [.head]
  have h2 := lay_syms [.blk 4 .game]
  show (PyData.canLayAll0 [symD .head] && (PyData.canLayAll0 [symD (.blk 4 .game)] && true)) = true
  have h1 : PyData.canLayAll0 [symD .head] = true := h1
  have h2 : PyData.canLayAll0 [symD (.blk 4 .game)] = true := h2
  rw [h1, h2]
  rfl
/-- what the law finds wrong -/
noncomputable def wrongO (W : List Str) : Option Nat := match eat [.head] ⟨[], 10⟩ W with
  | .stop i => some i
  | .out st => if st = [.head] ∨ st = [.blk 4 .game] then none else some W.length
  | .over => none
end
def oV : Option Nat → V
  | some i => .int (i : Nat)
  | none => .non
section
variable {w : World} {K : PySem.W.Frag} {mg : Str → Option Value} {base : Heap}
def spWrong (K : PySem.W.Frag) : Sp := fun us H Q _ => ∃ (a : Addr) (W : List Str), us = [.ref a] ∧ SqL K H a (W.map V.str) ∧ W.length ≤ 600000 ∧ (∀ x ∈ W, x.length ≤ 1000) ∧ ∀ H2, Ex H H2 → Q (oV (wrongO W)) H2
theorem fn_l_wrong (T : Txt K mg) : Fn P w K mg base 4 (ga K "_law_wrong") (spWrong K) := by
  refine fn_def T.d_l_wrong sc_l_wrong (fun _ _ _ _ _ _ us hl => match us, hl with | [_], _ => rfl) (fun vs H Q E h => ?_) (fun cdv A outer s H vs Q E hr h => ?_)
  · obtain ⟨a, W, rfl, _⟩ := h
    rfl
  obtain ⟨a, W, rfl, ha, hl, hx, k⟩ := h
  have nd := sc_l_wrong.nd
  refine ⟨_, pss_cons (ps_set (i := 1) nd rfl (by first | exact Or.inl rfl | exact Or.inr rfl) (pe_disp (pps_cons (pe_str) (pe_lst pa_nil) (pps_cons (pe_str) (pe_int) pps_nil)) rfl rfl (by intro h; cases h) (by decide)))
      (pss_cons (ps_set (i := 2) nd rfl (by first | exact Or.inl rfl | exact Or.inr rfl) (pe_lst (pa_cons (pe_tup (pa_cons (pe_str) pa_nil)) pa_nil)))
      (pss_cons (ps_for (passes_of rfl) rfl (pi_range1 rfl T.f_range (pa_cons (pe_callB call_len_seq (by rfl) T.f_len PySem.boot_len (pa_cons (pv 0) pa_nil)) pa_nil)) (pg_name (i := 3) nd rfl (by first | exact Or.inl rfl | exact Or.inr rfl)) (pss_one (ps_if (pt_not (pt_val (pe_fn T.d_l_next (fn_l_next T) (hr.mono (by decide)) T.g_l_next pc (pa_cons (pv 2) (pa_cons (pv 1) (pa_cons (pe_ix ix_list (pv 0) (pv 3) (fun _ _ => rfl)) pa_nil)))))) (pss_one (ps_ret (pv 3))) (pss_nil))))
      (pss_cons (ps_if (pt_cmpR (op_inDT (units65 (hr.mono (by decide)))) (pv 2) (pe_tup (pa_cons (pe_lst (pa_cons (pe_tup (pa_cons (pe_str) pa_nil)) pa_nil)) (pa_cons (pe_lst (pa_cons (pe_tup (pa_cons (pe_str) (pa_cons (pe_int) (pa_cons (pe_str) pa_nil)))) pa_nil)) pa_nil))) rfl) (pss_one (ps_ret (pe_non))) (pss_nil))
      (pss_one (ps_ret (pe_callB call_len_seq (by rfl) T.f_len PySem.boot_len (pa_cons (pv 0) pa_nil))))))), ?_⟩
  refine fun d nd0 => ⟨(by show 0 ≤ sizeLine; decide), fun n nn => ?_⟩
  have t1 := Stp.cell (ms := []) (o := .dK []) (Ex.refl H) nd0
  have t2 := Stp.cell (ms := []) (o := .lst []) t1.in_ nn
  have hd2 : (upd (upd H d (.dK [])) n (.lst [])) d = some (.dK []) := t2.fr d _ (by simp) upd_same
  refine ⟨hd2, [(.inr "var", .ref n), (.inr "left", .int 10)], rfl, (by show 2 ≤ 15; decide), ?_⟩
  have em : mergeK ([] : List (Key × V)) [(.inr "var", .ref n), (.inr "left", .int 10)] = scD n 10 := rfl
  rw [em]
  have t3 := Stp.put (ms := [d]) (o := .dK (scD n 10)) t2.in_ nd0 (.head _)
  have hnd : n ≠ d := fun z => by rw [z] at nn; rw [upd_same] at nn; cases nn
  have hn3 : (upd (upd (upd H d (.dK [])) n (.lst [])) d (.dK (scD n 10))) n = some (.lst []) := by rw [upd_ne hnd]; exact upd_same
  have hd3 : (upd (upd (upd H d (.dK [])) n (.lst [])) d (.dK (scD n 10))) d = some (.dK (scD n 10)) := upd_same
  have hnH : H n = none := ex_none t1.in_ nn
  have e3 := t3.in_
  generalize (upd (upd (upd H d (.dK [])) n (.lst [])) d (.dK (scD n 10))) = H3 at e3 hn3 hd3
  dsimp only [gName]
  refine ⟨(by show 1 ≤ sizeLine; decide), fun u nu => ⟨(by show 1 ≤ sizeLine; decide), fun q nq => ?_⟩⟩
  have t4 := Stp.new (ms := []) (o := .tup [V.str "head"]) e3 nu
  have t5 := Stp.cell (ms := []) (o := .lst [V.ref u]) t4.in_ nq
  have M5 : MSt K q d n [.head] ⟨[], 10⟩ (upd H u (.tup [V.str "head"])) (upd (upd H3 u (.tup [V.str "head"])) q (.lst [V.ref u])) := by
    refine ⟨t5.in_, ⟨_, upd_same, .cons (sym_head upd_same) .nil⟩, t5.fr _ _ (by simp) (t4.fr _ _ (by simp) hd3), t5.fr _ _ (by simp) (t4.fr _ _ (by simp) hn3), ex_none t4.in_ nq, t4.off nd0 hd3, t4.off hnH hn3, fun z => ?_⟩
    have := t4.fr n _ (by simp) hn3
    rw [← z, nq] at this
    cases this
  have e5 : Ex H (upd H u (.tup [V.str "head"])) := t4.base
  generalize (upd (upd H3 u (.tup [V.str "head"])) q (.lst [V.ref u])) = H5 at M5
  generalize (upd H u (.tup [V.str "head"])) = B5 at M5 e5
  clear t1 t2 t3 t4 t5 hd2 hn3 hd3 e3 hnH nn nd0 nu nq
  dsimp only [gName]
  have sqa : ∀ {B' H' : Hp} {st sc}, Ex H B' → MSt K q d n st sc B' H' → SqL K H' a (W.map V.str) := fun e M => ex_l (e.trans M.e) ha
  refine ⟨_, rfl, a, _, rfl, .inl (sqa e5 M5), _, rfl, by omega, by rw [List.length_map]; omega, ?_⟩
  rw [List.length_map]
  refine for_range (lo := 0) (n := (W.length : Int).toNat) (fun i σ H' => ∃ (B' : Hp) (st : List Sy) (sc : Sc) (v3 : Option V), Ex H B' ∧ MSt K q d n st sc B' H' ∧ Bot st ∧ (∀ s ∈ st, s.ok) ∧ st.length ≤ 1 + 3 * i ∧ sc.vs.length ≤ i ∧ eat [.head] ⟨[], 10⟩ W = Out.by i (eat st sc (W.drop i)) ∧ σ = [some (.ref a), some (.ref d), some (.ref q), v3]) ?_ ?_ ?_
  · exact ⟨B5, [.head], ⟨[], 10⟩, none, e5, M5, ⟨[], .inl rfl⟩, by simp [Sy.ok], by simp, by simp, rfl, rfl⟩
  · rintro i σ H' hi ⟨B', st, sc, v3, e, M, hb, hok, hsl, hvl, he, rfl⟩
    have e0 : (0 : Int) + (i : Int) = (i : Int) := Int.zero_add _
    have hiW : i < W.length := by omega
    have hxi : W[i]? = some W[i] := List.getElem?_eq_getElem hiW
    have hdi : W.drop i = W[i] :: W.drop (i + 1) := List.drop_eq_getElem_cons hiW
    obtain ⟨s, st, rfl⟩ := bot_ne hb
    rw [hdi] at he
    have hxl := hx _ (List.getElem_mem hiW)
    generalize W[i] = x at hxi he hxl hdi
    show tIfS _ _ _ _ [some (.ref a), some (.ref d), some (.ref q), some (.int ((0 : Int) + (i : Int)))] H'
    rw [e0]
    refine ⟨_, rfl, _, rfl, _, rfl, _, rfl, a, _, _, _, rfl, rfl, sqa e M, atI_nat (by rw [List.getElem?_map, hxi]; rfl), B', q, d, n, s, st, sc, x, rfl, M, hok s (.head _), by rw [List.length_cons] at hsl; omega, by omega, hxl, fun l sc2 hs B2 H2 s2 M2 => ?_, fun hs B2 H2 s2 => ?_⟩
    · obtain ⟨a1, a2, a3, a4⟩ := step_all hs hb
      refine ⟨_, rfl, iteF ⟨B2, l ++ st, sc2, _, e.trans s2.base, M2, a4, fun t ht => ?_, ?_, by omega, ?_, rfl⟩⟩
      · rcases List.mem_append.mp ht with ht | ht
        · exact a2 t ht
        · exact hok t (.tail _ ht)
      · rw [List.length_append]
        rw [List.length_cons] at hsl
        omega
      · rw [he, eat_cons hs, show (eat (l ++ st) sc2 (W.drop (i + 1))).more = Out.by 1 (eat (l ++ st) sc2 (W.drop (i + 1))) from rfl, by_by]
    · refine ⟨_, rfl, iteT ⟨_, rfl, ?_⟩⟩
      rw [eat_bad hs, by_stop, Nat.zero_add] at he
      have := k H2 (e.trans (s2.base.trans s2.in_))
      unfold wrongO at this
      rw [he] at this
      exact this
  · rintro σ H' ⟨B', st, sc, v3, e, M, hb, hok, hsl, hvl, he, rfl⟩
    rw [show ((W.length : Nat) : Int).toNat = W.length by omega, List.drop_length] at he
    obtain ⟨s, r, hst⟩ := bot_ne hb
    have hout : eat st sc [] = .out st := by rw [hst]; rfl
    rw [hout, by_out] at he
    have hw : wrongO W = if st = [.head] ∨ st = [.blk 4 .game] then none else some W.length := by
      unfold wrongO
      rw [he]
    obtain ⟨vs, hq, hv⟩ := M.hq
    have hrev : (st.reverse = [.head] ∨ st.reverse = [.blk 4 .game]) ↔ (st = [.head] ∨ st = [.blk 4 .game]) := by
      constructor
      · rintro (h | h)
        · exact .inl (by rw [← List.reverse_reverse st, h]; rfl)
        · exact .inr (by rw [← List.reverse_reverse st, h]; rfl)
      · rintro (h | h)
        · exact .inl (by rw [h]; rfl)
        · exact .inr (by rw [h]; rfl)
    dsimp only
    refine q_when (b := [PyData.list [symD .head], PyData.list [symD (.blk 4 .game)]].any fun z => PyData.eqv z (.list (st.reverse.map symD))) (et_test fun H1 e1 Q1 q1 => ?_) (fun c H1 x1 => ?_) fun c H1 x1 => ?_
    · refine ⟨_, rfl, (by show 1 ≤ sizeLine; decide), fun u1 nu1 => ⟨(by show 1 ≤ sizeLine; decide), fun l1 nl1 => ⟨(by show 3 ≤ sizeLine; decide), fun u2 nu2 => ⟨(by show 1 ≤ sizeLine; decide), fun l2 nl2 => ⟨(by show 2 ≤ sizeLine; decide), fun t nt => ?_⟩⟩⟩⟩⟩
      have x1 := Ex.new (o := .tup [V.str "head"]) nu1
      have x2 := Ex.new (o := .lst [V.ref u1]) nl1
      have x3 := Ex.new (o := .tup [V.str "block", V.int 4, V.str "game"]) nu2
      have x4 := Ex.new (o := .lst [V.ref u2]) nl2
      have x5 := Ex.new (o := .tup [V.ref l1, V.ref l2]) nt
      have x35 := x3.trans (x4.trans x5)
      have x15 := x1.trans (x2.trans x35)
      refine ⟨.list (st.reverse.map symD), [.list [symD .head], .list [symD (.blk 4 .game)]], ?_, ?_, ?_, ?_, by decide, q1 _ x15⟩
      · exact .lst (SqL.of (x15 _ _ (e1 _ _ hq))) (dpa_mono (M.e.trans (e1.trans x15)) hv)
      · refine .tup (SqT.of upd_same) (.cons (.lst (SqL.of (x35 _ _ upd_same)) (.cons (sym_head ((x2.trans x35) _ _ upd_same)) .nil)) (.cons (.lst (SqL.of (x5 _ _ upd_same)) (.cons (sym_blk (r := 4) (k := .game) ((x4.trans x5) _ _ upd_same)) .nil)) .nil))
      · exact lay_syms _
      · exact lay_ends
    · rw [any_ends] at c
      have c := hrev.mp (of_decide_eq_true c)
      have := k H1 (e.trans (M.e.trans x1))
      rw [hw, if_pos c] at this
      exact this
    · rw [any_ends] at c
      have c : ¬ (st = [.head] ∨ st = [.blk 4 .game]) := fun z => of_decide_eq_false c (hrev.mpr z)
      have := k H1 (e.trans (M.e.trans x1))
      rw [hw, if_neg c] at this
      refine ⟨_, rfl, a, _, rfl, .inl (ex_l x1 (sqa e M)), ?_⟩
      rw [List.length_map]
      exact this
end
end LL
namespace LL
open PySem PySem.Spec PyProof.Rows L2 He Evl
/-! ### readings beside the pool: the base B grows, the pool at p changes, nothing else -/
structure Wd (p : Addr) (B H : Hp) : Prop where
  e : Ex B H
  b : B p = none
  P : Pool p B H
theorem Wd.stp {p : Addr} {B H B2 H2 : Hp} (w : Wd p B H) (a : Stp [p] B H B2 H2) (P : Pool p B2 H2) : Wd p B2 H2 := ⟨a.in_, a.off w.b w.P.at.choose_spec, P⟩
theorem Wd.ex {p : Addr} {B H H2 : Hp} (w : Wd p B H) (x : Ex H H2) : Stp [p] B H B H2 ∧ Wd p B H2 := by
  obtain ⟨o, ho⟩ := w.P.at
  exact ⟨Stp.ofEx w.e x, ⟨w.e.trans x, w.b, w.P.of (Ex.refl B) ((x _ _ ho).trans ho.symm)⟩⟩
theorem Wd.new {p a : Addr} {o : HO} {B H : Hp} (w : Wd p B H) (n : H a = none) : Stp [p] B H (upd B a o) (upd H a o) ∧ Wd p (upd B a o) (upd H a o) := by
  have s := Stp.new (ms := [p]) (o := o) w.e n
  exact ⟨s, w.stp s (w.P.n2 w.e n)⟩
/-- a new cell that is no thing of the base -/
theorem Wd.cell {p a : Addr} {o : HO} {B H : Hp} (w : Wd p B H) (n : H a = none) : Wd p B (upd H a o) := ⟨Ex.mut w.e (ex_none w.e n), w.b, w.P.n1 n⟩
theorem Wd.put {p a : Addr} {o : HO} {B H : Hp} (w : Wd p B H) (n : B a = none) (m : a ≠ p) : Wd p B (upd H a o) := ⟨Ex.mut w.e n, w.b, w.P.p1 m⟩
/-- what was found new goes into the base -/
theorem Wd.adopt {p a : Addr} {o : HO} {B H H2 : Hp} (w : Wd p B H) (x : Ex H H2) (n : H a = none) (h : H2 a = some o) : Stp [p] B H (upd B a o) H2 ∧ Wd p (upd B a o) H2 := by
  obtain ⟨s, w2⟩ := w.ex x
  have nb : B a = none := ex_none w.e n
  obtain ⟨k1, k2⟩ := Stp.keep w2.e h nb
  have s3 : Stp [p] B H (upd B a o) H2 := ⟨k1, k2, fun b h1 h2 => by
    rw [upd_ne (fun z => by subst z; exact h2 n)]; exact h1, s.fr, s.al⟩
  exact ⟨s3, w.stp s3 (w2.P.of k1 rfl)⟩
theorem Wd.refl {p : Addr} {B H : Hp} (w : Wd p B H) : Stp [p] B H B H := Stp.refl w.e
def GK {α : Type} (p : Addr) (k : Hp → (α → Hp → Prop) → Prop) (B : Hp) (R : α → Hp → Prop) : Prop :=
  ∀ B1 H1, Ex B B1 → Wd p B1 H1 → ∀ Q : α → Hp → Prop, (∀ v B2 H2, Stp [p] B1 H1 B2 H2 → Wd p B2 H2 → R v B2 → Q v H2) → k H1 Q
/-- an int from 0 on, below n -/
theorem base_pool {p : Addr} {H : Hp} {P : Pl} (h : PoolAt H p P) : ∃ B, Ex B H ∧ B p = none ∧ Pool p B H := by
  obtain ⟨h1, h2, h3⟩ := h
  have hne : P.at_ ≠ p := fun z => by
    rw [z, h1] at h2
    have := congrArg List.length (HO.lst.inj (Option.some.inj h2))
    have h4 := HO.lst.inj (Option.some.inj h2)
    cases hc : P.cells with
    | nil => rw [hc] at h4; cases h4
    | cons x r => rw [hc] at h4; cases h4
  refine ⟨fun b => if b = p then none else H b, fun b o hb => ?_, if_pos rfl, P, h1, ?_, h3⟩
  · by_cases z : b = p
    · simp [z] at hb
    · simpa [z] using hb
  · show (if P.at_ = p then none else H P.at_) = _
    rw [if_neg hne]
    exact h2
abbrev RI (n : Int) : V → Hp → Prop := fun v _ => ∃ r : Int, v = .int r ∧ 0 ≤ r ∧ r < n
section
variable {α β : Type} {p : Addr} {B B' H : Hp} {R R' : α → Hp → Prop} {k : Hp → (α → Hp → Prop) → Prop}
theorem GK.mono (e : Ex B B') (h : GK p k B R) : GK p k B' R := fun B1 H1 x w Q q => h B1 H1 (e.trans x) w Q q
theorem GK.imp (h : GK p k B R) (f : ∀ v B1, Ex B B1 → R v B1 → R' v B1) : GK p k B R' := fun B1 H1 x w Q q => h B1 H1 x w Q fun v B2 H2 s w2 r => q v B2 H2 s w2 (f v B2 (x.trans s.base) r)
theorem GK.go (h : GK p k B R) (w : Wd p B H) {Q : α → Hp → Prop} (q : ∀ v B2 H2, Stp [p] B H B2 H2 → Wd p B2 H2 → R v B2 → Q v H2) : k H Q := h B H (Ex.refl B) w Q q
theorem gk_pure {v : α} (h : ∀ B1, Ex B B1 → R v B1) : GK p (fun H Q => Q v H) B R := fun B1 H1 x w Q q => q v B1 H1 w.refl w (h B1 x)
theorem gk_bind {k2 : α → Hp → (β → Hp → Prop) → Prop} {S : β → Hp → Prop} (h : GK p k B R) (g : ∀ v B1, Ex B B1 → R v B1 → GK p (k2 v) B1 S) : GK p (fun H Q => k H fun v H1 => k2 v H1 Q) B S := fun B1 H1 x w Q q =>
  h B1 H1 x w _ fun v B2 H2 s w2 r => g v B2 (x.trans s.base) r B2 H2 (Ex.refl B2) w2 Q fun u B3 H3 s3 w3 z => q u B3 H3 (s.trans s3) w3 z
end
section
variable {p : Addr} {B : Hp} {σ : L2.St} {te ta tb : TE} {R R1 R2 : V → Hp → Prop} {v : V} {xs : List V} {i : Nat}
theorem gk_ev (h : Ev te σ B v) (r : ∀ B1, Ex B B1 → R v B1) : GK p (te σ) B R := fun B1 H1 x w Q q => h H1 (x.trans w.e) Q fun H2 x2 => by
  obtain ⟨s, w2⟩ := w.ex x2
  exact q v B1 H2 s w2 (r B1 x)
theorem gk_val (h : Ev te σ B v) : GK p (te σ) B (fun w _ => w = v) := gk_ev h fun _ _ => rfl
theorem gk_var (h : σ[i]? = some (some v)) (r : ∀ B1, Ex B B1 → R v B1) : GK p (tVar i σ) B R := gk_ev (ev_var h) r
theorem gk_c (r : ∀ B1, Ex B B1 → R v B1) : GK p (tC v σ) B R := gk_ev ev_c r
/-- a new list, a new tuple that the reading leaves behind new things of its own -/
theorem gk_newL (r : ∀ B1 a, Ex B B1 → B1 a = some (.lst xs) → R (.ref a) B1) : GK p (fun H Q => ∀ l, H l = none → Q (.ref l) (upd H l (.lst xs))) B R := fun B1 H1 x w Q q l nl => by
  obtain ⟨s, w2⟩ := w.new (o := .lst xs) nl
  exact q _ _ _ s w2 (r _ l (x.trans s.base) upd_same)
theorem gk_newT (r : ∀ B1 a, Ex B B1 → B1 a = some (.tup xs) → R (.ref a) B1) : GK p (fun H Q => ∀ l, H l = none → Q (.ref l) (upd H l (.tup xs))) B R := fun B1 H1 x w Q q l nl => by
  obtain ⟨s, w2⟩ := w.new (o := .tup xs) nl
  exact q _ _ _ s w2 (r _ l (x.trans s.base) upd_same)
/-- what holds of the heap beside goes into the base: an object that was found new -/
theorem gk_evL (h : EvL te σ B xs) (r : ∀ B1 a, Ex B B1 → B1 a = some (.lst xs) → R (.ref a) B1) : GK p (te σ) B R := fun B1 H1 x w Q q => h H1 (x.trans w.e) Q fun a H2 na x2 ha => by
  obtain ⟨s, w2⟩ := w.ex x2
  have nb : B1 a = none := ex_none w.e na
  obtain ⟨k1, k2⟩ := Stp.keep w2.e ha nb
  have s3 : Stp [p] B1 H1 (upd B1 a (.lst xs)) H2 := ⟨k1, k2, fun b h1 h2 => by
    rw [upd_ne (fun z => by subst z; exact h2 na)]; exact h1, s.fr, s.al⟩
  exact q _ _ H2 s3 (w.stp s3 (w2.P.of k1 rfl)) (r _ a (x.trans k1) upd_same)
theorem gk_evU (h : EvU te σ B xs) (r : ∀ B1 a, Ex B B1 → B1 a = some (.tup xs) → R (.ref a) B1) : GK p (te σ) B R := fun B1 H1 x w Q q => h H1 (x.trans w.e) Q fun a H2 na x2 ha => by
  obtain ⟨s, w2⟩ := w.ex x2
  have nb : B1 a = none := ex_none w.e na
  obtain ⟨k1, k2⟩ := Stp.keep w2.e ha nb
  have s3 : Stp [p] B1 H1 (upd B1 a (.tup xs)) H2 := ⟨k1, k2, fun b h1 h2 => by
    rw [upd_ne (fun z => by subst z; exact h2 na)]; exact h1, s.fr, s.al⟩
  exact q _ _ H2 s3 (w.stp s3 (w2.P.of k1 rfl)) (r _ a (x.trans k1) upd_same)
theorem gk_op {r : L2.R2} (h1 : GK p (ta σ) B R1) (h2 : ∀ x B1, Ex B B1 → R1 x B1 → GK p (tb σ) B1 (fun y B2 => GK p (r x y) B2 R)) : GK p (tOp r ta tb σ) B R :=
  gk_bind (k2 := fun x H Q => tb σ H fun y H2 => r x y H2 Q) h1 fun x B1 e1 r1 => gk_bind (k2 := fun y => r x y) (h2 x B1 e1 r1) fun _ _ _ z => z
theorem gk_rv {r : L2.R2} {x y z : V} (h : RV r x y B z) (k : ∀ B1, Ex B B1 → R z B1) : GK p (r x y) B R := fun B1 H1 e w Q q => h H1 (e.trans w.e) Q fun H2 x2 => by
  obtain ⟨s, w2⟩ := w.ex x2
  exact q z B1 H2 s w2 (k B1 e)
theorem gk_nil {R : List V → Hp → Prop} (h : ∀ B1, Ex B B1 → R [] B1) : GK p (tNil σ) B R := gk_pure h
theorem gk_cons {ta : TE} {tr : TA} {R : List V → Hp → Prop} (h1 : GK p (ta σ) B R1) (h2 : ∀ x B1, Ex B B1 → R1 x B1 → GK p (tr σ) B1 (fun vs B2 => R (x :: vs) B2)) : GK p (tCons ta tr σ) B R :=
  fun B1 H1 e w Q q => h1 B1 H1 e w _ fun x B2 H2 s2 w2 r1 => h2 x B2 (e.trans s2.base) r1 B2 H2 (Ex.refl _) w2 _ fun vs B3 H3 s3 w3 r => q _ B3 H3 (s2.trans s3) w3 r
theorem gk_c1 {tr : TA} {R : List V → Hp → Prop} (h1 : Ev ta σ B v) (h2 : GK p (tr σ) B (fun vs B2 => R (v :: vs) B2)) : GK p (tCons ta tr σ) B R :=
  gk_cons (gk_val h1) fun x B1 e1 r1 => by subst r1; exact h2.mono e1
/-- a call of a def -/
theorem gk_fn {t : TA} {sp : Sp} {E : XK} {S : List V → Hp → Prop} (h : GK p (t σ) B S) (g : ∀ vs B1, Ex B B1 → S vs B1 → GK p (fun H Q => sp vs H Q E) B1 R) : GK p ((fun σ H Q => t σ H fun vs H1 => sp vs H1 Q E) σ) B R := gk_bind (k2 := fun vs H Q => sp vs H Q E) h g
theorem gk_cb {t : TA} {r : List V → Hp → VK → Prop} {S : List V → Hp → Prop} (h : GK p (t σ) B S) (g : ∀ vs B1, Ex B B1 → S vs B1 → GK p (r vs) B1 R) : GK p (tCB r t σ) B R := gk_bind (k2 := r) h g
theorem gk_tup {t : TA} {S : List V → Hp → Prop} (h : GK p (t σ) B S) (g : ∀ vs B1, Ex B B1 → S vs B1 → vs.length ≤ 100000 ∧ ∀ B2 a, Ex B1 B2 → B2 a = some (.tup vs) → R (.ref a) B2) : GK p (tTup t σ) B R :=
  gk_bind (β := V) (k2 := fun (xs : List V) H Q => xs.length ≤ sizeLine ∧ ∀ a, H a = none → Q (.ref a) (upd H a (.tup xs))) h fun vs B1 e1 r1 B2 H2 e2 w2 Q q => ⟨Evl.sz_of (g vs B1 e1 r1).1, gk_newT (fun B3 a e3 ha => (g vs B1 e1 r1).2 B3 a (e2.trans e3) ha) B2 H2 (Ex.refl _) w2 Q q⟩
theorem gk_lst {t : TA} {S : List V → Hp → Prop} (h : GK p (t σ) B S) (g : ∀ vs B1, Ex B B1 → S vs B1 → vs.length ≤ 100000 ∧ ∀ B2 a, Ex B1 B2 → B2 a = some (.lst vs) → R (.ref a) B2) : GK p (tLst t σ) B R :=
  gk_bind (β := V) (k2 := fun (xs : List V) H Q => xs.length ≤ sizeLine ∧ ∀ a, H a = none → Q (.ref a) (upd H a (.lst xs))) h fun vs B1 e1 r1 B2 H2 e2 w2 Q q => ⟨Evl.sz_of (g vs B1 e1 r1).1, gk_newL (fun B3 a e3 ha => (g vs B1 e1 r1).2 B3 a (e2.trans e3) ha) B2 H2 (Ex.refl _) w2 Q q⟩
/-- a draw -/
theorem gk_drawn {n : Int} {E : XK} (h0 : 0 < n) (h1 : n < 1073741824) : GK p (fun H Q => spDraw [.ref p, .int n] H Q E) B (RI n) := fun B1 H1 e w Q q =>
  draw_s (n := n) w.e w.b w.P h0 h1 fun r H2 c0 c1 s P _ => q (.int r) B1 H2 s (w.stp s P) ⟨r, rfl, c0, c1⟩
theorem gk_draw {tn : TE} {n : Int} {E : XK} (hs : σ[i]? = some (some (.ref p))) (hn : Ev tn σ B (.int n)) (h0 : 0 < n) (h1 : n < 1073741824) : GK p ((fun σ H Q => tCons (tVar i) (tCons tn tNil) σ H fun vs H1 => spDraw vs H1 Q E) σ) B (RI n) :=
  gk_fn (S := fun vs _ => vs = [.ref p, .int n]) (gk_c1 (ev_var hs) (gk_c1 hn (gk_nil fun _ _ => rfl))) fun vs B1 e1 r1 => by subst r1; exact gk_drawn h0 h1
/-- a draw below a number that is itself found on the way -/
theorem gk_draw' {tn : TE} {P : Int → Prop} {E : XK} (hs : σ[i]? = some (some (.ref p))) (hn : GK p (tn σ) B (fun v _ => ∃ n, v = .int n ∧ P n)) (h01 : ∀ n, P n → 0 < n ∧ n < 1073741824) : GK p ((fun σ H Q => tCons (tVar i) (tCons tn tNil) σ H fun vs H1 => spDraw vs H1 Q E) σ) B (fun v _ => ∃ r n : Int, v = .int r ∧ P n ∧ 0 ≤ r ∧ r < n) :=
  gk_fn (S := fun vs _ => ∃ n, vs = [.ref p, .int n] ∧ P n) (gk_c1 (ev_var hs) (gk_cons hn fun x B1 e1 ⟨n, ex, hp⟩ => gk_nil fun _ _ => ⟨n, by rw [ex], hp⟩)) fun vs B1 e1 ⟨n, ev, hp⟩ => by
    subst ev
    exact (gk_drawn (h01 n hp).1 (h01 n hp).2).imp fun v B2 _ ⟨r, h1, h2, h3⟩ => ⟨r, n, h1, hp, h2, h3⟩
/-! tests -/
theorem gk_test {R : Bool → Hp → Prop} (h : GK p (te σ) B (fun v B1 => ∃ b, v = .bl b ∧ R b B1)) : GK p (tTest te σ) B R := fun B1 H1 e w Q q => h B1 H1 e w _ fun v B2 H2 s w2 ⟨b, hv, r⟩ => ⟨b, hv, q b B2 H2 s w2 r⟩
theorem gk_tv {tt : TT} {b : Bool} {R : Bool → Hp → Prop} (h : EvT tt σ B b) (r : ∀ B1, Ex B B1 → R b B1) : GK p (tt σ) B R := fun B1 H1 x w Q q => h H1 (x.trans w.e) Q fun H2 x2 => by
  obtain ⟨s, w2⟩ := w.ex x2
  exact q b B1 H2 s w2 (r B1 x)
/-! statements -/
variable {D : Ends} {tu tw tz : TS} {H : Hp}
theorem gs_asg (w : Wd p B H) (h : GK p (te σ) B R) (k : ∀ v B2 H2, Stp [p] B H B2 H2 → Wd p B2 H2 → R v B2 → D.nx (σ.set i (some v)) H2) : tAsg te (gName i) D σ H := h.go w k
theorem gq_asg (w : Wd p B H) (h : GK p (te σ) B R) (k : ∀ v B2 H2, Stp [p] B H B2 H2 → Wd p B2 H2 → R v B2 → tz D (σ.set i (some v)) H2) : tSeq (tAsg te (gName i)) tz D σ H := h.go w k
theorem gs_ret (w : Wd p B H) (h : GK p (te σ) B R) (k : ∀ v B2 H2, Stp [p] B H B2 H2 → Wd p B2 H2 → R v B2 → D.rt v H2) : tRet te D σ H := h.go w k
theorem gs_if {tt : TT} {R : Bool → Hp → Prop} (w : Wd p B H) (h : GK p (tt σ) B R) (h1 : ∀ B2 H2, Stp [p] B H B2 H2 → Wd p B2 H2 → R true B2 → tu D σ H2) (h2 : ∀ B2 H2, Stp [p] B H B2 H2 → Wd p B2 H2 → R false B2 → tw D σ H2) : tIfS tt tu tw D σ H :=
  h.go w fun b B2 H2 s w2 r => by
    cases b with
    | true => exact h1 B2 H2 s w2 r
    | false => exact h2 B2 H2 s w2 r
theorem gq_if {tt : TT} {R : Bool → Hp → Prop} (w : Wd p B H) (h : GK p (tt σ) B R) (h1 : ∀ B2 H2, Stp [p] B H B2 H2 → Wd p B2 H2 → R true B2 → tu { D with nx := tz D } σ H2) (h2 : ∀ B2 H2, Stp [p] B H B2 H2 → Wd p B2 H2 → R false B2 → tw { D with nx := tz D } σ H2) : tSeq (tIfS tt tu tw) tz D σ H := gs_if (D := { D with nx := tz D }) w h h1 h2
/-- an if without else -/
theorem gs_when {tt : TT} {R : Bool → Hp → Prop} (w : Wd p B H) (h : GK p (tt σ) B R) (h1 : ∀ B2 H2, Stp [p] B H B2 H2 → Wd p B2 H2 → R true B2 → tu D σ H2) (h2 : ∀ B2 H2, Stp [p] B H B2 H2 → Wd p B2 H2 → R false B2 → D.nx σ H2) : tIfS tt tu tNext D σ H := gs_if w h h1 h2
theorem gq_when {tt : TT} {R : Bool → Hp → Prop} (w : Wd p B H) (h : GK p (tt σ) B R) (h1 : ∀ B2 H2, Stp [p] B H B2 H2 → Wd p B2 H2 → R true B2 → tu { D with nx := tz D } σ H2) (h2 : ∀ B2 H2, Stp [p] B H B2 H2 → Wd p B2 H2 → R false B2 → tz D σ H2) : tSeq (tIfS tt tu tNext) tz D σ H := gs_if (D := { D with nx := tz D }) w h h1 h2
/-- for x in range(n), n found on the way -/
theorem gs_forR {ta : TA} {Rn : Int → Prop} {j : Nat} (w : Wd p B H) (h : GK p (ta σ) B (fun vs _ => ∃ n : Int, vs = [.int n] ∧ Rn n)) (hn : ∀ n, Rn n → 0 ≤ n ∧ n ≤ 100000) (Pv : Int → Nat → L2.St → Hp → Prop)
    (h0 : ∀ n B2 H2, Stp [p] B H B2 H2 → Wd p B2 H2 → Rn n → Pv n 0 σ H2)
    (hs : ∀ (n : Int) (i : Nat) σ' H', Rn n → (i : Int) < n → Pv n i σ' H' → tu { D with nx := Pv n (i + 1), ct := Pv n (i + 1), bk := D.nx } (σ'.set j (some (.int (i : Int)))) H') (hd : ∀ n σ' H', Rn n → Pv n n.toNat σ' H' → D.nx σ' H') : tFor (iRng1 ta) (gName j) tu D σ H :=
  h.go w fun vs B2 H2 s w2 ⟨n, ev, rn⟩ => by
    have hb := hn n rn
    refine ⟨n, ev, by omega, by omega, for_range (lo := 0) (n := n.toNat) (Pv n) (h0 n B2 H2 s w2 rn) (fun i σ' H' hi q => ?_) (fun σ' H' q => hd n σ' H' rn q)⟩
    have e0 : (0 : Int) + (i : Int) = (i : Int) := Int.zero_add _
    show tu { D with nx := Pv n (i + 1), ct := Pv n (i + 1), bk := D.nx } (σ'.set j (some (.int ((0 : Int) + (i : Int))))) H'
    rw [e0]
    exact hs n i σ' H' rn (by omega) q
theorem gq_forR {ta : TA} {Rn : Int → Prop} {j : Nat} (w : Wd p B H) (h : GK p (ta σ) B (fun vs _ => ∃ n : Int, vs = [.int n] ∧ Rn n)) (hn : ∀ n, Rn n → 0 ≤ n ∧ n ≤ 100000) (Pv : Int → Nat → L2.St → Hp → Prop)
    (h0 : ∀ n B2 H2, Stp [p] B H B2 H2 → Wd p B2 H2 → Rn n → Pv n 0 σ H2)
    (hs : ∀ (n : Int) (i : Nat) σ' H', Rn n → (i : Int) < n → Pv n i σ' H' → tu { D with nx := Pv n (i + 1), ct := Pv n (i + 1), bk := tz D } (σ'.set j (some (.int (i : Int)))) H') (hd : ∀ n σ' H', Rn n → Pv n n.toNat σ' H' → tz D σ' H') : tSeq (tFor (iRng1 ta) (gName j) tu) tz D σ H :=
  gs_forR (D := { D with nx := tz D }) w h hn Pv h0 hs hd
/-- [e for x in range(n)], e reads beside the pool -/
theorem gk_lcR {ta : TA} {Rn : Int → Prop} {Re : Nat → V → Hp → Prop} {j : Nat} {ws : List Nat} (h : GK p (ta σ) B (fun vs _ => ∃ n : Int, vs = [.int n] ∧ Rn n)) (hn : ∀ n, Rn n → 0 ≤ n ∧ n ≤ 40000) (hw : ∀ x, wipe ((wipe σ ws).set j (some x)) ws = wipe σ ws)
    (hm : ∀ i v B1 B2, Ex B1 B2 → Re i v B1 → Re i v B2) (he : ∀ (n : Int) (i : Nat) B1, Rn n → (i : Int) < n → Ex B B1 → GK p (te ((wipe σ ws).set j (some (.int (i : Int))))) B1 (Re i))
    (r : ∀ n B1 a vs, Ex B B1 → Rn n → vs.length = n.toNat → B1 a = some (.lst vs) → (∀ i v, vs[i]? = some v → Re i v B1) → R (.ref a) B1) : GK p (tLc (iRng1 ta) (gName j) tYes te ws σ) B R := fun B1 H1 e1 w1 Q q =>
  h B1 H1 e1 w1 _ fun vs B2 H2 s2 w2 ⟨n, ev, rn⟩ => by
    have hb := hn n rn
    have hbig : (100000 : Nat) ≤ sizeLine := by decide
    refine ⟨n, ev, by omega, by omega, fun L nL => ?_⟩
    have nLp : L ≠ p := w2.P.ne nL
    refine lc_range (lo := 0) (n := n.toNat) (fun i H' => ∃ B' vs, Stp [L, p] B2 (upd H2 L (.lst [])) B' H' ∧ Wd p B' H' ∧ H' L = some (.lst vs) ∧ B' L = none ∧ vs.length = i ∧ ∀ j v, vs[j]? = some v → Re j v B') ⟨B2, [], Stp.refl (w2.cell nL).e, w2.cell nL, upd_same, ex_none w2.e nL, rfl, fun _ _ h => by cases h⟩ (fun i H' hi z => ?_) (fun H' z => ?_)
    · obtain ⟨B', vs, st, w', hL, hBL, hlen, hre⟩ := z
      have e0 : (0 : Int) + (i : Int) = (i : Int) := Int.zero_add _
      show wipe ((wipe σ ws).set j (some (.int ((0 : Int) + (i : Int))))) ws = wipe σ ws ∧ tYes ((wipe σ ws).set j (some (.int ((0 : Int) + (i : Int))))) H' fun b H3 => if b = true then te ((wipe σ ws).set j (some (.int ((0 : Int) + (i : Int))))) H3 fun y H4 => ∃ acc, H4 L = some (.lst acc) ∧ acc.length < sizeLine ∧ _ else _
      rw [e0]
      refine ⟨hw _, yes_if ?_⟩
      refine he n i B' rn (by omega) ((e1.trans s2.base).trans st.base) B' H' (Ex.refl _) w' _ fun v B3 H3 s3 w3 rv => ?_
      have hL3 := s3.fr L _ (by simpa using nLp) hL
      have hB3 := s3.off hBL hL
      have st3 : Stp [L, p] B2 (upd H2 L (.lst [])) B3 H3 := st.trans (s3.wk fun x hx => .tail _ hx)
      refine ⟨vs, hL3, by omega, B3, vs ++ [v], st3.trans (Stp.put w3.e hB3 (.head _)), w3.put hB3 nLp, upd_same, hB3, by rw [List.length_append, List.length_singleton, hlen], fun k u hk => ?_⟩
      by_cases c : k < vs.length
      · rw [List.getElem?_append_left c] at hk
        exact hm k u B' B3 s3.base (hre k u hk)
      · rw [List.getElem?_append_right (by omega)] at hk
        have : k - vs.length = 0 := by
          cases hz : k - vs.length with
          | zero => rfl
          | succ m => rw [hz] at hk; cases hk
        rw [this] at hk
        cases hk
        rw [show k = i by omega]
        exact rv
    · obtain ⟨B', vs, st, w', hL, hBL, hlen, hre⟩ := z
      have cl := Stp.close w2.e nL st hL
      have w3 : Wd p (upd B' L (.lst vs)) H' := w2.stp cl (w'.P.of (Ex.new hBL) rfl)
      exact q _ _ H' (s2.trans cl) w3 (r n _ L vs (e1.trans (s2.base.trans cl.base)) rn hlen upd_same fun i v hv => hm i v _ _ (Ex.new hBL) (hre i v hv))
end
end LL
namespace LL
open PySem PySem.Spec PyProof.Rows L2 He Evl
theorem join_len (s : Str) : ∀ W : List Str, (Txt.join s W).length ≤ (W.map (·.length)).sum + W.length * s.length := by
  intro W
  rw [TL.join_eq, TL.len_tl, TL.tl_join]
  have : ∀ L : List Str, (TL.joinL (TL.tl s) (L.map TL.tl)).length ≤ (L.map (·.length)).sum + L.length * s.length := by
    intro L
    induction L with
    | nil => exact Nat.zero_le _
    | cons p L ih =>
      cases L with
      | nil =>
        show (TL.tl p).length ≤ _
        rw [← TL.len_tl, List.map_cons, List.sum_cons]
        omega
      | cons q L =>
        show (TL.tl p ++ (TL.tl s ++ TL.joinL (TL.tl s) ((q :: L).map TL.tl))).length ≤ _
        have e1 : (List.map (fun x : Str => x.length) (p :: q :: L)).sum = p.length + (List.map (fun x : Str => x.length) (q :: L)).sum := List.sum_cons
        have e2 : (p :: q :: L).length * s.length = (q :: L).length * s.length + s.length := by rw [List.length_cons (a := p), Nat.add_mul, Nat.one_mul]
        rw [List.length_append, List.length_append, ← TL.len_tl, ← TL.len_tl, e1, e2]
        omega
  exact this W
theorem joinL_mem {S : List Nat} {c : Nat} : ∀ {L : List (List Nat)}, c ∈ TL.joinL S L → c ∈ S ∨ ∃ p ∈ L, c ∈ p
  | [], h => by cases h
  | [p], h => .inr ⟨p, .head _, h⟩
  | p :: q :: r, h => by
    have h : c ∈ p ++ (S ++ TL.joinL S (q :: r)) := h
    rcases List.mem_append.mp h with h | h
    · exact .inr ⟨p, .head _, h⟩
    · rcases List.mem_append.mp h with h | h
      · exact .inl h
      · rcases joinL_mem h with h | ⟨x, hx, h⟩
        · exact .inl h
        · exact .inr ⟨x, .tail _ hx, h⟩
theorem cut_nat {xs : List V} {a b : Nat} (h : a ≤ b) : cutV xs (some (a : Int)) (some (b : Int)) = (xs.drop a).take (b - a) := by
  unfold cutV
  rw [HT.sIx_nat, HT.sIx_nat]
  by_cases z : a ≤ xs.length
  · rw [show min a xs.length = a by omega]
    by_cases y : b ≤ xs.length
    · rw [show min b xs.length = b by omega]
    · rw [List.take_of_length_le (by rw [List.length_drop]; omega), List.take_of_length_le (by rw [List.length_drop]; omega)]
  · rw [List.drop_of_length_le (by omega), List.drop_of_length_le (by omega), List.take_nil, List.take_nil]
theorem cut_from {xs : List V} {a : Nat} : cutV xs (some (a : Int)) none = xs.drop a := by
  unfold cutV
  rw [HT.sIx_nat, HT.sIx_none]
  by_cases z : a ≤ xs.length
  · rw [show min a xs.length = a by omega, List.take_of_length_le (by rw [List.length_drop]; omega)]
  · rw [List.drop_of_length_le (by omega), List.drop_of_length_le (by omega), List.take_nil]
/-! ### texts without a space -/
theorem spl_free (c : Nat) : ∀ x acc : List Nat, c ∉ acc → ∀ p ∈ TL.spl [c] 0 acc x, c ∉ p
  | [], acc, ha, p, hp => by
    rcases List.mem_singleton.mp (show p ∈ [acc] from hp) with rfl
    exact ha
  | d :: r, acc, ha, p, hp => by
    by_cases h : TL.pre [c] (d :: r) = true
    · rw [TL.spl_hit h] at hp
      rcases List.mem_cons.mp hp with rfl | hp
      · exact ha
      · exact spl_free c r [] (by simp) p hp
    · rw [TL.spl_miss (by simpa using h)] at hp
      refine spl_free c r _ (fun z => ?_) p hp
      rcases List.mem_append.mp z with z | z
      · exact ha z
      · have hd : c = d := by simpa using z
        subst hd
        have : TL.pre [c] (c :: r) = true := show ((([c] : List Nat) == [c]) = true) by simp
        exact h this
theorem split_free {x s : Str} {c : Nat} (es : s.cps.toList = [c]) (hc : c < 256) {p : Str} (hp : p ∈ Txt.split x s) : c ∉ p.cps.toList := by
  have hk : ¬ Builtin.Str.strKind x < Builtin.Str.strKind s := TL.kind_ok (by rw [← Array.all_toList, es]; simpa using hc)
  have e : (Txt.split x s).map TL.tl = TL.spl [c] 0 [] (TL.tl x) := by
    have := TL.split_spl x s (by rw [show TL.tl s = [c] from es]; simp) hk
    rw [show TL.tl s = [c] from es] at this
    exact this
  have : TL.tl p ∈ TL.spl [c] 0 [] (TL.tl x) := by rw [← e]; exact List.mem_map.mpr ⟨p, hp, rfl⟩
  exact spl_free c _ [] (by simp) _ this
structure FineS (n : Nat) (x : Str) : Prop where
  l : x.length ≤ n
  s : 32 ∉ x.cps.toList
def fineB (n : Nat) (x : Str) : Bool := decide (x.length ≤ n) && !(x.cps.toList.contains 32)
theorem fine_b {n : Nat} {x : Str} (h : fineB n x = true) : FineS n x := by
  unfold fineB at h
  rw [Bool.and_eq_true] at h
  exact ⟨of_decide_eq_true h.1, fun z => by
    have h2 := h.2
    rw [List.contains_iff_mem.mpr z] at h2
    exact Bool.noConfusion h2⟩
theorem FineS.mono {n m : Nat} {x : Str} (h : FineS n x) (l : n ≤ m) : FineS m x := ⟨Nat.le_trans h.l l, h.s⟩
theorem str_len (x : Str) : x.length = x.cps.toList.length := by simp [Str.length]
theorem cat_tl (x y : Str) : (x ++ y).cps.toList = x.cps.toList ++ y.cps.toList := TL.tl_append x y
theorem FineS.cat {n m : Nat} {x y : Str} (h : FineS n x) (g : FineS m y) : FineS (n + m) (x ++ y) := by
  refine ⟨?_, fun z => ?_⟩
  · rw [str_len, cat_tl, List.length_append, ← str_len, ← str_len]
    have := h.l
    have := g.l
    omega
  · rw [cat_tl] at z
    rcases List.mem_append.mp z with z | z
    · exact h.s z
    · exact g.s z
theorem FineS.ch {c : Nat} (h : c ≠ 32) : FineS 1 ⟨#[c]⟩ := ⟨Nat.le_refl _, fun z => h (List.mem_singleton.mp (show 32 ∈ [c] from z)).symm⟩
theorem cut_pre {z : Str} {a : Nat} (h : a ≤ z.length) : (cutS z none (some (a : Int))).cps.toList = z.cps.toList.take a := by
  unfold cutS
  rw [HT.sIx_none, HT.sIx_nat, Nat.min_eq_left h]
  simp
theorem cut_suf {z : Str} {a : Nat} : (cutS z (some (a : Int)) none).cps.toList = z.cps.toList.drop a := by
  unfold cutS
  rw [HT.sIx_none, HT.sIx_nat]
  have e := str_len z
  by_cases h : a ≤ z.length
  · rw [Nat.min_eq_left h]
    simp only []
    rw [List.take_of_length_le (by rw [List.length_drop]; omega)]
  · rw [Nat.min_eq_right (by omega), Nat.sub_self]
    simp only []
    rw [List.take_zero, List.drop_of_length_le (by omega)]
theorem FineS.pre {n a : Nat} {z : Str} (h : FineS n z) (ha : a ≤ z.length) : FineS a (cutS z none (some (a : Int))) := by
  refine ⟨?_, fun y => ?_⟩
  · rw [str_len, cut_pre ha, List.length_take]; omega
  · rw [cut_pre ha] at y
    exact h.s (List.mem_of_mem_take y)
theorem FineS.suf {n a : Nat} {z : Str} (h : FineS n z) : FineS (z.length - a) (cutS z (some (a : Int)) none) := by
  refine ⟨?_, fun y => ?_⟩
  · rw [str_len, cut_suf, List.length_drop, ← str_len]; omega
  · rw [cut_suf] at y
    exact h.s (List.mem_of_mem_drop y)
/-- "".join of signs -/
theorem FineS.join {n : Nat} {ys : List Str} (hl : ys.length ≤ n) (h : ∀ y ∈ ys, FineS 1 y) : FineS n (Txt.join "" ys) := by
  refine ⟨?_, fun z => ?_⟩
  · have h1 := join_len "" ys
    have : (ys.map (·.length)).sum ≤ ys.length := by
      clear h1 hl
      induction ys with
      | nil => exact Nat.le_refl _
      | cons y ys ih =>
        have a := ih fun x hx => h x (.tail _ hx)
        have b := (h y (.head _)).l
        rw [List.map_cons, List.sum_cons, List.length_cons]
        omega
    have e : ("" : Str).length = 0 := rfl
    rw [e] at h1
    omega
  · have z : 32 ∈ TL.tl (Txt.join "" ys) := z
    rw [TL.join_eq, TL.tl_join] at z
    rcases joinL_mem z with z | ⟨q, hq, z⟩
    · cases z
    · obtain ⟨y, hy, rfl⟩ := List.mem_map.mp hq
      exact (h y hy).s z
/-! ### "9" * 60 -/
def rRepS : L2.R2 := fun x y H Q => ∃ z n, x = .str z ∧ y = .int n ∧ MulOk z n ∧ Q (.str (Txt.mul z n)) H
theorem op_repS {X : Cx} : OpR X (binaryOp .Mult) rRepS := by
  intro pins s σ H x y v u Q I rx ry h
  obtain ⟨z, n, rfl, rfl, hz, q⟩ := h
  obtain ⟨t, rfl⟩ := rx
  obtain ⟨t', rfl⟩ := ry
  exact SB.mul hz fun t' tk => ⟨.str (Txt.mul z n), H, I.tok _, ⟨_, rfl⟩, q⟩
/-! ### the same as readings beside the pool -/
abbrev rAddS : L2.R2 := fun x y H Q => ∃ i j, x = .str i ∧ y = .str j ∧ i.length + j.length ≤ sizeLine ∧ Q (.str (i ++ j)) H
section
variable {p : Addr} {B : Hp} {σ : L2.St} {te ta tb : TE} {n m : Nat} {i : Nat}
def RS (n : Nat) : V → Hp → Prop := fun v _ => ∃ x, v = .str x ∧ FineS n x
/-- a list of fine texts in the base -/
def RL (n m : Nat) : V → Hp → Prop := fun v B => ∃ (a : Addr) (xs : List Str), v = .ref a ∧ B a = some (.lst (xs.map V.str)) ∧ xs.length ≤ m ∧ ∀ x ∈ xs, FineS n x
theorem gk_addS (h1 : GK p (ta σ) B (RS n)) (h2 : GK p (tb σ) B (RS m)) (hz : n + m ≤ 100000) : GK p (tOp rAddS ta tb σ) B (RS (n + m)) :=
  gk_op h1 fun x B1 e1 ⟨a, ea, ha⟩ => (h2.mono e1).imp fun y B2 e2 ⟨b, eb, hb⟩ => by
    subst ea
    subst eb
    exact gk_rv (z := .str (a ++ b)) (fun H1 _ Q q => ⟨a, b, rfl, rfl, Nat.le_trans (by have := ha.l; have := hb.l; omega) (by decide : 100000 ≤ sizeLine), q H1 (Ex.refl _)⟩) fun _ _ => ⟨_, rfl, ha.cat hb⟩
theorem gk_cS {x : Str} (h : fineB n x = true) : GK p (tC (.str x) σ) B (RS n) := gk_c fun _ _ => ⟨x, rfl, fine_b h⟩
theorem gk_repS {x : Str} {k : Int} (hk : MulOk x k) (h : fineB n (Txt.mul x k) = true) : GK p (tOp rRepS (tC (.str x)) (tC (.int k)) σ) B (RS n) :=
  gk_ev (ev_op ev_c ev_c fun H1 _ Q q => ⟨x, k, rfl, rfl, hk, q H1 (Ex.refl _)⟩) fun _ _ => ⟨_, rfl, fine_b h⟩
/-- s[i], i drawn -/
theorem gk_ixS {S : Str} (hS : S.length ≤ 1000) (h32 : 32 ∉ S.cps.toList) (h1 : Ev ta σ B (.str S)) (h2 : GK p (tb σ) B (fun v _ => ∃ r : Int, v = .int r ∧ 0 ≤ r ∧ r < S.length)) : GK p (tOp rIxS ta tb σ) B (RS 1) :=
  gk_op (gk_val h1) fun x B1 e1 ex => (h2.mono e1).imp fun y B2 e2 ⟨r, ey, r0, r1⟩ => by
    subst ex
    subst ey
    obtain ⟨k, rfl⟩ : ∃ k : Nat, r = k := ⟨r.toNat, by omega⟩
    have e := str_len S
    obtain ⟨c, hc⟩ : ∃ c, S.cps.toList[k]? = some c := ⟨_, List.getElem?_eq_getElem (by omega)⟩
    exact gk_rv (z := .str ⟨#[c]⟩) (fun H1 _ Q q => ⟨S, _, c, rfl, rfl, Nat.le_trans hS (by decide), atI_nat hc, q H1 (Ex.refl _)⟩) fun _ _ => ⟨_, rfl, FineS.ch fun z => h32 (by rw [← z]; exact List.mem_of_getElem? hc)⟩
/-- a test == of a drawn number and a written one -/
theorem gk_eqT {c : Int} (h : GK p (ta σ) B (fun v _ => ∃ r : Int, v = .int r)) : GK p (tTest (tOp rEq ta (tC (.int c))) σ) B (fun _ _ => True) :=
  gk_test (gk_op h fun x B1 e1 ⟨r, ex⟩ => gk_c fun B2 e2 => by
    subst ex
    exact gk_rv (rv_eq rfl) fun _ _ => ⟨_, rfl, True.intro⟩)
theorem gk_addI {P : Int → Prop} {c : Int} (h : GK p (ta σ) B (fun v _ => ∃ r : Int, v = .int r ∧ P r)) : GK p (tOp (rI0 fun i j => .int (i + j)) (tC (.int c)) ta σ) B (fun v _ => ∃ r : Int, v = .int (c + r) ∧ P r) :=
  gk_op (gk_val ev_c) fun x B1 e1 ex => (h.mono e1).imp fun y B2 e2 ⟨r, ey, hr⟩ => by
    subst ex
    subst ey
    exact gk_rv rv_I0 fun _ _ => ⟨r, rfl, hr⟩
theorem gk_addI2 {P : Int → Prop} {c : Int} (h1 : Ev ta σ B (.int c)) (h : GK p (tb σ) B (fun v _ => ∃ r : Int, v = .int r ∧ P r)) : GK p (tOp (rI0 fun i j => .int (i + j)) ta tb σ) B (fun v _ => ∃ r : Int, v = .int (c + r) ∧ P r) :=
  gk_op (gk_val h1) fun x B1 e1 ex => (h.mono e1).imp fun y B2 e2 ⟨r, ey, hr⟩ => by
    subst ex
    subst ey
    exact gk_rv rv_I0 fun _ _ => ⟨r, rfl, hr⟩
/-- a list of texts + a list of texts -/
def RLP (P : List Str → Prop) : V → Hp → Prop := fun v B => ∃ (a : Addr) (xs : List Str), v = .ref a ∧ B a = some (.lst (xs.map V.str)) ∧ P xs
theorem RLP.mono {P : List Str → Prop} {v : V} {B B2 : Hp} (h : RLP P v B) (e : Ex B B2) : RLP P v B2 := by
  obtain ⟨a, xs, h1, h2, h3⟩ := h
  exact ⟨a, xs, h1, e _ _ h2, h3⟩
theorem gk_catP {P1 P2 P : List Str → Prop} (h1 : GK p (ta σ) B (RLP P1)) (h2 : GK p (tb σ) B (RLP P2)) (hz : ∀ xs ys, P1 xs → P2 ys → xs.length + ys.length ≤ 100000 ∧ P (xs ++ ys)) : GK p (tOp rCat ta tb σ) B (RLP P) :=
  gk_op h1 fun x B1 e1 ⟨a, xs, ea, ha, hx⟩ => (h2.mono e1).imp fun y B2 e2 ⟨b, ys, eb, hb, hy⟩ => by
    subst ea
    subst eb
    have ha2 := e2 _ _ ha
    obtain ⟨hz1, hz2⟩ := hz xs ys hx hy
    refine fun B3 H3 e3 w3 Q q => ⟨a, b, _, _, rfl, rfl, w3.e _ _ (e3 _ _ ha2), w3.e _ _ (e3 _ _ hb), by rw [List.length_map, List.length_map]; exact Nat.le_trans hz1 (by decide), ?_⟩
    rw [← List.map_append]
    exact gk_newL (xs := (xs ++ ys).map V.str) (R := RLP P) (B := B2) (fun B4 c e4 hc => ⟨c, xs ++ ys, rfl, hc, hz2⟩) B3 H3 e3 w3 Q q
theorem gk_cat {k l : Nat} (h1 : GK p (ta σ) B (RL n k)) (h2 : GK p (tb σ) B (RL n l)) (hz : k + l ≤ 100000) : GK p (tOp rCat ta tb σ) B (RL n (k + l)) :=
  gk_catP (P1 := fun xs => xs.length ≤ k ∧ ∀ x ∈ xs, FineS n x) (P2 := fun xs => xs.length ≤ l ∧ ∀ x ∈ xs, FineS n x) (P := fun xs => xs.length ≤ k + l ∧ ∀ x ∈ xs, FineS n x) h1 h2 fun xs ys hx hy => ⟨by omega, by rw [List.length_append]; omega, fun z hz => by
    rcases List.mem_append.mp hz with hz | hz
    · exact hx.2 z hz
    · exact hy.2 z hz⟩
theorem RL.mono {k : Nat} {v : V} {B B2 : Hp} (h : RL n k v B) (e : Ex B B2) : RL n k v B2 := by
  obtain ⟨a, xs, h1, h2, h3⟩ := h
  exact ⟨a, xs, h1, e _ _ h2, h3⟩
/-- args all of which are fine texts -/
def RA (n k : Nat) : List V → Hp → Prop := fun vs _ => ∃ xs : List Str, vs = xs.map V.str ∧ xs.length = k ∧ ∀ x ∈ xs, FineS n x
theorem gk_aN : GK p (tNil σ) B (RA n 0) := gk_nil fun _ _ => ⟨[], rfl, rfl, fun _ h => nomatch h⟩
theorem gk_aC {tr : TA} {k : Nat} (h1 : GK p (ta σ) B (RS m)) (h2 : GK p (tr σ) B (RA n k)) (hm : m ≤ n) : GK p (tCons ta tr σ) B (RA n (k + 1)) :=
  gk_cons h1 fun x B1 e1 ⟨a, ea, ha⟩ => (h2.mono e1).imp fun vs B2 e2 ⟨xs, ev, hl, hx⟩ => ⟨a :: xs, by rw [ea, ev, List.map_cons], by rw [List.length_cons, hl], fun z hz => by
    rcases List.mem_cons.mp hz with rfl | hz
    · exact ha.mono hm
    · exact hx z hz⟩
theorem gk_lstS {t : TA} {k : Nat} (h : GK p (t σ) B (RA n k)) (hk : k ≤ 1000) : GK p (tLst t σ) B (RL n k) :=
  gk_lst h fun vs B1 e1 ⟨xs, ev, hl, hx⟩ => ⟨by rw [ev, List.length_map]; omega, fun B2 a e2 ha => ⟨a, xs, rfl, by rw [← ev]; exact ha, by omega, hx⟩⟩
abbrev rJoin (K : PySem.W.Frag) : V → List V → Hp → VK → Prop := fun x xs H Q => ∃ a p, ∃ ys : List Str, x = .str a ∧ xs = [.ref p] ∧ (SqL K H p (ys.map V.str) ∨ SqT K H p (ys.map V.str)) ∧ (ys.map (·.length)).sum + ys.length * a.length ≤ 16777216 ∧ Q (.str (Txt.join a ys)) H
theorem sum_fine : ∀ {ys : List Str}, (∀ y ∈ ys, FineS n y) → (ys.map (·.length)).sum ≤ ys.length * n
  | [], _ => by simp
  | y :: ys, h => by
    have a := sum_fine fun x hx => h x (.tail _ hx)
    have b := (h y (.head _)).l
    rw [List.map_cons, List.sum_cons, List.length_cons, Nat.add_mul, Nat.one_mul]
    omega
theorem gk_join {K : PySem.W.Frag} {s : Str} (h : GK p (te σ) B (RL n m)) (hb : m * n + m * s.length ≤ 16777216) : GK p (tM1 (rJoin K) (tC (.str s)) te σ) B (fun v _ => ∃ ys, v = .str (Txt.join s ys) ∧ ys.length ≤ m ∧ ∀ y ∈ ys, FineS n y) := fun B1 H1 e1 w1 Q q =>
  ⟨⟨s, rfl⟩, h B1 H1 e1 w1 _ fun v B2 H2 s2 w2 ⟨a, ys, ev, ha, hl, hy⟩ => ⟨s, a, ys, rfl, by rw [ev], .inl (sq_of (w2.e _ _ ha)), by
    have a1 := sum_fine hy
    have a2 := Nat.mul_le_mul_right n hl
    have a3 := Nat.mul_le_mul_right s.length hl
    omega, q _ B2 H2 s2 w2 ⟨ys, rfl, hl, hy⟩⟩⟩
theorem ev_slS {tl th : TO} {lo hi : Option Int} {H : Hp} {z : Str} (h : Ev te σ H (.str z)) (h1 : EvO tl σ H lo) (h2 : EvO th σ H hi) (hz : z.length ≤ 100000) : Ev (tSl rSlS te tl th) σ H (.str (cutS z lo hi)) := fun H1 e Q q =>
  h H1 e _ fun H2 e2 => h1 H2 (e.trans e2) _ fun H3 e3 => h2 H3 ((e.trans e2).trans e3) _ fun H4 e4 => ⟨z, rfl, Nat.le_trans hz (by decide), q H4 (e2.trans (e3.trans e4))⟩
theorem gk_sufS {ti : TE} {P : Nat → Prop} {z : Str} (h : Ev te σ B (.str z)) (hi : GK p (ti σ) B (fun v _ => ∃ a : Nat, v = .int (a : Nat) ∧ P a)) (hz : z.length ≤ 100000) : GK p (tSl rSlS te (tPart ti) tNoPart σ) B (fun v _ => ∃ a : Nat, v = .str (cutS z (some (a : Int)) none) ∧ P a) := fun B1 H1 e1 w1 Q q =>
  gk_val h B1 H1 e1 w1 _ fun v B2 H2 s2 w2 hv => hi B2 H2 (e1.trans s2.base) w2 _ fun u B3 H3 s3 w3 ⟨a, hu, ha⟩ => ⟨_, hu, z, hv, Nat.le_trans hz (by decide), q _ B3 H3 (s2.trans s3) w3 ⟨a, rfl, ha⟩⟩
theorem gk_joinP {K : PySem.W.Frag} {s : Str} {P : List Str → Prop} (h : GK p (te σ) B (RLP P)) (hb : ∀ ys, P ys → (ys.map (·.length)).sum + ys.length * s.length ≤ 16777216) : GK p (tM1 (rJoin K) (tC (.str s)) te σ) B (fun v _ => ∃ ys, v = .str (Txt.join s ys) ∧ P ys) := fun B1 H1 e1 w1 Q q =>
  ⟨⟨s, rfl⟩, h B1 H1 e1 w1 _ fun v B2 H2 s2 w2 ⟨a, ys, ev, ha, hp⟩ => ⟨s, a, ys, rfl, by rw [ev], .inl (sq_of (w2.e _ _ ha)), hb ys hp, q _ B2 H2 s2 w2 ⟨ys, rfl, hp⟩⟩⟩
abbrev rSplitS : V → List V → Hp → VK → Prop := fun x xs H Q => ∃ a b, x = .str a ∧ xs = [.str b] ∧ (b.length == 0) = false ∧ a.length + 2 ≤ sizeLine ∧ rNewStrs (Txt.split a b) H Q
theorem gk_splitP {s : Str} {P : Str → Prop} (hs : (s.length == 0) = false) (h : GK p (te σ) B (fun v _ => ∃ z, v = .str z ∧ P z)) (hb : ∀ z, P z → z.length ≤ 90000) : GK p (tM1 rSplitS te (tC (.str s)) σ) B (RLP fun ws => ∃ z, P z ∧ ws = Txt.split z s) := fun B1 H1 e1 w1 Q q =>
  h B1 H1 e1 w1 _ fun v B2 H2 s2 w2 ⟨z, ev, hz⟩ => ⟨⟨z, ev⟩, z, s, ev, rfl, hs, Nat.le_trans (by have := hb z hz; omega : _ ≤ 100000) (by decide), fun a na => by
    obtain ⟨s3, w3⟩ := w2.new (o := .lst ((Txt.split z s).map V.str)) na
    exact q _ _ _ (s2.trans s3) w3 ⟨a, _, rfl, upd_same, z, hz, rfl⟩⟩
/-- menu[draw(len(menu))] -/
theorem gk_pick {K : PySem.W.Frag} {E : XK} {a : Addr} {xs : List Str} {j : Nat} (hs : σ[i]? = some (some (.ref a))) (hp : σ[j]? = some (some (.ref p))) (ha : B a = some (.lst (xs.map V.str))) (h0 : xs ≠ []) (hl : xs.length ≤ 100000) (hx : ∀ x ∈ xs, FineS n x) :
    GK p (tOp (rIxL K) (tVar i) (fun σ H Q => tCons (tVar j) (tCons (tCB (rLenS K) (tCons (tVar i) tNil)) tNil) σ H fun vs H1 => spDraw vs H1 Q E) σ) B (RS n) := by
  have hpos : 0 < xs.length := List.length_pos_iff.mpr h0
  refine gk_op (gk_val (ev_var hs)) fun x B1 e1 ex => ?_
  subst ex
  refine (gk_draw (n := (xs.length : Nat)) hp (ev_is (ev_len (ev_var hs) (sq_of (e1 _ _ ha))) (by rw [List.length_map])) (by omega) (by omega)).imp fun y B2 e2 ⟨r, ey, r0, r1⟩ => ?_
  subst ey
  obtain ⟨k, rfl⟩ : ∃ k : Nat, r = k := ⟨r.toNat, by omega⟩
  obtain ⟨z, hz⟩ : ∃ z, xs[k]? = some z := ⟨_, List.getElem?_eq_getElem (by omega)⟩
  exact gk_rv (z := .str z) (rv_ixL (sq_of (e2 _ _ (e1 _ _ ha))) (atI_nat (by rw [List.getElem?_map, hz]; rfl))) fun _ _ => ⟨z, rfl, hx z (List.mem_of_getElem? hz)⟩
/-- the same for lists of up to 16000000 -/
theorem gk_catM {P1 P2 P : List Str → Prop} (h1 : GK p (ta σ) B (RLP P1)) (h2 : GK p (tb σ) B (RLP P2)) (hz : ∀ xs ys, P1 xs → P2 ys → xs.length + ys.length ≤ 16000000 ∧ P (xs ++ ys)) : GK p (tOp rCat ta tb σ) B (RLP P) :=
  gk_op h1 fun x B1 e1 ⟨a, xs, ea, ha, hx⟩ => (h2.mono e1).imp fun y B2 e2 ⟨b, ys, eb, hb, hy⟩ => by
    subst ea
    subst eb
    have ha2 := e2 _ _ ha
    obtain ⟨hz1, hz2⟩ := hz xs ys hx hy
    refine fun B3 H3 e3 w3 Q q => ⟨a, b, _, _, rfl, rfl, w3.e _ _ (e3 _ _ ha2), w3.e _ _ (e3 _ _ hb), by rw [List.length_map, List.length_map]; exact Nat.le_trans hz1 (by decide), ?_⟩
    rw [← List.map_append]
    exact gk_newL (xs := (xs ++ ys).map V.str) (R := RLP P) (B := B2) (fun B4 c e4 hc => ⟨c, xs ++ ys, rfl, hc, hz2⟩) B3 H3 e3 w3 Q q
theorem gk_catN {xs ys : List Str} (h1 : GK p (ta σ) B (RLP (· = xs))) (h2 : GK p (tb σ) B (RLP (· = ys))) (hz : xs.length + ys.length ≤ 16000000) : GK p (tOp rCat ta tb σ) B (RLP (· = xs ++ ys)) :=
  gk_catM h1 h2 fun a b ha hb => by subst ha; subst hb; exact ⟨hz, rfl⟩
theorem gk_slAB {K : PySem.W.Frag} {c : Addr} {ls : List Str} {a b : Nat} (he : Ev te σ B (.ref c)) (hc : B c = some (.lst (ls.map V.str))) (h1 : Ev ta σ B (.int (a : Nat))) (h2 : Ev tb σ B (.int (b : Nat))) (hab : a ≤ b) : GK p (tSl (rSlL K) te (tPart ta) (tPart tb) σ) B (RLP (· = (ls.drop a).take (b - a))) :=
  gk_evL (el_sl he (eo_some h1) (eo_some h2) (sq_of hc)) fun B1 x e1 hx => ⟨x, _, rfl, by rw [hx, cut_nat hab, ← List.map_drop, ← List.map_take], rfl⟩
theorem gk_slA {K : PySem.W.Frag} {c : Addr} {ls : List Str} {a : Nat} (he : Ev te σ B (.ref c)) (hc : B c = some (.lst (ls.map V.str))) (h1 : Ev ta σ B (.int (a : Nat))) : GK p (tSl (rSlL K) te (tPart ta) tNoPart σ) B (RLP (· = ls.drop a)) :=
  gk_evL (el_sl he (eo_some h1) eo_none (sq_of hc)) fun B1 x e1 hx => ⟨x, _, rfl, by rw [hx, cut_from, ← List.map_drop], rfl⟩
theorem gk_slB {K : PySem.W.Frag} {c : Addr} {ls : List Str} {b : Nat} (he : Ev te σ B (.ref c)) (hc : B c = some (.lst (ls.map V.str))) (h2 : Ev tb σ B (.int (b : Nat))) : GK p (tSl (rSlL K) te tNoPart (tPart tb) σ) B (RLP (· = ls.take b)) :=
  gk_evL (el_sl he eo_none (eo_some h2) (sq_of hc)) fun B1 x e1 hx => ⟨x, _, rfl, by
    have := cut_nat (xs := ls.map V.str) (a := 0) (b := b) (Nat.zero_le _)
    rw [List.drop_zero, Nat.sub_zero, ← List.map_take] at this
    rw [hx, ← this]
    rfl, rfl⟩
theorem et_eqI {H : Hp} {r c : Int} (h : Ev te σ H (.int r)) : EvT (tTest (tOp rEq te (tC (.int c)))) σ H (decide (r = c)) :=
  et_test (ev_is (ev_op h ev_c (rv_eq rfl)) (congrArg V.bl (decide_eq_decide.mpr ⟨fun h => V.int.inj h, fun h => by rw [h]⟩)))
theorem ev_slen {H : Hp} {x : Str} (h : Ev te σ H (.str x)) (hl : x.length ≤ 100000) : Ev (tCB (fun xs H Q => ∃ z, xs = [.str z] ∧ z.length ≤ sizeLine ∧ Q (.int z.length) H) (tCons te tNil)) σ H (.int (x.length : Nat)) :=
  fun H1 e Q q => h H1 e _ fun H2 e2 => ⟨x, rfl, Nat.le_trans hl (by decide), q H2 e2⟩
theorem gk_lstE {t : TA} {k : Nat} (h : GK p (t σ) B (RA n k)) (hk : k ≤ 1000) : GK p (tLst t σ) B (RLP fun xs => xs.length = k ∧ ∀ x ∈ xs, FineS n x) :=
  gk_lst h fun vs B1 e1 ⟨xs, ev, hl, hx⟩ => ⟨by rw [ev, List.length_map]; omega, fun B2 a e2 ha => ⟨a, xs, rfl, by rw [← ev]; exact ha, hl, hx⟩⟩
/-- a written list of texts -/
theorem gk_lstC {t : TA} {xs : List Str} {k : Nat} (h : EvA t σ B (xs.map V.str)) (hb : (xs.all (fineB n) && decide (xs.length ≤ k)) = true) (hk : k ≤ 1000) : GK p (tLst t σ) B (RL n k) := by
  rw [Bool.and_eq_true, List.all_eq_true] at hb
  have hl := of_decide_eq_true hb.2
  exact gk_evL (el_lst h (by rw [List.length_map]; omega)) fun B1 a e1 ha => ⟨a, xs, rfl, ha, hl, fun x hx => fine_b (hb.1 x hx)⟩
end
end LL
namespace LL
open PySem PySem.Spec PyProof.Rows L2 He Evl
section
variable {w : World} {K : PySem.W.Frag} {mg : Str → Option Value} {base : Heap}
def signsN : Str := "!\"#$&'()*+,-./0123456789:;<=>?@ABCDEFGHIJKLMNOPQRSTUVWXYZ[]^_`abcdefghijklmnopqrstuvwxyz{|}~\n\t"
def signsM : Str := "!\"#$&'()*+,-./0123456789:;<=>?@ABCDEFGHIJKLMNOPQRSTUVWXYZ[\\]^_`abcdefghijklmnopqrstuvwxyz{|}~"
def spNear : Sp := fun us H Q _ => ∃ (p : Addr) (B : Hp) (x : Str) (n : Nat), us = [.ref p, .str x] ∧ Wd p B H ∧ FineS n x ∧ n ≤ 1000 ∧ ∀ y B2 H2, Stp [p] B H B2 H2 → Wd p B2 H2 → FineS (n + 1) y → Q (.str y) H2
theorem fn_l_near (T : Txt K mg) : Fn P w K mg base 2 (ga K "_law_near") (spNear) := by
  refine fn_def T.d_l_near sc_l_near (fun _ _ _ _ _ _ us hl => match us, hl with | [_, _], _ => rfl) (fun vs H Q E h => ?_) (fun cdv A outer s H vs Q E hr h => ?_)
  · obtain ⟨_, _, _, _, rfl, _⟩ := h
    rfl
  obtain ⟨p, B, x, n, rfl, wd, hx, hn, k⟩ := h
  have nd := sc_l_near.nd
  refine ⟨_, pss_cons (ps_set (i := 2) nd rfl (by first | exact Or.inl rfl | exact Or.inr rfl) (pe_str))
      (pss_cons (ps_set (i := 3) nd rfl (by first | exact Or.inl rfl | exact Or.inr rfl) (pe_fn T.d_l_draw (fn_l_draw T) (hr.mono (by decide)) T.g_l_draw pc (pa_cons (pv 0) (pa_cons (pe_op op_add (pe_callB call_len_str (by rfl) T.f_len (by decide +kernel) (pa_cons (pv 1) pa_nil)) (pe_int)) pa_nil))))
      (pss_one (ps_ret (pe_op op_add_str (pe_op op_add_str (pe_slice sl_str (pv 1) po_none (po_some (pv 3))) (pe_ix ix_str (pv 2) (pe_fn T.d_l_draw (fn_l_draw T) (hr.mono (by decide)) T.g_l_draw pc (pa_cons (pv 0) (pa_cons (pe_callB call_len_str (by rfl) T.f_len (by decide +kernel) (pa_cons (pv 2) pa_nil)) pa_nil))) (fun _ _ => rfl))) (pe_slice sl_str (pv 1) (po_some (pe_op op_add (pv 3) (pe_fn T.d_l_draw (fn_l_draw T) (hr.mono (by decide)) T.g_l_draw pc (pa_cons (pv 0) (pa_cons (pe_int) pa_nil))))) po_none))))), ?_⟩
  have hbig : (100000 : Nat) ≤ sizeLine := by decide
  have hS : signsN.length ≤ 1000 := by decide +kernel
  have hS2 : 32 ∉ signsN.cps.toList := by decide +kernel
  have hSl : 0 < signsN.length := by decide +kernel
  have hxl := hx.l
  refine gq_asg wd (gk_val (v := .str signsN) ev_c) fun v B1 H1 s1 w1 hv => ?_
  subst hv
  refine gq_asg (R := RI (((x.length : Nat) : Int) + 1)) w1 ?_ fun v B3 H3 s3 w3 ⟨r, hv, r0, r1⟩ => ?_
  · exact gk_draw rfl (ev_op (ev_slen (x := x) (ev_var rfl) (by omega)) ev_c rv_I0) (by omega) (by omega)
  subst hv
  obtain ⟨a, rfl⟩ : ∃ a : Nat, r = a := ⟨r.toNat, by omega⟩
  have s13 := s1.trans s3
  refine gs_ret (R := RS (n + 1)) w3 ?_ fun v B4 H4 s4 w4 ⟨y, hv, hy⟩ => by rw [hv]; exact k y B4 H4 (s13.trans s4) w4 hy
  refine (gk_addS (n := a + 1) (m := x.length - a) (gk_addS (n := a) (m := 1) ?_ ?_ (by omega)) ?_ (by omega)).imp fun v _ _ ⟨y, hv, hy⟩ => ⟨y, hv, hy.mono (by omega)⟩
  · exact gk_ev (R := RS a) (ev_slS (z := x) (lo := none) (hi := some (a : Int)) (ev_var rfl) eo_none (eo_some (ev_var rfl)) (by omega)) fun _ _ => ⟨_, rfl, hx.pre (by omega)⟩
  · exact gk_ixS hS hS2 (ev_var rfl) (gk_draw rfl (ev_slen (x := signsN) (ev_var rfl) (by omega)) (by omega) (by omega))
  · refine (gk_sufS (P := fun b => a ≤ b) (ev_var rfl) ((gk_addI2 (P := fun r => 0 ≤ r ∧ r < 2) (ev_var rfl) (gk_draw rfl ev_c (by decide) (by decide))).imp fun v _ _ ⟨r, hv, r0, r1⟩ => ⟨a + r.toNat, by rw [hv, Int.natCast_add, Int.toNat_of_nonneg r0], by omega⟩) (by omega)).imp fun v _ _ ⟨b, hv, hb⟩ => ⟨_, hv, hx.suf.mono (by omega)⟩
theorem sv_near {p : Addr} {B : Hp} {x : Str} {n : Nat} {E : XK} (h : FineS n x) (h1 : n ≤ 1000) : GK p (fun H Q => spNear [.ref p, .str x] H Q E) B (RS (n + 1)) := fun B1 H1 e1 w1 Q q =>
  ⟨p, B1, x, n, rfl, w1, h, h1, fun y B2 H2 s2 w2 hy => q _ B2 H2 s2 w2 ⟨y, rfl, hy⟩⟩
def spMenu : Sp := fun us H Q _ => ∃ (p : Addr) (B : Hp), us = [.ref p] ∧ Wd p B H ∧ ∀ y B2 H2, Stp [p] B H B2 H2 → Wd p B2 H2 → FineS 10 y → Q (.str y) H2
theorem fn_l_menu (T : Txt K mg) : Fn P w K mg base 3 (ga K "_law_menu") (spMenu) := by
  refine fn_def T.d_l_menu sc_l_menu (fun _ _ _ _ _ _ us hl => match us, hl with | [_], _ => rfl) (fun vs H Q E h => ?_) (fun cdv A outer s H vs Q E hr h => ?_)
  · obtain ⟨_, _, rfl, _⟩ := h
    rfl
  obtain ⟨p, B, rfl, wd, k⟩ := h
  have nd := sc_l_menu.nd
  refine ⟨_, pss_cons (ps_set (i := 1) nd rfl (by first | exact Or.inl rfl | exact Or.inr rfl) (pe_lst (pa_cons (pe_str) (pa_cons (pe_str) (pa_cons (pe_str) (pa_cons (pe_str) (pa_cons (pe_str) (pa_cons (pe_str) (pa_cons (pe_str) (pa_cons (pe_str) (pa_cons (pe_str) (pa_cons (pe_str) (pa_cons (pe_str) (pa_cons (pe_str) (pa_cons (pe_str) (pa_cons (pe_str) (pa_cons (pe_str) pa_nil)))))))))))))))))
      (pss_cons (ps_set (i := 1) nd rfl (by first | exact Or.inl rfl | exact Or.inr rfl) (pe_op op_cat (pv 1) (pe_lst (pa_cons (pe_str) (pa_cons (pe_str) (pa_cons (pe_str) (pa_cons (pe_str) (pa_cons (pe_str) (pa_cons (pe_str) (pa_cons (pe_str) (pa_cons (pe_str) (pa_cons (pe_str) (pa_cons (pe_str) (pa_cons (pe_str) (pa_cons (pe_str) (pa_cons (pe_str) (pa_cons (pe_str) (pa_cons (pe_str) (pa_cons (pe_str) (pa_cons (pe_str) (pa_cons (pe_str) pa_nil)))))))))))))))))))))
      (pss_cons (ps_set (i := 1) nd rfl (by first | exact Or.inl rfl | exact Or.inr rfl) (pe_op op_cat (pv 1) (pe_lst (pa_cons (pe_str) (pa_cons (pe_str) (pa_cons (pe_str) (pa_cons (pe_str) (pa_cons (pe_str) (pa_cons (pe_str) (pa_cons (pe_str) (pa_cons (pe_str) (pa_cons (pe_str) (pa_cons (pe_str) (pa_cons (pe_str) (pa_cons (pe_str) (pa_cons (pe_str) (pa_cons (pe_str) (pa_cons (pe_str) (pa_cons (pe_str) (pa_cons (pe_str) pa_nil))))))))))))))))))))
      (pss_cons (ps_set (i := 1) nd rfl (by first | exact Or.inl rfl | exact Or.inr rfl) (pe_op op_cat (pv 1) (pe_lst (pa_cons (pe_str) (pa_cons (pe_str) (pa_cons (pe_str) (pa_cons (pe_str) (pa_cons (pe_str) (pa_cons (pe_str) (pa_cons (pe_str) (pa_cons (pe_str) (pa_cons (pe_str) (pa_cons (pe_str) (pa_cons (pe_str) (pa_cons (pe_str) (pa_cons (pe_str) (pa_cons (pe_str) (pa_cons (pe_str) (pa_cons (pe_str) (pa_cons (pe_str) pa_nil))))))))))))))))))))
      (pss_cons (ps_if (pt_cmpR op_eq (pe_fn T.d_l_draw (fn_l_draw T) (hr.mono (by decide)) T.g_l_draw pc (pa_cons (pv 0) (pa_cons (pe_int) pa_nil))) (pe_int) (nomark _)) (pss_cons (ps_set (i := 2) nd rfl (by first | exact Or.inl rfl | exact Or.inr rfl) (pe_str))
      (pss_one (ps_ret (pe_join (pe_str) (pe_lc (own := [("_law_k", 3)]) (g := gName 3) (tt := tYes) rfl nd (pi_range1 rfl T.f_range (pa_cons (pe_op op_add (pe_int) (pe_fn T.d_l_draw (fn_l_draw T) (hr.mono (by decide)) T.g_l_draw pc (pa_cons (pv 0) (pa_cons (pe_int) pa_nil)))) pa_nil)) (blkOk_by (N := n_l_menu) (sc := defScope s_l_menu) (by decide +kernel)) (fun _ _ _ _ _ => pg_name (i := 3) nd rfl (by first | exact Or.inl rfl | exact Or.inr rfl)) (fun _ _ _ _ _ => pts_nil) (fun _ _ _ _ _ => pe_ix ix_str (pv 2) (pe_fn T.d_l_draw (fn_l_draw T) (hr.mono (by decide)) T.g_l_draw pcN (pa_cons (pv 0) (pa_cons (pe_callB call_len_str (by rfl) T.f_len (by decide +kernel) (pa_cons (pv 2) pa_nil)) pa_nil))) (fun _ _ => rfl))))))) (pss_nil))
      (pss_cons (ps_if (pt_cmpR op_eq (pe_fn T.d_l_draw (fn_l_draw T) (hr.mono (by decide)) T.g_l_draw pc (pa_cons (pv 0) (pa_cons (pe_int) pa_nil))) (pe_int) (nomark _)) (pss_one (ps_ret (pe_fn T.d_l_near (fn_l_near T) (hr.mono (by decide)) T.g_l_near pc (pa_cons (pv 0) (pa_cons (pe_ix ix_list (pv 1) (pe_fn T.d_l_draw (fn_l_draw T) (hr.mono (by decide)) T.g_l_draw pc (pa_cons (pv 0) (pa_cons (pe_callB call_len_seq (by rfl) T.f_len PySem.boot_len (pa_cons (pv 1) pa_nil)) pa_nil))) (fun _ _ => rfl)) pa_nil))))) (pss_nil))
      (pss_one (ps_ret (pe_ix ix_list (pv 1) (pe_fn T.d_l_draw (fn_l_draw T) (hr.mono (by decide)) T.g_l_draw pc (pa_cons (pv 0) (pa_cons (pe_callB call_len_seq (by rfl) T.f_len PySem.boot_len (pa_cons (pv 1) pa_nil)) pa_nil))) (fun _ _ => rfl))))))))), ?_⟩
  have hS : signsM.length ≤ 1000 := by decide +kernel
  have hS2 : 32 ∉ signsM.cps.toList := by decide +kernel
  have hSl : 0 < signsM.length := by decide +kernel
  refine gq_asg (R := RL 9 15) wd ?_ fun v B1 H1 s1 w1 m1 => ?_
  · exact gk_lstS (by repeat (first | exact gk_aN | refine gk_aC (gk_cS (n := 9) (by decide +kernel)) ?_ (by omega))) (by decide)
  refine gq_asg (R := RL 9 33) w1 ?_ fun v B2 H2 s2 w2 m2 => ?_
  · exact gk_cat (k := 15) (l := 18) (gk_var rfl fun B1 e => m1.mono e) (gk_lstS (by repeat (first | exact gk_aN | refine gk_aC (gk_cS (n := 9) (by decide +kernel)) ?_ (by omega))) (by decide)) (by decide)
  refine gq_asg (R := RL 9 50) w2 ?_ fun v B3 H3 s3 w3 m3 => ?_
  · exact gk_cat (k := 33) (l := 17) (gk_var rfl fun B1 e => m2.mono e) (gk_lstS (by repeat (first | exact gk_aN | refine gk_aC (gk_cS (n := 9) (by decide +kernel)) ?_ (by omega))) (by decide)) (by decide)
  refine gq_asg (R := RLP fun xs => xs.length ≤ 110 ∧ xs ≠ [] ∧ ∀ x ∈ xs, FineS 9 x) w3 ?_ fun v B9 H9 s9 w9 ⟨b, xs, hv, hb, hxl, hx0, hxs⟩ => ?_
  · refine gk_catP (P1 := fun xs => xs.length ≤ 50 ∧ ∀ x ∈ xs, FineS 9 x) (P2 := fun xs => xs.length = 17 ∧ ∀ x ∈ xs, FineS 9 x) (gk_var rfl fun B1 e => m3.mono e) (gk_lstE (by repeat (first | exact gk_aN | refine gk_aC (gk_cS (n := 9) (by decide +kernel)) ?_ (by omega))) (by decide)) fun xs ys hx hy => ⟨by omega, by rw [List.length_append]; omega, fun z => ?_, fun z hz => ?_⟩
    · have := congrArg List.length z
      rw [List.length_append, hy.1] at this
      exact absurd this (by show ¬ xs.length + 17 = 0; omega)
    · rcases List.mem_append.mp hz with hz | hz
      · exact hx.2 z hz
      · exact hy.2 z hz
  subst hv
  have s19 := s1.trans (s2.trans (s3.trans s9))
  refine gq_when w9 (gk_eqT ((gk_draw rfl ev_c (by decide) (by decide)).imp fun v _ _ ⟨r, h, _⟩ => ⟨r, h⟩)) (fun B10 H10 s10 w10 _ => ?_) (fun B10 H10 s10 w10 _ => ?_)
  · refine gq_asg w10 (gk_val (v := .str signsM) ev_c) fun v B11 H11 s11 w11 hv => ?_
    subst hv
    have s111 := s19.trans (s10.trans s11)
    refine gs_ret (R := RS 3) w11 ?_ fun v B12 H12 s12 w12 ⟨y, hv, hy⟩ => by rw [hv]; exact k y B12 H12 (s111.trans s12) w12 (hy.mono (by omega))
    refine (gk_join (n := 1) (m := 3) (gk_lcR (Rn := fun n => 1 ≤ n ∧ n ≤ 3) (Re := fun _ => RS 1) ?_ (fun n h => ⟨by omega, by omega⟩) (fun _ => rfl) (fun _ _ _ _ _ h => h) (fun n i B4 _ _ e4 => ?_) (fun n B4 a vs e4 rn hl ha hre => ?_)) (by decide)).imp fun v B4 _ ⟨ys, hv, hl, hy⟩ => ⟨_, hv, FineS.join hl hy⟩
    · refine gk_cons (gk_addI (P := fun r => 0 ≤ r ∧ r < 3) (gk_draw rfl ev_c (by decide) (by decide))) fun x B5 e5 ⟨r, ex, r0, r1⟩ => gk_nil fun _ _ => ⟨1 + r, by rw [ex], by omega, by omega⟩
    · exact gk_ixS hS hS2 (ev_var rfl) (gk_draw rfl (ev_slen (x := signsM) (ev_var rfl) (by omega)) (by omega) (by omega))
    · obtain ⟨xs, hxs, hfx⟩ : ∃ xs : List Str, vs = xs.map V.str ∧ ∀ x ∈ xs, FineS 1 x := by
        clear ha hl
        induction vs with
        | nil => exact ⟨[], rfl, fun _ h => nomatch h⟩
        | cons v vs ih =>
          obtain ⟨xs, h1, h2⟩ := ih fun i u hu => hre (i + 1) u hu
          obtain ⟨x, hx1, hx2⟩ := hre 0 v rfl
          exact ⟨x :: xs, by rw [hx1, h1, List.map_cons], fun y hy => by
            rcases List.mem_cons.mp hy with rfl | hy
            · exact hx2
            · exact h2 y hy⟩
      subst hxs
      exact ⟨a, xs, rfl, ha, by rw [List.length_map] at hl; omega, hfx⟩
  have s110 := s19.trans s10
  have hb10 := s10.base _ _ hb
  refine gq_when w10 (gk_eqT ((gk_draw rfl ev_c (by decide) (by decide)).imp fun v _ _ ⟨r, h, _⟩ => ⟨r, h⟩)) (fun B11 H11 s11 w11 _ => ?_) (fun B11 H11 s11 w11 _ => ?_)
  · refine gs_ret (R := RS 10) w11 ?_ fun v B12 H12 s12 w12 ⟨y, hv, hy⟩ => by rw [hv]; exact k y B12 H12 (s110.trans (s11.trans s12)) w12 hy
    refine gk_fn (S := fun vs _ => ∃ x, vs = [.ref p, .str x] ∧ FineS 9 x) (gk_c1 (ev_var rfl) (gk_cons (R1 := RS 9) (gk_pick rfl rfl (s11.base _ _ hb10) hx0 (by omega) hxs) fun v B11 e11 ⟨x, hv, hx⟩ => gk_nil fun _ _ => ⟨x, by rw [hv], hx⟩)) fun vs B11 e11 ⟨x, hv, hx⟩ => ?_
    subst hv
    exact sv_near hx (by omega)
  · refine gs_ret (R := RS 9) w11 ?_ fun v B12 H12 s12 w12 ⟨y, hv, hy⟩ => by rw [hv]; exact k y B12 H12 (s110.trans (s11.trans s12)) w12 (hy.mono (by omega))
    exact gk_pick rfl rfl (s11.base _ _ hb10) hx0 (by omega) hxs
theorem sv_menu {p : Addr} {B : Hp} {E : XK} : GK p (fun H Q => spMenu [.ref p] H Q E) B (RS 10) := fun B1 H1 e1 w1 Q q => ⟨p, B1, rfl, w1, fun y B2 H2 s2 w2 hy => q _ B2 H2 s2 w2 ⟨y, rfl, hy⟩⟩
end
end LL
namespace LL
open PySem PySem.Spec PyProof.Rows L2 He Evl
/-- at most k words -/
def PWs (k : Nat) (ys : List Str) : Prop := ys.length ≤ k ∧ ∀ x ∈ ys, FineS 10 x
theorem PWs.mono {k m : Nat} {ys : List Str} (h : PWs k ys) (l : k ≤ m) : PWs m ys := ⟨Nat.le_trans h.1 l, h.2⟩
section
variable {p : Addr} {B : Hp} {σ : L2.St} {te ta tb : TE} {K : PySem.W.Frag}
theorem gk_catPR {a b : Nat} (h1 : GK p (ta σ) B (RLP (PWs a))) (h2 : GK p (tb σ) B (RLP (PWs b))) (hz : a + b ≤ 16000000) : GK p (tOp rCat ta tb σ) B (RLP (PWs (a + b))) :=
  gk_catM h1 h2 fun xs ys hx hy => ⟨by have := hx.1; have := hy.1; omega, by rw [List.length_append]; have := hx.1; have := hy.1; omega, fun x h => by
    rcases List.mem_append.mp h with h | h
    · exact hx.2 x h
    · exact hy.2 x h⟩
variable {c : Addr} {ls : List Str} {a b : Nat}
theorem pr_AB (he : Ev te σ B (.ref c)) (hc : B c = some (.lst (ls.map V.str))) (hf : ∀ x ∈ ls, FineS 10 x) (h1 : Ev ta σ B (.int (a : Nat))) (h2 : Ev tb σ B (.int (b : Nat))) (hab : a ≤ b) : GK p (tSl (rSlL K) te (tPart ta) (tPart tb) σ) B (RLP (PWs (b - a))) :=
  (gk_slAB he hc h1 h2 hab).imp fun v _ _ ⟨x, ys, h1, h2, h3⟩ => ⟨x, ys, h1, h2, by rw [h3, List.length_take]; omega, fun x hx => by rw [h3] at hx; exact hf x (List.mem_of_mem_drop (List.mem_of_mem_take hx))⟩
theorem pr_A (he : Ev te σ B (.ref c)) (hc : B c = some (.lst (ls.map V.str))) (hf : ∀ x ∈ ls, FineS 10 x) (h1 : Ev ta σ B (.int (a : Nat))) : GK p (tSl (rSlL K) te (tPart ta) tNoPart σ) B (RLP (PWs (ls.length - a))) :=
  (gk_slA he hc h1).imp fun v _ _ ⟨x, ys, h1, h2, h3⟩ => ⟨x, ys, h1, h2, by rw [h3, List.length_drop]; omega, fun x hx => by rw [h3] at hx; exact hf x (List.mem_of_mem_drop hx)⟩
theorem pr_B (he : Ev te σ B (.ref c)) (hc : B c = some (.lst (ls.map V.str))) (hf : ∀ x ∈ ls, FineS 10 x) (h2 : Ev tb σ B (.int (b : Nat))) : GK p (tSl (rSlL K) te tNoPart (tPart tb) σ) B (RLP (PWs b)) :=
  (gk_slB he hc h2).imp fun v _ _ ⟨x, ys, h1, h2, h3⟩ => ⟨x, ys, h1, h2, by rw [h3, List.length_take]; omega, fun x hx => by rw [h3] at hx; exact hf x (List.mem_of_mem_take hx)⟩
end
section
variable {w : World} {K : PySem.W.Frag} {mg : Str → Option Value} {base : Heap}
def spChanged : Sp := fun us H Q _ => ∃ (p : Addr) (B : Hp) (a : Addr) (ls : List Str), us = [.ref p, .ref a] ∧ Wd p B H ∧ B a = some (.lst (ls.map V.str)) ∧ PWs 500000 ls ∧ ∀ (c : Addr) (zs : List Str) (B2 H2 : Hp), Stp [p] B H B2 H2 → Wd p B2 H2 → B2 c = some (.lst (zs.map V.str)) → PWs 500012 zs → Q (.ref c) H2
theorem fn_l_changed (T : Txt K mg) : Fn P w K mg base 4 (ga K "_law_changed") (spChanged) := by
  refine fn_def T.d_l_changed sc_l_changed (fun _ _ _ _ _ _ us hl => match us, hl with | [_, _], _ => rfl) (fun vs H Q E h => ?_) (fun cdv A outer s H vs Q E hr h => ?_)
  · obtain ⟨_, _, _, _, rfl, _⟩ := h
    rfl
  obtain ⟨p, B, a, ls, rfl, wd, ha, hls, k⟩ := h
  have nd := sc_l_changed.nd
  refine ⟨_, pss_cons (ps_for (passes_of rfl) rfl (pi_range1 rfl T.f_range (pa_cons (pe_fn T.d_l_draw (fn_l_draw T) (hr.mono (by decide)) T.g_l_draw pc (pa_cons (pv 0) (pa_cons (pe_int) pa_nil))) pa_nil)) (pg_name (i := 2) nd rfl (by first | exact Or.inl rfl | exact Or.inr rfl)) (pss_cons (ps_set (i := 3) nd rfl (by first | exact Or.inl rfl | exact Or.inr rfl) (pe_fn T.d_l_draw (fn_l_draw T) (hr.mono (by decide)) T.g_l_draw pc (pa_cons (pv 0) (pa_cons (pe_int) pa_nil))))
      (pss_cons (ps_set (i := 4) nd rfl (by first | exact Or.inl rfl | exact Or.inr rfl) (pe_fn T.d_l_draw (fn_l_draw T) (hr.mono (by decide)) T.g_l_draw pc (pa_cons (pv 0) (pa_cons (pe_op op_add (pe_callB call_len_seq (by rfl) T.f_len PySem.boot_len (pa_cons (pv 1) pa_nil)) (pe_int)) pa_nil))))
      (pss_cons (ps_set (i := 5) nd rfl (by first | exact Or.inl rfl | exact Or.inr rfl) (pe_fn T.d_l_draw (fn_l_draw T) (hr.mono (by decide)) T.g_l_draw pc (pa_cons (pv 0) (pa_cons (pe_op op_add (pe_callB call_len_seq (by rfl) T.f_len PySem.boot_len (pa_cons (pv 1) pa_nil)) (pe_int)) pa_nil))))
      (pss_one (ps_if (pt_cmpR op_eq (pv 3) (pe_int) (nomark _)) (pss_one (ps_set (i := 1) nd rfl (by first | exact Or.inl rfl | exact Or.inr rfl) (pe_op op_cat (pe_slice sl_list (pv 1) po_none (po_some (pv 4))) (pe_slice sl_list (pv 1) (po_some (pe_op op_add (pv 4) (pe_int))) po_none)))) (pss_one (ps_if (pt_cmpR op_eq (pv 3) (pe_int) (nomark _)) (pss_one (ps_set (i := 1) nd rfl (by first | exact Or.inl rfl | exact Or.inr rfl) (pe_op op_cat (pe_op op_cat (pe_slice sl_list (pv 1) po_none (po_some (pv 4))) (pe_lst (pa_cons (pe_fn T.d_l_menu (fn_l_menu T) (hr.mono (by decide)) T.g_l_menu pc (pa_cons (pv 0) pa_nil)) pa_nil))) (pe_slice sl_list (pv 1) (po_some (pv 4)) po_none)))) (pss_one (ps_if (pt_cmpR op_eq (pv 3) (pe_int) (nomark _)) (pss_one (ps_set (i := 1) nd rfl (by first | exact Or.inl rfl | exact Or.inr rfl) (pe_op op_cat (pe_op op_cat (pe_slice sl_list (pv 1) po_none (po_some (pv 4))) (pe_lst (pa_cons (pe_fn T.d_l_menu (fn_l_menu T) (hr.mono (by decide)) T.g_l_menu pc (pa_cons (pv 0) pa_nil)) pa_nil))) (pe_slice sl_list (pv 1) (po_some (pe_op op_add (pv 4) (pe_int))) po_none)))) (pss_one (ps_if (pt_cmpR op_eq (pv 3) (pe_int) (nomark _)) (pss_one (ps_set (i := 1) nd rfl (by first | exact Or.inl rfl | exact Or.inr rfl) (pe_op op_cat (pe_op op_cat (pe_slice sl_list (pv 1) po_none (po_some (pv 4))) (pe_slice sl_list (pv 1) (po_some (pv 5)) (po_some (pe_op op_add (pv 5) (pe_int))))) (pe_slice sl_list (pv 1) (po_some (pe_op op_add (pv 4) (pe_int))) po_none)))) (pss_one (ps_if (pt_cmpR op_eq (pv 3) (pe_int) (nomark _)) (pss_one (ps_set (i := 1) nd rfl (by first | exact Or.inl rfl | exact Or.inr rfl) (pe_op op_cat (pe_op op_cat (pe_slice sl_list (pv 1) po_none (po_some (pv 4))) (pe_slice sl_list (pv 1) (po_some (pv 5)) (po_some (pe_op op_add (pv 5) (pe_int))))) (pe_slice sl_list (pv 1) (po_some (pv 4)) po_none)))) (pss_one (ps_set (i := 1) nd rfl (by first | exact Or.inl rfl | exact Or.inr rfl) (pe_op op_cat (pe_op op_cat (pe_op op_cat (pe_slice sl_list (pv 1) po_none (po_some (pv 4))) (pe_slice sl_list (pv 1) (po_some (pe_op op_add (pv 4) (pe_int))) (po_some (pe_op op_add (pv 4) (pe_int))))) (pe_slice sl_list (pv 1) (po_some (pv 4)) (po_some (pe_op op_add (pv 4) (pe_int))))) (pe_slice sl_list (pv 1) (po_some (pe_op op_add (pv 4) (pe_int))) po_none))))))))))))))))))
      (pss_one (ps_ret (pv 1))), ?_⟩
  refine gq_forR (Rn := fun n => 0 ≤ n ∧ n ≤ 4) wd ?_ (fun n h => ⟨by omega, by omega⟩) (fun n i σ H' => ∃ (B' : Hp) (c : Addr) (zs : List Str) (u2 u3 u4 u5 : Option V), Stp [p] B H B' H' ∧ Wd p B' H' ∧ B' c = some (.lst (zs.map V.str)) ∧ PWs (500000 + 3 * i) zs ∧ σ = [some (.ref p), some (.ref c), u2, u3, u4, u5]) ?_ ?_ ?_
  · exact gk_cons (gk_draw (n := 5) rfl ev_c (by decide) (by decide)) fun x B1 e1 ⟨r, hr, r0, r1⟩ => gk_nil fun _ _ => ⟨r, by rw [hr], r0, by omega⟩
  · intro n B2 H2 s2 w2 rn
    exact ⟨B2, a, ls, _, _, _, _, s2, w2, s2.base _ _ ha, hls, rfl⟩
  · rintro n i σ H1 ⟨n0, n3⟩ hi ⟨B1, c, zs, u2, u3, u4, u5, s1, w1, hc, hzs, rfl⟩
    have hi3 : i ≤ 3 := by omega
    have hzl := hzs.1
    have hzf := hzs.2
    dsimp only [List.set]
    have lenz : ∀ {σ' : L2.St} {B' : Hp}, σ'[1]? = some (some (.ref c)) → Ex B1 B' → Ev (tOp (rI0 fun i j => .int (i + j)) (tCB (rLenS K) (tCons (tVar 1) tNil)) (tC (.int 1))) σ' B' (.int ((zs.length : Nat) + 1)) := fun hs e => by
      have := ev_op (ev_len (K := K) (ev_var hs) (sq_of (e _ _ hc))) (ev_c (v := .int 1)) (rv_I0 (g := fun i j => .int (i + j)))
      rw [List.length_map] at this
      exact this
    refine gq_asg (R := RI 6) w1 (gk_draw rfl ev_c (by decide) (by decide)) fun v B2 H2 s2 w2 ⟨way, hv, _, _⟩ => ?_
    subst hv
    refine gq_asg (R := RI ((zs.length : Nat) + 1)) w2 (gk_draw rfl (lenz rfl s2.base) (by omega) (by omega)) fun v B3 H3 s3 w3 ⟨r, hv, r0, r1⟩ => ?_
    subst hv
    obtain ⟨pl, rfl⟩ : ∃ pl : Nat, r = pl := ⟨r.toNat, by omega⟩
    have s23 := s2.trans s3
    refine gq_asg (R := RI ((zs.length : Nat) + 1)) w3 (gk_draw rfl (lenz rfl s23.base) (by omega) (by omega)) fun v B4 H4 s4 w4 ⟨r, hv, q0, q1⟩ => ?_
    subst hv
    obtain ⟨ot, rfl⟩ : ∃ ot : Nat, r = ot := ⟨r.toNat, by omega⟩
    have s24 := s23.trans s4
    have hc4 := s24.base _ _ hc
    have s14 := s1.trans s24
    dsimp only [List.set]
    have fin : ∀ {v B' H'}, Stp [p] B4 H4 B' H' → Wd p B' H' → RLP (PWs (500000 + 3 * (i + 1))) v B' → ∃ (B' : Hp) (c : Addr) (zs : List Str) (u2 u3 u4 u5 : Option V), Stp [p] B H B' H' ∧ Wd p B' H' ∧ B' c = some (.lst (zs.map V.str)) ∧ PWs (500000 + 3 * (i + 1)) zs ∧ [some (.ref p), some v, some (.int (i : Nat)), some (.int way), some (.int (pl : Nat)), some (.int (ot : Nat))] = [some (.ref p), some (.ref c), u2, u3, u4, u5] := by
      rintro v B' H' s' w' ⟨c', ys, rfl, hc', hy⟩
      exact ⟨B', c', ys, _, _, _, _, s14.trans s', w', hc', hy, rfl⟩
    have up : ∀ {m : Nat} {v : V} {B' : Hp}, m ≤ zs.length + 3 → RLP (PWs m) v B' → RLP (PWs (500000 + 3 * (i + 1))) v B' := fun hm ⟨c', ys, h1, h2, h3⟩ => ⟨c', ys, h1, h2, h3.mono (by omega)⟩
    have pA : ∀ {σ' : L2.St} {B' : Hp} (j : Nat), σ'[4]? = some (some (.int (pl : Nat))) → Ev (tOp (rI0 fun i j => .int (i + j)) (tVar 4) (tC (.int (j : Nat)))) σ' B' (.int ((pl + j : Nat) : Int)) := fun j hs => ev_op (ev_var hs) ev_c rv_I0
    have oA : ∀ {σ' : L2.St} {B' : Hp} (j : Nat), σ'[5]? = some (some (.int (ot : Nat))) → Ev (tOp (rI0 fun i j => .int (i + j)) (tVar 5) (tC (.int (j : Nat)))) σ' B' (.int ((ot + j : Nat) : Int)) := fun j hs => ev_op (ev_var hs) ev_c rv_I0
    have newW : ∀ {B' : Hp} {E : XK}, GK p (tLst (tCons (fun σ H Q => tCons (tVar 0) tNil σ H fun vs H1 => spMenu vs H1 Q E) tNil) [some (.ref p), some (.ref c), some (.int (i : Nat)), some (.int way), some (.int (pl : Nat)), some (.int (ot : Nat))]) B' (RLP (PWs 1)) :=
      (gk_lstE (n := 10) (k := 1) (gk_aC (m := 10) (gk_fn (S := fun vs _ => vs = [.ref p]) (gk_c1 (ev_var rfl) (gk_nil fun _ _ => rfl)) fun vs B1 e1 hv => by subst hv; exact sv_menu) gk_aN (by omega)) (by decide)).imp fun v _ _ ⟨x, ys, h1, h2, h3, h4⟩ => ⟨x, ys, h1, h2, by omega, h4⟩
    refine gs_if (R := fun _ _ => True) w4 (gk_tv (et_eqI (ev_var rfl)) fun _ _ => True.intro) (fun B5 H5 s5 w5 _ => ?_) (fun B5 H5 s5 w5 _ => ?_)
    · have h5 := s5.base _ _ hc4
      exact gs_asg w5 (gk_catPR (pr_B (ev_var rfl) h5 hzf (ev_var rfl)) (pr_A (ev_var rfl) h5 hzf (pA 1 rfl)) (by omega)) fun v B8 H8 s8 w8 r => fin (s5.trans s8) w8 (up (by omega) r)
    refine gs_if (R := fun _ _ => True) w5 (gk_tv (et_eqI (ev_var rfl)) fun _ _ => True.intro) (fun B6 H6 s6 w6 _ => ?_) (fun B6 H6 s6 w6 _ => ?_)
    · have s56 := s5.trans s6
      have h6 := s56.base _ _ hc4
      exact gs_asg w6 (gk_catPR (gk_catPR (pr_B (ev_var rfl) h6 hzf (ev_var rfl)) newW (by omega)) (pr_A (ev_var rfl) h6 hzf (ev_var rfl)) (by omega)) fun v B8 H8 s8 w8 r => fin (s56.trans s8) w8 (up (by omega) r)
    refine gs_if (R := fun _ _ => True) w6 (gk_tv (et_eqI (ev_var rfl)) fun _ _ => True.intro) (fun B7 H7 s7 w7 _ => ?_) (fun B7 H7 s7 w7 _ => ?_)
    · have s57 := s5.trans (s6.trans s7)
      have h7 := s57.base _ _ hc4
      exact gs_asg w7 (gk_catPR (gk_catPR (pr_B (ev_var rfl) h7 hzf (ev_var rfl)) newW (by omega)) (pr_A (ev_var rfl) h7 hzf (pA 1 rfl)) (by omega)) fun v B8 H8 s8 w8 r => fin (s57.trans s8) w8 (up (by omega) r)
    refine gs_if (R := fun _ _ => True) w7 (gk_tv (et_eqI (ev_var rfl)) fun _ _ => True.intro) (fun B8 H8 s8 w8 _ => ?_) (fun B8 H8 s8 w8 _ => ?_)
    · have s58 := s5.trans (s6.trans (s7.trans s8))
      have h8 := s58.base _ _ hc4
      exact gs_asg w8 (gk_catPR (gk_catPR (pr_B (ev_var rfl) h8 hzf (ev_var rfl)) (pr_AB (ev_var rfl) h8 hzf (ev_var rfl) (oA 1 rfl) (by omega)) (by omega)) (pr_A (ev_var rfl) h8 hzf (pA 1 rfl)) (by omega)) fun v B9 H9 s9 w9 r => fin (s58.trans s9) w9 (up (by omega) r)
    refine gs_if (R := fun _ _ => True) w8 (gk_tv (et_eqI (ev_var rfl)) fun _ _ => True.intro) (fun B9 H9 s9 w9 _ => ?_) (fun B9 H9 s9 w9 _ => ?_)
    · have s59 := s5.trans (s6.trans (s7.trans (s8.trans s9)))
      have h9 := s59.base _ _ hc4
      exact gs_asg w9 (gk_catPR (gk_catPR (pr_B (ev_var rfl) h9 hzf (ev_var rfl)) (pr_AB (ev_var rfl) h9 hzf (ev_var rfl) (oA 3 rfl) (by omega)) (by omega)) (pr_A (ev_var rfl) h9 hzf (ev_var rfl)) (by omega)) fun v B10 H10 s10 w10 r => fin (s59.trans s10) w10 (up (by omega) r)
    · have s59 := s5.trans (s6.trans (s7.trans (s8.trans s9)))
      have h9 := s59.base _ _ hc4
      exact gs_asg w9 (gk_catPR (gk_catPR (gk_catPR (pr_B (ev_var rfl) h9 hzf (ev_var rfl)) (pr_AB (ev_var rfl) h9 hzf (pA 1 rfl) (pA 2 rfl) (by omega)) (by omega)) (pr_AB (ev_var rfl) h9 hzf (ev_var rfl) (pA 1 rfl) (by omega)) (by omega)) (pr_A (ev_var rfl) h9 hzf (pA 2 rfl)) (by omega)) fun v B10 H10 s10 w10 r => fin (s59.trans s10) w10 (up (by omega) r)
  · rintro n σ H1 ⟨n0, n3⟩ ⟨B1, c, zs, u2, u3, u4, u5, s1, w1, hc, hzs, rfl⟩
    exact ⟨_, rfl, k c zs B1 H1 s1 w1 hc (hzs.mono (by omega))⟩
def spWalked : Sp := fun us H Q _ => ∃ (p : Addr) (B : Hp), us = [.ref p] ∧ Wd p B H ∧ ∀ (c : Addr) (zs : List Str) (B2 H2 : Hp), Stp [p] B H B2 H2 → Wd p B2 H2 → B2 c = some (.lst (zs.map V.str)) → PWs 40 zs → Q (.ref c) H2
theorem fine_c : ∀ x ∈ (["var", "x", "7"] : List Str), FineS 10 x := fun x hx => fine_b (by revert x; decide +kernel)
theorem fn_l_walked (T : Txt K mg) : Fn P w K mg base 5 (ga K "_law_walked") (spWalked) := by
  refine fn_def T.d_l_walked sc_l_walked (fun _ _ _ _ _ _ us hl => match us, hl with | [_], _ => rfl) (fun vs H Q E h => ?_) (fun cdv A outer s H vs Q E hr h => ?_)
  · obtain ⟨_, _, rfl, _⟩ := h
    rfl
  obtain ⟨p, B, rfl, wd, k⟩ := h
  have nd := sc_l_walked.nd
  refine ⟨_, pss_cons (ps_set (i := 1) nd rfl (by first | exact Or.inl rfl | exact Or.inr rfl) (pe_op op_rep (pe_lst (pa_cons (pe_str) (pa_cons (pe_str) (pa_cons (pe_str) pa_nil)))) (pe_fn T.d_l_draw (fn_l_draw T) (hr.mono (by decide)) T.g_l_draw pc (pa_cons (pv 0) (pa_cons (pe_int) pa_nil)))))
      (pss_cons (ps_for (passes_of rfl) rfl (pi_range1 rfl T.f_range (pa_cons (pe_fn T.d_l_draw (fn_l_draw T) (hr.mono (by decide)) T.g_l_draw pc (pa_cons (pv 0) (pa_cons (pe_int) pa_nil))) pa_nil)) (pg_name (i := 2) nd rfl (by first | exact Or.inl rfl | exact Or.inr rfl)) (pss_cons (ps_set (i := 3) nd rfl (by first | exact Or.inl rfl | exact Or.inr rfl) (pe_fn T.d_l_menu (fn_l_menu T) (hr.mono (by decide)) T.g_l_menu pc (pa_cons (pv 0) pa_nil)))
      (pss_cons (ps_for (passes_of rfl) rfl (pi_range1 rfl T.f_range (pa_cons (pe_int) pa_nil)) (pg_name (i := 4) nd rfl (by first | exact Or.inl rfl | exact Or.inr rfl)) (pss_one (ps_if (pt_cmpR op_eq (pe_fn T.d_l_wrong (fn_l_wrong T) (hr.mono (by decide)) T.g_l_wrong pc (pa_cons (pe_op op_cat (pv 1) (pe_lst (pa_cons (pv 3) pa_nil))) pa_nil)) (pe_callB call_len_seq (by rfl) T.f_len PySem.boot_len (pa_cons (pv 1) pa_nil)) (nomark _)) (pss_one (ps_set (i := 3) nd rfl (by first | exact Or.inl rfl | exact Or.inr rfl) (pe_fn T.d_l_menu (fn_l_menu T) (hr.mono (by decide)) T.g_l_menu pc (pa_cons (pv 0) pa_nil)))) (pss_nil))))
      (pss_one (ps_expr (pe_bm PySem.F.plainAttrs_list PySem.F.slot_list_append PySem.F.type_list_append mt_append (pv 1) (pa_cons (pv 3) pa_nil)))))))
      (pss_one (ps_ret (pv 1)))), ?_⟩
  refine ⟨(by show 3 ≤ sizeLine; decide), fun t nt => ?_⟩
  have wt := wd.cell (o := .lst [V.str "var", V.str "x", V.str "7"]) nt
  have st : Stp [p] B H B (upd H t (.lst [V.str "var", V.str "x", V.str "7"])) := Stp.cell (ms := [p]) wd.e nt
  have ht : (upd H t (.lst [V.str "var", V.str "x", V.str "7"])) t = some (.lst [V.str "var", V.str "x", V.str "7"]) := upd_same
  have htp : t ≠ p := wd.P.ne nt
  refine (gk_draw (n := 2) (i := 0) rfl ev_c (by decide) (by decide)).go wt fun v B2 H2 s2 w2 ⟨r, hv, r0, r1⟩ => ?_
  have ht2 := s2.fr t _ (by simpa using htp) ht
  refine ⟨t, r, _, rfl, hv, ht2, by omega, by omega, ?_, fun c nc => ?_⟩
  · have : (100000 : Nat) ≤ sizeLine := by decide
    show 3 * r.toNat ≤ sizeLine
    omega
  obtain ⟨z0, hz0, hzp⟩ : ∃ z0 : List Str, (List.replicate r.toNat [V.str "var", V.str "x", V.str "7"]).flatten = z0.map V.str ∧ PWs 3 z0 := by
    rcases (show r = 0 ∨ r = 1 by omega) with rfl | rfl
    · exact ⟨[], rfl, Nat.zero_le _, fun _ h => nomatch h⟩
    · exact ⟨["var", "x", "7"], rfl, Nat.le_refl _, fine_c⟩
  rw [hz0]
  have s02 := st.trans s2
  have nB : B2 c = none := ex_none w2.e nc
  have w3 : Wd p B2 (upd H2 c (.lst (z0.map V.str))) := w2.cell nc
  have hcp : c ≠ p := w2.P.ne nc
  have hc3 : (upd H2 c (.lst (z0.map V.str))) c = some (.lst (z0.map V.str)) := upd_same
  dsimp only [gName]
  generalize hH3 : upd H2 c (.lst (z0.map V.str)) = H3 at w3 hc3
  refine gq_forR (Rn := fun n => 0 ≤ n ∧ n ≤ 29) w3 ?_ (fun n h => ⟨by omega, by omega⟩) (fun n i σ H' => ∃ (B' : Hp) (ws : List Str) (v2 v3 v4 : Option V), Stp [c, p] B2 H3 B' H' ∧ Wd p B' H' ∧ B' c = none ∧ H' c = some (.lst (ws.map V.str)) ∧ PWs (3 + i) ws ∧ σ = [some (.ref p), some (.ref c), v2, v3, v4]) ?_ ?_ ?_
  · exact gk_cons (gk_draw (n := 30) rfl ev_c (by decide) (by decide)) fun x B1 e1 ⟨r, hr, r0, r1⟩ => gk_nil fun _ _ => ⟨r, by rw [hr], r0, by omega⟩
  · intro n B4 H4 s4 w4 rn
    exact ⟨B4, z0, _, _, _, s4.wk (by simp), w4, s4.off nB hc3, s4.fr c _ (by simpa using hcp) hc3, hzp, rfl⟩
  · rintro n i σ H5 ⟨n0, n3⟩ hi ⟨B5, ws, v2, v3, v4, s5, w5, b5, hc5, hws, rfl⟩
    dsimp only [List.set]
    have menu : ∀ {σ' : L2.St} {B' : Hp} {E : XK}, σ'[0]? = some (some (.ref p)) → GK p ((fun σ H Q => tCons (tVar 0) tNil σ H fun vs H1 => spMenu vs H1 Q E) σ') B' (RS 10) := fun hs =>
      gk_fn (S := fun vs _ => vs = [.ref p]) (gk_c1 (ev_var hs) (gk_nil fun _ _ => rfl)) fun vs B1 e1 hv => by subst hv; exact sv_menu
    refine gq_asg (R := RS 10) w5 (menu rfl) fun v B6 H6 s6 w6 ⟨x, hv, hx⟩ => ?_
    subst hv
    have s56 := s5.trans (s6.wk (ns := [c, p]) (by simp))
    have hc6 := s6.fr c _ (by simpa using hcp) hc5
    have b6 := s6.off b5 hc5
    dsimp only [List.set]
    refine gq_forR (Rn := fun n => n = 8) w6 (gk_c1 ev_c (gk_nil fun _ _ => ⟨8, rfl, rfl⟩)) (fun n h => ⟨by omega, by omega⟩) (fun _ _ σ H' => ∃ (B' : Hp) (x : Str) (v4 : Option V), Stp [c, p] B2 H3 B' H' ∧ Wd p B' H' ∧ B' c = none ∧ H' c = some (.lst (ws.map V.str)) ∧ FineS 10 x ∧ σ = [some (.ref p), some (.ref c), some (.int (i : Nat)), some (.str x), v4]) ?_ ?_ ?_
    · intro _ B7 H7 s7 w7 _
      exact ⟨B7, x, _, s56.trans (s7.wk (by simp)), w7, s7.off b6 hc6, s7.fr c _ (by simpa using hcp) hc6, hx, rfl⟩
    · rintro n2 j σ H7 rfl hj ⟨B7, x, v4, s7, w7, b7, hc7, hx, rfl⟩
      dsimp only [List.set]
      refine s_when (b := decide (oV (wrongO (ws ++ [x])) = .int (ws.length : Nat))) (et_test fun H1 e1 Q1 q1 => ?_) (fun _ H8 x8 => ?_) fun _ H8 x8 => ?_
      · have hl : (ws ++ [x]).length ≤ 600000 := by rw [List.length_append, List.length_singleton]; have := hws.1; omega
        refine ⟨_, rfl, _, rfl, (by show 1 ≤ sizeLine; decide), fun l nl => ⟨c, l, _, _, rfl, rfl, (Ex.new nl) _ _ (e1 _ _ hc7), upd_same, big_ (by rw [List.length_map, List.length_singleton]; have := hws.1; omega), fun l2 nl2 => ⟨l2, ws ++ [x], rfl, SqL.of (by rw [upd_same, List.map_append]; rfl), hl, fun y hy => ?_, fun H4 x4 => ?_⟩⟩⟩
        · rcases List.mem_append.mp hy with hy | hy
          · exact Nat.le_trans (hws.2 y hy).l (by decide)
          · rw [List.mem_singleton.mp hy]
            exact Nat.le_trans hx.l (by decide)
        · have xx := ((Ex.new (o := .lst [V.str x]) nl).trans (Ex.new nl2)).trans x4
          refine ⟨_, rfl, c, _, rfl, .inl (SqL.of (xx _ _ (e1 _ _ hc7))), ?_⟩
          rw [List.length_map]
          have hf : scal (oV (wrongO (ws ++ [x]))) (.int (ws.length : Nat)) = true := by cases wrongO (ws ++ [x]) <;> rfl
          exact rv_eq hf H4 (Ex.refl _) Q1 fun H9 x9 => q1 H9 (xx.trans x9)
      · obtain ⟨s8, w8⟩ := w7.ex x8
        refine gs_asg (R := RS 10) w8 (menu rfl) fun v B9 H9 s9 w9 ⟨y, hv, hy⟩ => ?_
        subst hv
        have s89 := s8.trans s9
        exact ⟨B9, y, _, s7.trans (s89.wk (by simp)), w9, s89.off b7 hc7, s89.fr c _ (by simpa using hcp) hc7, hy, rfl⟩
      · obtain ⟨s8, w8⟩ := w7.ex x8
        exact ⟨B7, x, _, s7.trans (s8.wk (by simp)), w8, b7, x8 _ _ hc7, hx, rfl⟩
    · rintro n2 σ H7 rfl ⟨B7, x, v4, s7, w7, b7, hc7, hx, rfl⟩
      refine ⟨_, rfl, .inl ⟨rfl, _, SqL.of hc7⟩, _, rfl, c, _, _, rfl, rfl, hc7, small1000 (by rw [List.length_map]; have := hws.1; omega), ?_⟩
      have s8 := Stp.put (ms := [c, p]) (o := .lst (ws.map V.str ++ [V.str x])) w7.e b7 (.head _)
      refine ⟨B7, ws ++ [x], _, _, _, s7.trans s8, w7.put b7 hcp, b7, by rw [upd_same, List.map_append]; rfl, ⟨by rw [List.length_append, List.length_singleton]; have := hws.1; omega, fun y hy => ?_⟩, rfl⟩
      rcases List.mem_append.mp hy with hy | hy
      · exact hws.2 y hy
      · rw [List.mem_singleton.mp hy]
        exact hx
  · rintro n σ H5 ⟨n0, n3⟩ ⟨B5, ws, v2, v3, v4, s5, w5, b5, hc5, hws, rfl⟩
    subst hH3
    have cl := Stp.close w2.e nc s5 hc5
    have w6 : Wd p (upd B5 c (.lst (ws.map V.str))) H5 := w2.stp cl (w5.P.of (Ex.new b5) rfl)
    exact ⟨_, rfl, k c ws _ _ (s02.trans cl) w6 upd_same (hws.mono (by omega))⟩
end
end LL
namespace LL
open PySem PySem.Spec PyProof.Rows L2 He Evl
/-! ### what the machine and the Reader say is the same -/
theorem wrong_good {xs : List (Str × Int)} {ds : List PyData} {ws : List Str} (h : PaG xs ds ws) : wrongO (gW xs ws) = none := by
  unfold wrongO
  rcases h.eat with h | h
  · rw [h]; exact if_pos (.inl rfl)
  · rw [h]; exact if_pos (.inr rfl)
theorem wrong_bad {W : List Str} {i : Nat} (h : BadAt [.head] ⟨[], 10⟩ W i) : wrongO W = some i := by
  unfold wrongO
  rcases h [] with h | ⟨h1, x, st, h2, h3⟩
  · have h : eat [.head] ⟨[], 10⟩ W = .stop i := h
    rw [h]
  · have h2 : eat [.head] ⟨[], 10⟩ W = .out (x :: st) := h2
    rw [h2, h1]
    refine if_neg fun z => ?_
    rcases z with z | z <;> (cases z; exact h3)
theorem PaB.wok {ns : List Str} (hN : ∀ x ∈ ns, IsName x) {r b m b1 m1 : Nat} {ds : List PyData} {ws : List Str} (h : PaB ns r b m b1 m1 ds ws) : ∀ x ∈ ws, WOk x := by
  induction h with
  | nil => exact fun _ h => nomatch h
  | pay hs he h ih =>
    intro x hx
    simp only [List.mem_append, List.mem_cons, List.not_mem_nil, or_false] at hx hs
    rcases hx with (rfl | hx) | hx
    · exact wok_c _ (by rcases hs with rfl | rfl <;> simp)
    · exact he.wok hN x hx
    · exact ih x hx
  | show_ hs he h ih =>
    intro x hx
    simp only [List.mem_append, List.mem_cons, List.not_mem_nil, or_false] at hx hs
    rcases hx with (rfl | rfl | hx) | hx
    · exact wok_c _ (by simp)
    · exact wok_c _ (by rcases hs with rfl | rfl <;> simp)
    · exact he.wok hN x hx
    · exact ih x hx
  | set_ hs he h ih =>
    intro x hx
    simp only [List.mem_append, List.mem_cons] at hx
    rcases hx with (rfl | rfl | hx) | hx
    · exact wok_c _ (by simp)
    · exact wok_name (hN _ hs)
    · exact he.wok hN x hx
    · exact ih x hx
  | draw hs h0 h1 hb h ih =>
    intro x hx
    simp only [List.mem_cons] at hx
    rcases hx with rfl | rfl | rfl | hx
    · exact wok_c _ (by simp)
    · exact wok_name (hN _ hs)
    · exact wok_num (by omega) (by omega)
    · exact ih x hx
  | move hc hs h0 h1 hb h ih =>
    intro x hx
    simp only [List.mem_cons, List.not_mem_nil, or_false] at hx hc
    rcases hx with rfl | rfl | rfl | hx
    · exact wok_c _ (by rcases hc with rfl | rfl <;> simp)
    · exact wok_name (hN _ hs)
    · exact wok_num (by omega) (by omega)
    · exact ih x hx
  | @ite _ _ _ _ _ _ _ _ _ _ we wt wo ws ts os ds he ht ho h iht iho ih =>
    intro x hx
    simp only [List.mem_append, List.mem_cons, List.not_mem_nil, or_false] at hx
    rcases hx with ((((rfl | hx) | hx) | hx) | rfl) | hx
    · exact wok_c _ (by simp)
    · exact he.wok hN x hx
    · exact iht x hx
    · unfold elseW at hx
      split at hx
      · exact absurd hx (by simp)
      · rcases List.mem_cons.mp hx with rfl | hx
        · exact wok_c _ (by simp)
        · exact iho x hx
    · exact wok_c _ (by simp)
    · exact ih x hx
theorem PaG.wok {xs : List (Str × Int)} {ds : List PyData} {ws : List Str} (h : PaG xs ds ws) : ∀ x ∈ gW xs ws, WOk x := by
  obtain ⟨b, m, ib⟩ := h.rows
  intro x hx
  rcases List.mem_append.mp hx with hx | hx
  · obtain ⟨y, hy, hx⟩ := List.mem_flatMap.mp hx
    obtain ⟨h1, h2, h3⟩ := h.ok y hy
    simp only [List.mem_cons, List.not_mem_nil, or_false] at hx
    rcases hx with rfl | rfl | rfl
    · exact wok_c _ (by simp)
    · exact wok_name h1
    · exact wok_num (by omega) h3
  · exact ib.wok h.names x hx
/-! ### the numbers of the moves -/
def ivals (a b : Nat) : List V := (List.range' a (b - a)).map fun i => V.int (i : Nat)
theorem ivals_nil {a : Nat} : ivals a a = [] := by unfold ivals; rw [Nat.sub_self]; rfl
theorem ivals_app {a b c : Nat} (h1 : a ≤ b) (h2 : b ≤ c) : ivals a b ++ ivals b c = ivals a c := by
  unfold ivals
  rw [← List.map_append]
  congr 1
  have h := @List.range'_append_1 a (b - a) (c - b)
  rw [show a + (b - a) = b by omega, show b - a + (c - b) = c - a by omega] at h
  exact h
theorem ivals_len {a b : Nat} : (ivals a b).length = b - a := by unfold ivals; rw [List.length_map, List.length_range']
theorem ivals_one {a : Nat} : ivals a (a + 1) = [V.int (a : Nat)] := by
  unfold ivals
  rw [show a + 1 - a = 1 by omega]
  rfl
section
variable {w : World} {K : PySem.W.Frag} {mg : Str → Option Value} {base : Heap}
def CM_ : List Str := ["choose", "come"]
theorem cm_if : ∀ s ∈ CM_, s ≠ "if" := by decide +kernel
theorem cm_no : ∀ s ∈ (["pay", "take", "show", "set", "draw", "if"] : List Str), s ∉ CM_ ∧ (s = "if" ∨ s ≠ "if") := by decide +kernel
theorem cm_no2 : ∀ s ∈ (["pay", "take", "show", "set", "draw"] : List Str), s ∉ CM_ ∧ s ≠ "if" := by decide +kernel
/-- a row's first word, and what counts its moves -/
theorem pa_row {ns : List Str} {r b m b2 m2 : Nat} {d : PyData} {ds : List PyData} {ws : List Str} (h : PaB ns r b m b2 m2 (d :: ds) ws) : ∃ (b1 m1 : Nat) (w2 : List Str), PaB ns r b1 m1 b2 m2 ds w2 ∧ m ≤ m1 ∧ ∀ (H : Hp) (v : V), Dp K H v d → ∃ (a : Addr) (us : List V) (s0 : Str), v = .ref a ∧ SqT K H a us ∧ us[0]? = some (.str s0) ∧
    ((s0 ∈ CM_ ∧ us[3]? = some (.int (m : Nat)) ∧ m1 = m + 1) ∨ (s0 ∉ CM_ ∧ s0 ≠ "if" ∧ m1 = m) ∨ (s0 ∉ CM_ ∧ s0 = "if" ∧ ∃ (r' bt mt : Nat) (ts os : List PyData) (wt wo : List Str) (vt vo : V), r = r' + 1 ∧ us[2]? = some vt ∧ us[3]? = some vo ∧ Dp K H vt (.tuple ts) ∧ Dp K H vo (.tuple os) ∧ PaB ns r' b m bt mt ts wt ∧ PaB ns r' bt mt b1 m1 os wo)) := by
  cases h with
  | pay hs he h =>
    refine ⟨_, _, _, h, Nat.le_refl _, fun H v hv => ?_⟩
    obtain ⟨ar, vr, rfl, sr, d0⟩ := dp_tup hv
    obtain ⟨_, rfl, d1⟩ := dpa_s d0
    have hpt : ∀ s ∈ (["pay", "take"] : List Str), s ∉ CM_ ∧ s ≠ "if" := by decide +kernel
    have hm := hpt _ hs
    exact ⟨ar, _, _, rfl, sr, rfl, .inr (.inl ⟨hm.1, hm.2, rfl⟩)⟩
  | show_ hs he h =>
    refine ⟨_, _, _, h, Nat.le_refl _, fun H v hv => ?_⟩
    obtain ⟨ar, vr, rfl, sr, d0⟩ := dp_tup hv
    obtain ⟨_, rfl, d1⟩ := dpa_s d0
    have hm := cm_no2 "show" (by simp)
    exact ⟨ar, _, _, rfl, sr, rfl, .inr (.inl ⟨hm.1, hm.2, rfl⟩)⟩
  | set_ hs he h =>
    refine ⟨_, _, _, h, Nat.le_refl _, fun H v hv => ?_⟩
    obtain ⟨ar, vr, rfl, sr, d0⟩ := dp_tup hv
    obtain ⟨_, rfl, d1⟩ := dpa_s d0
    have hm := cm_no2 "set" (by simp)
    exact ⟨ar, _, _, rfl, sr, rfl, .inr (.inl ⟨hm.1, hm.2, rfl⟩)⟩
  | draw hs h0 h1 hb h =>
    refine ⟨_, _, _, h, Nat.le_refl _, fun H v hv => ?_⟩
    obtain ⟨ar, vr, rfl, sr, d0⟩ := dp_tup hv
    obtain ⟨_, rfl, d1⟩ := dpa_s d0
    have hm := cm_no2 "draw" (by simp)
    exact ⟨ar, _, _, rfl, sr, rfl, .inr (.inl ⟨hm.1, hm.2, rfl⟩)⟩
  | move hc hs h0 h1 hb h =>
    refine ⟨_, _, _, h, Nat.le_succ _, fun H v hv => ?_⟩
    obtain ⟨ar, vr, rfl, sr, d0⟩ := dp_tup hv
    obtain ⟨_, rfl, d1⟩ := dpa_s d0
    obtain ⟨_, rfl, d2⟩ := dpa_s d1
    obtain ⟨_, rfl, d3⟩ := dpa_i d2
    obtain ⟨_, rfl, d4⟩ := dpa_i d3
    exact ⟨ar, _, _, rfl, sr, rfl, .inl ⟨hc, rfl, rfl⟩⟩
  | @ite r' _ _ bt mt b1 m1 _ _ e we wt wo w3 ts os _ he ht ho h =>
    refine ⟨_, _, _, h, Nat.le_trans ht.le.2.1 ho.le.2.1, fun H v hv => ?_⟩
    obtain ⟨ar, vr, rfl, sr, d0⟩ := dp_tup hv
    obtain ⟨_, rfl, d1⟩ := dpa_s d0
    obtain ⟨ve, _, rfl, hve, d2⟩ := dpa_c d1
    obtain ⟨vt, _, rfl, hvt, d3⟩ := dpa_c d2
    obtain ⟨vo, _, rfl, hvo, d4⟩ := dpa_c d3
    exact ⟨ar, _, _, rfl, sr, rfl, .inr (.inr ⟨(cm_no "if" (by simp)).1, rfl, r', bt, mt, ts, os, wt, wo, vt, vo, rfl, rfl, rfl, hvt, hvo, ht, ho⟩)⟩
theorem PaB.mb {ns : List Str} {r b m b1 m1 : Nat} {ds : List PyData} {ws : List Str} (h : PaB ns r b m b1 m1 ds ws) : m1 + b ≤ m + b1 := by
  induction h with
  | nil => omega
  | pay hs he h ih => exact ih
  | show_ hs he h ih => exact ih
  | set_ hs he h ih => exact ih
  | draw hs h0 h1 hb h ih => omega
  | move hc hs h0 h1 hb h ih => omega
  | ite he ht ho h iht iho ih => omega
def spMv (K : PySem.W.Frag) (r : Nat) : Sp := fun vs H Q _ => ∃ (x : V) (ns : List Str) (b m b2 m2 : Nat) (ds : List PyData) (ws : List Str), vs = [x] ∧ Dp K H x (.tuple ds) ∧ PaB ns r b m b2 m2 ds ws ∧ m2 ≤ 1000 ∧ ∀ (l : Addr) (H2 : Hp), Ex H H2 → H l = none → H2 l = some (.lst (ivals m m2)) → Q (.ref l) H2
def spMvP (K : PySem.W.Frag) : Nat → Sp
  | 0 => fun _ _ _ _ => False
  | r + 1 => spMv K r
theorem fn_mv1 (T : Txt K mg) (r : Nat) (IH : Fn P w K mg base r (ga K "_law_moves") (spMvP K r)) : Fn P w K mg base (r + 1) (ga K "_law_moves") (spMv K r) := by
  refine fn_def T.d_l_moves sc_l_moves (fun _ _ _ _ _ _ us hl => match us, hl with | [_], _ => rfl) (fun vs H Q E h => ?_) (fun cdv A outer s H vs Q E hr h => ?_)
  · obtain ⟨x, ns, b, m, b2, m2, ds, ws, rfl, _⟩ := h
    rfl
  obtain ⟨x, ns, b, m, b2, m2, ds, ws, rfl, hd, ib, hm2, k⟩ := h
  have nd := sc_l_moves.nd
  refine ⟨_, pss_cons (ps_set (i := 1) nd rfl (by first | exact Or.inl rfl | exact Or.inr rfl) (pe_lst pa_nil))
      (pss_cons (ps_for (passes_of rfl) rfl (pi_tup (pv 0)) (pg_name (i := 2) nd rfl (by first | exact Or.inl rfl | exact Or.inr rfl)) (Evl.pss_cut (ps_if (pt_cmpR op_in_seq (pe_ix ix_tup (pv 2) (pe_int) (fun _ _ => rfl)) (pe_tup (pa_cons (pe_str) (pa_cons (pe_str) pa_nil))) rfl) (pss_one (ps_expr (pe_bm PySem.F.plainAttrs_list PySem.F.slot_list_append PySem.F.type_list_append mt_append (pv 1) (pa_cons (pe_ix ix_tup (pv 2) (pe_int) (fun _ _ => rfl)) pa_nil)))) (pss_nil))
      (pss_one (ps_if (pt_cmpR op_eq (pe_ix ix_tup (pv 2) (pe_int) (fun _ _ => rfl)) (pe_str) (nomark _)) (pss_one (ps_set (i := 1) nd rfl (by first | exact Or.inl rfl | exact Or.inr rfl) (pe_op op_cat (pe_op op_cat (pv 1) (pe_fn T.d_l_moves IH hr T.g_l_moves pc (pa_cons (pe_ix ix_tup (pv 2) (pe_int) (fun _ _ => rfl)) pa_nil))) (pe_fn T.d_l_moves IH hr T.g_l_moves pc (pa_cons (pe_ix ix_tup (pv 2) (pe_int) (fun _ _ => rfl)) pa_nil))))) (pss_nil)))))
      (pss_one (ps_ret (pv 1)))), ?_⟩
  obtain ⟨a, vs, rfl, sx, dx⟩ := dp_tup hd
  have hbig : (100000 : Nat) ≤ sizeLine := by decide
  refine ⟨(by show 0 ≤ sizeLine; decide), fun l0 nl0 => ?_⟩
  refine ⟨_, rfl, a, rfl, ⟨vs, ex_t (Ex.new nl0) sx⟩, for_tup (xs := vs) (fun i σ H' => ∃ (l : Addr) (w2 : List Str) (b' m' : Nat) (v2 : Option V), Ex H H' ∧ H l = none ∧ H' l = some (.lst (ivals m m')) ∧ m ≤ m' ∧ PaB ns r b' m' b2 m2 (ds.drop i) w2 ∧ σ = [some (.ref a), some (.ref l), v2]) ?_ ?_ ?_ ?_⟩
  · exact ⟨l0, ws, b, m, none, Ex.new nl0, nl0, by rw [upd_same, ivals_nil], Nat.le_refl _, ib, rfl⟩
  · rintro i σ H' _ ⟨_, _, _, _, _, e, _⟩
    exact ex_t e sx
  · rintro i x σ H1 hx ⟨l, w1, b', m', v2, e1, nl, hl1, hmm, ib2, rfl⟩
    have hi : i < vs.length := (List.getElem?_eq_some_iff.mp hx).1
    obtain ⟨x', d, hx', hdd, hxd⟩ := dp_all_get dx hi
    rw [hx] at hx'
    cases hx'
    rw [drop_one hdd] at ib2
    obtain ⟨b1, m1, w2, ib3, hm1, hrow⟩ := pa_row (K := K) ib2
    obtain ⟨ar, us, s0, rfl, sr, h0, hcase⟩ := hrow H _ hxd
    have hle := ib3.le.2.1
    have e0 : ∀ {H' : Hp} {σ' : L2.St} (z : Str), Ex H H' → σ'[2]? = some (some (.ref ar)) → Ev (tOp (rIxT K) (tVar 2) (tC (.int 0))) σ' H' (.str s0) := fun z x hs => ev_op (ev_var hs) ev_c (rv_ixT (ex_t x sr) (atI_nat (j := 0) h0))
    have tIn : ∀ {H' : Hp} {σ' : L2.St}, Ex H H' → σ'[2]? = some (some (.ref ar)) → EvT (tTest (tOp (rIn K false) (tOp (rIxT K) (tVar 2) (tC (.int 0))) (tTup (tCons (tC (.str "choose")) (tCons (tC (.str "come")) tNil))))) σ' H' (decide (s0 ∈ CM_)) := fun x hs => et_test fun H1 e1 Q1 q1 => e0 "" x hs H1 e1 _ fun H2 e2 => ⟨(by show 2 ≤ sizeLine; decide), fun t nt => ⟨t, CM_.map V.str, rfl, .inr (SqT.of upd_same), rfl, flat_strs _, by show Q1 (V.bl (inV (.str s0) (CM_.map V.str))) _; rw [inV_strs]; exact q1 _ (e2.trans (Ex.new nt))⟩⟩
    have tIf : ∀ {H' : Hp} {σ' : L2.St}, Ex H H' → σ'[2]? = some (some (.ref ar)) → EvT (tTest (tOp rEq (tOp (rIxT K) (tVar 2) (tC (.int 0))) (tC (.str "if")))) σ' H' (decide (s0 = "if")) := fun x hs => et_eqS (e0 "" x hs)
    rcases hcase with ⟨hc, h3, rfl⟩ | ⟨hc, hni, rfl⟩ | ⟨hc, rfl, r', bt, mt, ts, os, wt, wo, vt, vo, rfl, hv2, hv3, hvt, hvo, ht, ho⟩
    · refine ⟨fun σ' H' => Ex H H' ∧ H' l = some (.lst (ivals m (m' + 1))) ∧ σ' = [some (.ref a), some (.ref l), some (.ref ar)], ?_, ?_⟩
      · refine s_when (tIn e1 rfl) (fun _ H2 x2 => ?_) fun c => absurd hc (of_decide_eq_false c)
        refine ⟨_, rfl, .inl ⟨rfl, _, SqL.of (x2 _ _ hl1)⟩, _, rfl, ar, _, _, _, rfl, rfl, ex_t (e1.trans x2) sr, atI_nat (j := 3) h3, l, _, _, rfl, rfl, x2 _ _ hl1, small1000 (by rw [ivals_len]; omega), ?_⟩
        refine ⟨Ex.mut (e1.trans x2) nl, ?_, rfl⟩
        rw [upd_same, ← ivals_app (a := m) (b := m') (c := m' + 1) hmm (by omega), ivals_one]
      · rintro σ' H2 ⟨e2, hl2, rfl⟩
        refine s_when (tIf e2 rfl) (fun c => absurd (of_decide_eq_true c) (cm_if _ hc)) fun _ H3 x3 => ?_
        exact ⟨l, w2, b1, m' + 1, _, e2.trans x3, nl, x3 _ _ hl2, by omega, ib3, rfl⟩
    · refine ⟨fun σ' H' => Ex H H' ∧ H' l = some (.lst (ivals m m1)) ∧ σ' = [some (.ref a), some (.ref l), some (.ref ar)], ?_, ?_⟩
      · exact s_when (tIn e1 rfl) (fun c => absurd (of_decide_eq_true c) hc) fun _ H2 x2 => ⟨e1.trans x2, x2 _ _ hl1, rfl⟩
      · rintro σ' H2 ⟨e2, hl2, rfl⟩
        refine s_when (tIf e2 rfl) (fun c => absurd (of_decide_eq_true c) hni) fun _ H3 x3 => ?_
        exact ⟨l, w2, b1, m1, _, e2.trans x3, nl, x3 _ _ hl2, by omega, ib3, rfl⟩
    · refine ⟨fun σ' H' => Ex H H' ∧ H' l = some (.lst (ivals m m')) ∧ σ' = [some (.ref a), some (.ref l), some (.ref ar)], ?_, ?_⟩
      · exact s_when (tIn e1 rfl) (fun c => absurd (of_decide_eq_true c) hc) fun _ H2 x2 => ⟨e1.trans x2, x2 _ _ hl1, rfl⟩
      · rintro σ' H2 ⟨e2, hl2, rfl⟩
        refine s_when (tIf e2 rfl) (fun _ H3 x3 => ?_) fun c => absurd rfl (of_decide_eq_false c)
        have e3 := e2.trans x3
        have hmt := ht.le.2.1
        have hmo := ho.le.2.1
        refine ⟨_, rfl, _, rfl, ar, _, _, _, rfl, rfl, ex_t e3 sr, atI_nat (j := 2) hv2, vt, ns, b', m', bt, mt, ts, wt, rfl, dp_mono e3 hvt, ht, by omega, fun l4 H4 x4 n4 h4 => ?_⟩
        have e4 := e3.trans x4
        refine ⟨l, l4, _, _, rfl, rfl, x4 _ _ (x3 _ _ hl2), h4, by rw [ivals_len, ivals_len]; omega, fun l5 nl5 => ?_⟩
        rw [ivals_app hmm hmt]
        have x5 := Ex.new (o := .lst (ivals m mt)) nl5
        have e5 := e4.trans x5
        refine ⟨_, rfl, ar, _, _, _, rfl, rfl, ex_t e5 sr, atI_nat (j := 3) hv3, vo, ns, bt, mt, b1, m1, os, wo, rfl, dp_mono e5 hvo, ho, by omega, fun l6 H6 x6 n6 h6 => ?_⟩
        refine ⟨l5, l6, _, _, rfl, rfl, x6 _ _ upd_same, h6, by rw [ivals_len, ivals_len]; omega, fun l7 nl7 => ?_⟩
        rw [ivals_app (by omega) hmo]
        have e7 := (e5.trans x6).trans (Ex.new (o := .lst (ivals m m1)) nl7)
        exact ⟨l7, w2, b1, m1, _, e7, ex_none (e5.trans x6) nl7, upd_same, by omega, ib3, rfl⟩
  · rintro σ H1 ⟨l, w1, b', m', v2, e1, nl, hl1, hmm, ib2, rfl⟩
    rw [dp_all_len dx, List.drop_length] at ib2
    cases ib2
    exact ⟨_, rfl, k l _ e1 nl hl1⟩
theorem fn_mv (T : Txt K mg) : ∀ r, Fn P w K mg base (r + 1) (ga K "_law_moves") (spMv K r)
  | 0 => fn_mv1 T 0 (fun _ _ _ _ _ _ _ _ _ _ _ h => h.elim)
  | r + 1 => fn_mv1 T (r + 1) (fn_mv T r)
theorem fn_l_moves (T : Txt K mg) : Fn P w K mg base 5 (ga K "_law_moves") (spMv K 4) := fn_mv T 4
end
end LL
namespace LL
open PySem PySem.Spec PyProof.Rows L2 He Evl
theorem gk_and {p : Addr} {B : Hp} {σ : L2.St} {t u : TT} {R1 R : Bool → Hp → Prop} (h1 : GK p (t σ) B R1) (hf : ∀ B1, Ex B B1 → R1 false B1 → R false B1) (h2 : ∀ B1, Ex B B1 → R1 true B1 → GK p (u σ) B1 R) : GK p (tAnd t u σ) B R := fun B1 H1 e w Q q => h1 B1 H1 e w _ fun b B2 H2 s2 w2 r => by
  cases b with
  | true =>
    show u σ H2 Q
    exact h2 B2 (e.trans s2.base) r B2 H2 (Ex.refl _) w2 Q fun v B3 H3 s3 w3 r3 => q v B3 H3 (s2.trans s3) w3 r3
  | false =>
    show Q false H2
    exact q false B2 H2 s2 w2 (hf B2 (e.trans s2.base) r)
theorem gk_addP {p : Addr} {B : Hp} {σ : L2.St} {ta tb : TE} {P1 P2 P : Str → Prop} (h1 : GK p (ta σ) B (fun v _ => ∃ x, v = .str x ∧ P1 x)) (h2 : GK p (tb σ) B (fun v _ => ∃ x, v = .str x ∧ P2 x)) (hz : ∀ x y, P1 x → P2 y → x.length + y.length ≤ 16000000 ∧ P (x ++ y)) : GK p (tOp rAddS ta tb σ) B (fun v _ => ∃ x, v = .str x ∧ P x) :=
  gk_op h1 fun x B1 e1 ⟨a, ea, ha⟩ => (h2.mono e1).imp fun y B2 e2 ⟨b, eb, hb⟩ => by
    subst ea
    subst eb
    exact gk_rv (z := .str (a ++ b)) (fun H1 _ Q q => ⟨a, b, rfl, rfl, Nat.le_trans (hz a b ha hb).1 (by decide : 16000000 ≤ sizeLine), q H1 (Ex.refl _)⟩) fun _ _ => ⟨_, rfl, (hz a b ha hb).2⟩
theorem joinL_cons {S a : List Nat} {L : List (List Nat)} (h : L ≠ []) : TL.joinL S (a :: L) = a ++ (S ++ TL.joinL S L) := by
  cases L with
  | nil => exact absurd rfl h
  | cons b r => rfl
/-- two texts of words stuck together -/
theorem joinL_glue {S g x y : List Nat} {C : List (List Nat)} : ∀ (A : List (List Nat)), TL.joinL S (A ++ (x ++ g ++ y) :: C) = TL.joinL S (A ++ [x]) ++ g ++ TL.joinL S (y :: C)
  | [] => by
    cases C with
    | nil => rfl
    | cons c r =>
      show (x ++ g ++ y) ++ (S ++ TL.joinL S (c :: r)) = x ++ g ++ (y ++ (S ++ TL.joinL S (c :: r)))
      simp
  | a :: A => by
    rw [List.cons_append, List.cons_append, joinL_cons (by simp), joinL_cons (by simp), joinL_glue A]
    simp
theorem S_app (x y : List Nat) : SX.S x ++ SX.S y = SX.S (x ++ y) := TL.ext_tl (by
  show (SX.S x ++ SX.S y).cps.toList = (SX.S (x ++ y)).cps.toList
  rw [cat_tl])
theorem txt_glue {A C : List Str} {x y g : Str} : txt (A ++ [x]) ++ g ++ txt (y :: C) = txt (A ++ (x ++ g ++ y) :: C) := by
  rw [txt_S, txt_S, txt_S]
  conv => lhs; arg 1; arg 2; rw [← SX.S_tl g]
  rw [S_app, S_app]
  congr 1
  rw [List.map_append, List.map_append, List.map_cons, List.map_cons, List.map_cons, List.map_nil, cat_tl, cat_tl, joinL_glue]
theorem given_iv : ∀ n : Nat, given n (fun _ => true) (fun i => V.int (i : Nat)) = ivals 0 n
  | 0 => rfl
  | n + 1 => by
    rw [given_yes rfl, given_iv n, ← ivals_app (a := 0) (b := n) (c := n + 1) (by omega) (by omega), ivals_one]
def ivD (n : Nat) : PyData := .list ((List.range' 0 n).map fun i => PyData.int (i : Nat))
theorem iv_dp {K : PySem.W.Frag} {H : Hp} {l : Addr} {n : Nat} (h : H l = some (.lst (ivals 0 n))) : Dp K H (.ref l) (ivD n) := by
  refine .lst (SqL.of h) ?_
  unfold ivals
  rw [Nat.sub_zero]
  generalize List.range' 0 n = L
  induction L with
  | nil => exact .nil
  | cons a L ih => exact .cons (.int _) ih
theorem iv_ok : ∀ n : Fin 11, SeqAt.shaped (ivD n.val) = true ∧ PyData.eqv (ivD n.val) (ivD n.val) = true := by decide +kernel
end LL
/-! defs called within an except suite that raise nothing; isinstance of a caught error that has a dict of its own -/
namespace LL
open PySem PySem.Spec PyProof.Rows L2 He Evl
/-- what a def promises wherever it is called: nothing leaves it but its value -/
def FnRC (P : Program) (w : World) (K : PySem.W.Frag) (mg : Str → Option Value) (base : Heap) (k : Nat) (f : Addr) (sp : Sp) : Prop :=
  ∀ (A : Around) (outer : List Env) (s : Shared) (H : Hp) (us : List Value) (vs : List V) (Q : VK) (E : XK), L2H.RoomH k A → Env0 P w K mg base A outer s H → Vals vs us → sp vs H Q E →
    codeAny (model P w) A (.call (.ref f) ⟨us, []⟩) (CR CX0 outer P w H s Q E) s
def cxC (P : Program) (w : World) (K : PySem.W.Frag) (mg : Str → Option Value) (base : Heap) (N : List Str) (qual : Str) (scope : Scope) (f : Addr) (cd : Value) (A : Around) (outer : List Env) (s : Shared) (H : Hp) (E : XK) : Cx :=
  { cxOf CX0 P w K mg base N qual scope f cd A outer s H E with calm := false }
theorem inv_startC {P : Program} {w : World} {K : PySem.W.Frag} {mg : Str → Option Value} {base : Heap} {N ps : List Str} {qual : Str} {scope : Scope} {f : Addr} {cd : Value} {A : Around} {outer : List Env} {s s1 : Shared} {H : Hp} {E : XK} {us : List Value} {vs : List V}
    (S : FnScope N ps scope) (e0 : Env0 P w K mg base A outer s H) (hl : vs.length = ps.length) (r : Vals vs us)
    (x : InCallC s s.heap.objs.size (bindL (envOfC qual scope s.heap.objs.size f cd).kindOf (ps.zip us) fun _ => none) (cellsFrom (s.heap.objs.size + 1) scope.names []) (bindC (envOfC qual scope s.heap.objs.size f cd).kindOf (ps.zip us) fun _ => none) s1) :
    Inv (cxC P w K mg base N qual scope f cd A outer s H E) [] (L2.start N vs) H s1 := by
  have hpl : ps.length ≤ N.length := by have := congrArg List.length S.pre; rw [List.length_take] at this; omega
  obtain ⟨h1, tk, rfl, hk⟩ := x.done
  have noA : ∀ b : Addr, b ∉ (cxC P w K mg base N qual scope f cd A outer s H E).ex := fun b z => absurd (show b ∈ ([] : List Addr) from z) (by simp)
  refine ⟨⟨e0.mod, S.kind, rfl, rfl, Nat.le_refl _, fun y z c h1 h2 => ?_, fun y hy => ?_, fun y c _ h => ?_, (fun z => Bool.noConfusion (show false = true from z)), Around.frames_deeper e0.frames, .inr ⟨rfl, rfl⟩, fun b z => absurd z (noA b), e0.bs, e0.bsz, fun b _ _ => noA b, fun b z => absurd z (noA b), e0.funs, e0.frf⟩,
    rfl, e0.bare, Un.kept hk, ⟨_, x.toInCall.ns, fun i y v h1 h2 h3 => ?_⟩, fun y c h => ⟨_, x.cell y c h⟩, e0.hok.fresh (Nat.le_refl _), fun y c h => ?_, fun q hq => ?_, e0.hok.kept hk, ?_⟩
  · exact name_of_addr x.apart (PySem.mem_of_lookup h1) (PySem.mem_of_lookup h2)
  · have hy : scope.names.lookup y = some .cell ∨ scope.names.lookup y = some .free := hy
    rcases hy with hy | hy
    · exact cell_has hy
    · exact absurd rfl (S.nofree _ (PySem.mem_of_lookup hy))
  · exact Nat.le_of_lt (x.above y c (PySem.mem_of_lookup h))
  · have hi : i < vs.length := by
      unfold L2.start at h2
      by_cases hi : i < vs.length
      · exact hi
      · rw [List.getElem?_append_right (by simpa using hi)] at h2
        rw [List.getElem?_replicate] at h2
        split at h2 <;> cases h2
    have ha : vs[i]? = some v := by
      unfold L2.start at h2
      rw [List.getElem?_append_left (by simpa using hi), List.getElem?_map] at h2
      cases e : vs[i]? with
      | none => rw [e] at h2; cases h2
      | some a => rw [e] at h2; cases h2; rfl
    obtain ⟨u, hu, rv⟩ := r.get ha
    have hp : ps[i]? = some y := by
      rw [← S.pre, List.getElem?_take_of_lt (by omega)]; exact h1
    have ndP : ps.Nodup := by rw [← S.pre]; exact S.nd.sublist (List.take_sublist _ _)
    refine ⟨u, rv, ?_⟩
    rcases S.par y (List.mem_of_getElem? hp) with k | k
    · exact .inl ⟨k, bindL_get ndP hp hu k⟩
    · obtain ⟨c, e⟩ := cell_has (n := s.heap.objs.size + 1) k
      refine .inr ⟨.inl k, c, e, ?_⟩
      have q := x.cell y c e
      rw [bindC_get ndP hp hu (by show scope.names.lookup y ≠ _; rw [k]; decide)] at q
      exact q
  · exact e0.hok.fresh (Nat.le_of_lt (x.above y c (PySem.mem_of_lookup h)))
  · exact absurd (show q ∈ ([] ++ [] : List (Addr × Obj)) from hq) (by simp)
  · unfold L2.start
    show _ = N.length
    rw [List.length_append, List.length_map, List.length_replicate]
    omega
theorem fn_defC {P : Program} {w : World} {K : PySem.W.Frag} {mg : Str → Option Value} {base : Heap} {x qual : Str} {st : Stmt} {f : Addr} {N ps : List Str} {k : Nat} {sp : Sp} (D : ∃ fd, FunD K x qual (defArgs st) (defBody st) (defScope st) [] [] f fd) (S : FnScope N ps (defScope st))
    (hb : ∀ (kV doc pm : Value) (an : Option Addr) (cdv ct : Value) (us : List Value), us.length = ps.length → bindArgs (PySem.W.fnOf x qual (defArgs st) (defBody st) (defScope st) .none kV doc pm an cdv ct) ⟨us, []⟩ = pure (ps.zip us))
    (len : ∀ vs H Q E, sp vs H Q E → vs.length = ps.length)
    (hbody : ∀ (cdv : Value) (A : Around) (outer : List Env) (s : Shared) (H : Hp) (vs : List V) (Q : VK) (E : XK), L2H.RoomH k (A.deeper (envOfC qual (defScope st) s.heap.objs.size f cdv)) → sp vs H Q E →
      ∃ t, PSs (cxC P w K mg base N qual (defScope st) f cdv A outer s H E) (defBody st) t ∧ t { nx := fun _ H' => Q .non H', rt := Q } (start N vs) H) : FnRC P w K mg base (k + 1) f sp := by
  obtain ⟨fd, F⟩ := D
  have bn := F.bindsN hb
  obtain ⟨oc, od, dV, kV, doc, pm, an, cdv, ct, osl, rfl, lk, hcd, _, _⟩ := F.ex
  intro A outer s H us vs Q E hr e0 r hsp
  have hl := len _ _ _ _ hsp
  have KX : K.In s.heap := e0.mod.kin.keeps fun b o e => (e0.bs b o e).1
  have lim : s.heap.NoLimit := e0.mod.nolimit.keeps fun b o e => (e0.bs b o e).1
  have hkind : ∀ y ∈ ps.zip us, (defScope st).names.lookup y.1 = some .local ∨ ((defScope st).names.lookup y.1 = some .cell ∧ ((cellsFrom (s.heap.objs.size + 1) (defScope st).names []).lookup y.1).isSome = true) := fun ⟨n, v⟩ hy => by
    rcases S.par n (List.of_mem_zip hy).1 with q | q
    · exact .inl q
    · exact .inr ⟨q, PySem.W.cellsFrom_some _ _ _ (.inl q)⟩
  have hb2 := bn s us KX (by rw [List.append_nil, ← r.length, hl])
  rw [List.append_nil] at hb2
  refine codeAny_call_function hr.depth (KX _ _ lk) rfl S.co S.gen rfl (PySem.W.codeRec_of KX hcd) (hb2 _ _ _ _ ?_)
  refine wpAny_newFunctionEnv_cells S.kind hkind fun env he s1 x => ?_
  subst he
  refine ⟨lim.keeps x.toInCall.keep, codeAny_func ?_⟩
  obtain ⟨t, ht, hq⟩ := hbody cdv A outer s H vs Q E (hr.deeper _) hsp
  have I : Inv (cxC P w K mg base N qual (defScope st) f cdv A outer s H E) [] (L2.start N vs) H s1 := inv_startC S e0 hl r x
  refine wpAny_mono (ht.run [] s1 (L2.start N vs) H _ I hq) (fun fl s' hs => ?_) fun e s' hs => hs
  have fin : ∀ {σ' : L2.St} {H' : Hp} {v : V} {u : Value}, Inv (cxC P w K mg base N qual (defScope st) f cdv A outer s H E) [] σ' H' s' → RelV v u → Q v H' → CE outer P w H s Q u s' :=
    fun {σ' H' v u} J rv q => ⟨v, H', J.os, J.bare, J.base, J.hok, rv, q⟩
  cases fl with
  | ret u =>
    obtain ⟨v, σ', H', J, rv, q⟩ := hs
    exact fin J rv q
  | next =>
    obtain ⟨σ', H', J, q⟩ := hs
    exact fin (v := V.non) (u := Value.none) J rfl q
  | brk =>
    obtain ⟨_, _, _, q⟩ := hs
    exact False.elim q
  | cont =>
    obtain ⟨_, _, _, q⟩ := hs
    exact False.elim q
theorem pe_fnC {X : Cx} {k : Nat} {f : Addr} {sp : Sp} {x x' qual : Str} {st : Stmt} {dvs : List V} {e : Expr} {es : List Expr} {t : TA} {p pos : Pos} (D : ∃ fd, FunD X.K x' qual (defArgs st) (defBody st) (defScope st) dvs [] f fd)
    (F : FnRC X.prog X.w X.K X.mg X.base k f sp) (hr : L2H.RoomH k X.A) (hm : X.mg x = some (.ref f)) (ha : PA X (e :: es) t) (hg : Gl X x := by rfl) (hdb : (x == ("__debug__" : Str)) = false := by decide)
    (he : starEach (e :: es) X.env = (false, eval e X.env) :: starEach es X.env := by rfl) (hpl : (backTo pos (starEach es X.env)).any (·.1) = false := by rfl) :
    L2.PE X (.Call (.Name x p) (e :: es) [] pos) (fun σ H Q => t σ H fun vs H1 => sp vs H1 Q fun _ _ _ => False) := by
  refine ⟨fun pins s σ H Q I h => ?_⟩
  refine wpAny_Call_Name_kw (ld_glob I hg hm ?_ hdb)
  refine PySem.W.callWith_K (h₀ := X.base) I.ok.mod.kin (kp_of D) (thn (ha.run pos pins s σ H _ I h) fun us s1 ⟨vs, H1, I1, r, q⟩ => ⟨I1.kIn, ?_⟩) he hpl
  refine wpAny_call (codeAny_mono (F X.A X.stack s1 H1 us vs Q _ hr I1.env0 r q) fun r s' hq => ?_)
  cases r with
  | error e => exact False.elim hq
  | ok fl =>
    cases fl with
    | ret u => exact I1.after hq
    | next => exact False.elim hq
    | brk => exact False.elim hq
    | cont => exact False.elim hq
/-- a call in a try's body -/
theorem pe_fnS {X : Cx} {CX : CXT} {k : Nat} {f : Addr} {sp : Sp} {E : L2.St → XK} {x x' qual : Str} {st : Stmt} {dvs : List V} {e : Expr} {es : List Expr} {t : TA} {p pos : Pos} (D : ∃ fd, FunD X.K x' qual (defArgs st) (defBody st) (defScope st) dvs [] f fd)
    (F : FnR X.prog X.w X.K X.mg X.base CX k f sp) (hr : Room k X.A) (hm : X.mg x = some (.ref f)) (hx : ∀ σ, PassesAt CX X σ (E σ)) (ha : PA X (e :: es) t) (hg : Gl X x := by rfl) (hdb : (x == ("__debug__" : Str)) = false := by decide)
    (he : starEach (e :: es) X.env = (false, eval e X.env) :: starEach es X.env := by rfl) (hpl : (backTo pos (starEach es X.env)).any (·.1) = false := by rfl) :
    L2.PE X (.Call (.Name x p) (e :: es) [] pos) (fun σ H Q => t σ H fun vs H1 => sp vs H1 Q (E σ)) := by
  refine ⟨fun pins s σ H Q I h => ?_⟩
  refine wpAny_Call_Name_kw (ld_glob I hg hm ?_ hdb)
  refine PySem.W.callWith_K (h₀ := X.base) I.ok.mod.kin (kp_of D) (thn (ha.run pos pins s σ H _ I h) fun us s1 ⟨vs, H1, I1, r, q⟩ => ⟨I1.kIn, ?_⟩) he hpl
  exact wpAny_call (run_fnRS F hr (hx σ) I1 r q)
/-! ### isinstance of an error with a dict -/
def rIsEd (K : PySem.W.Frag) (D a dd : Addr) : List V → Hp → VK → Prop := fun xs H Q => ∃ (c : V) (cv : Value) (b : Bool) (fs : List (Str × V)), xs = [.ref a, c] ∧ H dd = some (.xd fs) ∧ (∀ u, RelV c u → u = cv) ∧ PySem.W.kitOne K (.ref D) cv = some b ∧ Q (.bl b) H
def rIsEdT (K : PySem.W.Frag) (D a dd : Addr) : List V → Hp → VK → Prop := fun xs H Q => ∃ (tp : Addr) (cs : List V) (us : List Value) (b : Bool) (fs : List (Str × V)), xs = [.ref a, .ref tp] ∧ H dd = some (.xd fs) ∧ H tp = some (.tup cs) ∧ Paired ClsV cs us ∧ PySem.W.kitAny K (.ref D) us = some b ∧ Q (.bl b) H
theorem exc_inst {X : Cx} {pins : List (Addr × Obj)} {σ : L2.St} {H : Hp} {s : Shared} {a D dd : Addr} {oe : Obj} {pn : List (Addr × Obj)} {fs : List (Str × V)} (I : Inv (X.suite a ((a, oe) :: pn)) pins σ H s) (hz : Zc (.ref D) (some dd) oe) (hf : ∃ vs, oe.data = .fields vs) (ea : H dd = some (.xd fs)) :
    ∃ od, PySem.W.InstAt s.heap a oe D (some od) := by
  obtain ⟨ha, _⟩ := I.pin (a, oe) (List.mem_append_left _ List.mem_cons_self)
  obtain ⟨vs, hd⟩ := hf
  have hx : ObjOk X.prog X.w H s.heap dd (.xd fs) := I.hok dd _ ea
  obtain ⟨mA, hns, hr⟩ := hx
  obtain ⟨od, ho, hl⟩ := lookIn_ns hns
  exact ⟨od, ha, hz.1, by unfold PySem.W.notCls; rw [hd] <;> rfl, by rw [hz.2]; exact ho⟩
theorem cls_some {K : PySem.W.Frag} {D : Addr} (h : PySem.W.hasDictIn K D = true) : (PySem.W.clsIn K D).isSome = true := by
  obtain ⟨cd, hc, _⟩ := PySem.W.any_some h
  rw [hc]
  rfl
theorem call_isEd {X : Cx} {a D dd : Addr} {oe : Obj} {pn : List (Addr × Obj)} (C : ExcC X.K D) (hz : Zc (.ref D) (some dd) oe) (hf : ∃ vs, oe.data = .fields vs) : CallR (X.suite a ((a, oe) :: pn)) (.builtin "isinstance") (rIsEd X.K D a dd) := by
  intro pins s σ H xs us Q I r h
  obtain ⟨c, cv, b, fs, rfl, hdd, hcv, e, q⟩ := h
  obtain ⟨u1, u2, rfl, r1, r2⟩ := vals2 r
  cases (show u1 = Value.ref a from r1)
  have ec := hcv _ r2
  subst ec
  obtain ⟨od, J⟩ := exc_inst I hz hf hdd
  exact PySem.W.kia_one (PySem.W.kitx_exc (cls_some C.hd) C.hg C.hk C.hs C.ha C.hn C.ht C.hm) I.kIn J e (fun z => nomatch z) fun tk => ⟨.bl b, H, I.kept (t' := tk) fun _ _ z => z, rfl, q⟩
theorem call_isEdT {X : Cx} {a D dd : Addr} {oe : Obj} {pn : List (Addr × Obj)} (C : ExcC X.K D) (hz : Zc (.ref D) (some dd) oe) (hf : ∃ vs, oe.data = .fields vs) : CallR (X.suite a ((a, oe) :: pn)) (.builtin "isinstance") (rIsEdT X.K D a dd) := by
  intro pins s σ H xs us Q I r h
  obtain ⟨tp, cs, ws, b, fs, rfl, hdd, hT, k, e, q⟩ := h
  obtain ⟨u1, u2, rfl, r1, r2⟩ := vals2 r
  cases (show u1 = Value.ref a from r1)
  cases (show u2 = Value.ref tp from r2)
  obtain ⟨_, its, rv, o, h1, h2, n, h3⟩ := (show ObjOk X.prog X.w H s.heap tp (.tup cs) from I.hok tp _ hT)
  have e3 := ClsV.all k rv
  subst e3
  obtain ⟨oc, od', dt, sl⟩ := o
  simp only at h2 h3
  subst h2 h3
  obtain ⟨od, J⟩ := exc_inst I hz hf hdd
  exact PySem.W.kia_tup (PySem.W.kitx_exc (cls_some C.hd) C.hg C.hk C.hs C.ha C.hn C.ht C.hm) I.kIn J h1 e (fun z => nomatch z) fun tk => ⟨.bl b, H, I.kept (t' := tk) fun _ _ z => z, rfl, q⟩
theorem callk_isEd (K : PySem.W.Frag) {X : Cx} {a D dd : Addr} {oe : Obj} {pn : List (Addr × Obj)} (C : ExcC K D) (hz : Zc (.ref D) (some dd) oe) (hf : ∃ vs, oe.data = .fields vs) (h : X.K = K := by rfl) : CallR (X.suite a ((a, oe) :: pn)) (.builtin "isinstance") (rIsEd K D a dd) := by subst h; exact call_isEd C hz hf
theorem callk_isEdT (K : PySem.W.Frag) {X : Cx} {a D dd : Addr} {oe : Obj} {pn : List (Addr × Obj)} (C : ExcC K D) (hz : Zc (.ref D) (some dd) oe) (hf : ∃ vs, oe.data = .fields vs) (h : X.K = K := by rfl) : CallR (X.suite a ((a, oe) :: pn)) (.builtin "isinstance") (rIsEdT K D a dd) := by subst h; exact call_isEdT C hz hf
theorem pek_xf (K : PySem.W.Frag) {X : Cx} {a C : Addr} {oe : Obj} {cls : Value} {d : Option Addr} {pn : List (Addr × Obj)} {e : Expr} {te : TE} {pos : Pos} {n : Str} (T : XfC K C) (hno : PySem.W.findIn K (.ref C) n = some none)
    (hz : Zc cls d oe) (hf : ∃ vs, oe.data = .fields vs) (he : L2.PE (X.suite a ((a, oe) :: pn)) e te) (hb : attributeBase e n X.env (eval e X.env) = eval e X.env := by rfl) (h : X.K = K := by rfl) :
    L2.PE (X.suite a ((a, oe) :: pn)) (.Attribute e n pos) (tXf a cls d C n te) := by subst h; exact pe_xf T hno hz hf he hb
theorem callk_list_of (K : PySem.W.Frag) {X : Cx} (h : X.K = K := by rfl) : CallR X (.type "list") (fun xs H Q => ∃ p ys, xs = [.ref p] ∧ (SqL K H p ys ∨ SqT K H p ys) ∧ ∀ l, H l = none → Q (.ref l) (upd H l (.lst ys))) := by subst h; exact call_list_of
end LL
namespace LL
open PySem PySem.Spec PyProof.Rows L2 He Evl
section
variable {P : Program} {w : World} {K : PySem.W.Frag} {mg : Str → Option Value} {base : Heap}
/-- _law_same of two ints, wherever it is called -/
def spSameI : Sp := fun us H Q _ => ∃ m n : Int, us = [.int m, .int n] ∧ ∀ H2, Ex H H2 → Q (.bl (decide (m = n))) H2
theorem fn_l_sameC (T : Txt K mg) : FnRC P w K mg base 1 (ga K "_law_same") spSameI := by
  refine fn_defC T.d_l_same sc_l_same (fun _ _ _ _ _ _ us hl => match us, hl with | [_, _], _ => rfl) (fun vs H Q E h => ?_) (fun cdv A outer s H vs Q E hr h => ?_)
  · obtain ⟨_, _, rfl, _⟩ := h
    rfl
  obtain ⟨m, n_, rfl, k⟩ := h
  have nd := sc_l_same.nd
  refine ⟨_, pss_cons (ps_if (PW.pt (pw_or (pt_val (pe_callB call_isi (by rfl) T.f_isinstance (by decide +kernel) (pa_cons (pv 1) (pa_cons (pe_bltn (v := .ty "tuple") rfl T.f_tuple (by decide +kernel) rfl) pa_nil)))) (pw_or1 (pt_val (pe_callB call_isi (by rfl) T.f_isinstance (by decide +kernel) (pa_cons (pv 1) (pa_cons (pe_bltn (v := .ty "list") rfl T.f_list (by decide +kernel) rfl) pa_nil))))))) (pss_given (p := False) (t := tNext) (fun h => h.elim)) (pss_nil))
      (pss_cons (ps_if (PW.pt (pw_or (pt_cmpR op_isN (pv 1) (pe_non) (nomark _)) (pw_or1 (pt_val (pe_callB call_isi (by rfl) T.f_isinstance (by decide +kernel) (pa_cons (pv 1) (pa_cons (pe_bltn (v := .ty "bool") rfl T.f_bool (by decide +kernel) rfl) pa_nil))))))) (pss_one (ps_ret (pe_and (pe_cmpR op_eq (pe_cmpR op_isN (pv 0) (pe_non) (nomark _)) (pe_cmpR op_isN (pv 1) (pe_non) (nomark _)) (nomark _)) (pe_and (pe_or (pe_cmpR op_isN (pv 1) (pe_non) (nomark _)) (pe_one (pe_callB call_isi (by rfl) T.f_isinstance (by decide +kernel) (pa_cons (pv 0) (pa_cons (pe_bltn (v := .ty "bool") rfl T.f_bool (by decide +kernel) rfl) pa_nil))))) (pe_one (pe_cmpR op_eq (pv 0) (pv 1) (nomark _))))))) (pss_nil))
      (pss_cons (ps_if (pt_val (pe_callB call_isi (by rfl) T.f_isinstance (by decide +kernel) (pa_cons (pv 1) (pa_cons (pe_bltn (v := .ty "int") rfl T.f_int (by decide +kernel) rfl) pa_nil)))) (pss_one (ps_ret (pe_and (pe_callB call_isi (by rfl) T.f_isinstance (by decide +kernel) (pa_cons (pv 0) (pa_cons (pe_bltn (v := .ty "int") rfl T.f_int (by decide +kernel) rfl) pa_nil))) (pe_and (pe_not (pe_callB call_isi (by rfl) T.f_isinstance (by decide +kernel) (pa_cons (pv 0) (pa_cons (pe_bltn (v := .ty "bool") rfl T.f_bool (by decide +kernel) rfl) pa_nil)))) (pe_one (pe_cmpR op_eq (pv 0) (pv 1) (nomark _))))))) (pss_nil))
      (pss_one (ps_ret (pe_and (pe_callB call_isi (by rfl) T.f_isinstance (by decide +kernel) (pa_cons (pv 0) (pa_cons (pe_bltn (v := .ty "str") rfl T.f_str (by decide +kernel) rfl) pa_nil))) (pe_one (pe_cmpR op_eq (pv 0) (pv 1) (nomark _)))))))), ?_⟩
  have isi : ∀ (i : Nat) (j : Int) (b : Bool) {H' : Hp} {n : String}, ([some (V.int m), some (.int n_)])[i]? = some (some (.int j)) → PySem.W.kitOne K (.type (tyN (.int j))) (.type n) = some b → Ev (tCB (rIsi K) (tCons (tVar i) (tCons (tC (.ty n)) tNil))) [some (V.int m), some (.int n_)] H' (.bl b) := fun _ _ _ _ _ hs hk => ev_isi (ev_var hs) (.int _) hk
  refine q_when (b := false) (et_or (a := false) (et_B (isi 1 n_ false rfl (kit_tup (.int n_)))) fun _ => et_B (isi 1 n_ false rfl (kit_lst (.int n_)))) (fun c => nomatch c) (fun _ H1 e1 => ?_)
  refine q_when (b := false) (et_or (a := false) (et_test (ev_isN (K := K) (ev_var rfl) (.int n_))) fun _ => et_B (isi 1 n_ false rfl (kit_boo (.int n_)))) (fun c => nomatch c) (fun _ H2 e2 => ?_)
  refine q_when (b := true) (et_B (isi 1 n_ true rfl (kit_int (.int n_)))) (fun _ H3 e3 => ?_) (fun c => nomatch c)
  refine s_ret (v := .bl (decide (m = n_))) (ev_is (ev_andV (a := true) (isi 0 m true rfl (kit_int (.int m))) fun _ => ev_andV (a := true) (ev_notV (a := false) (isi 0 m false rfl (kit_boo (.int m)))) fun _ => ev_is (ev_op (ev_var rfl) (ev_var rfl) (rv_eq rfl)) (congrArg V.bl (decide_eq_decide.mpr ⟨fun h => V.int.inj h, fun h => by rw [h]⟩))) (by rw [Bool.true_and, Bool.true_and])) fun H4 e4 => k H4 (e1.trans (e2.trans (e3.trans e4)))
end
end LL
namespace LL
open PySem PySem.Spec PyProof.Rows L2 He Evl
section
variable {w : World} {K : PySem.W.Frag} {mg : Str → Option Value} {base : Heap}
def spLaw (K : PySem.W.Frag) : Sp := fun us H Q _ => ∃ (a : Addr) (ns : List Int), us = [.ref a] ∧ SqL K H a (ns.map V.int) ∧ ns.length ≤ 63 ∧ ∀ H2, Q (.bl true) H2
theorem PWs.wg {k : Nat} {zs : List Str} (h : PWs k zs) : ∀ x ∈ zs, WG x := fun x hx => ⟨Nat.le_trans (h.2 x hx).l (by decide), (h.2 x hx).s⟩
theorem ok_law (T : Txt K mg) {fd : FuncData} (F : FunD K "law" "law" (defArgs s_law) (defBody s_law) (defScope s_law) (List.map (He.Dv.v K) []) [] (ga K "law") fd) : FnOk P w K mg base (L2.CX P w) 42 (ga K "law") fd ["_law_script"] (spLaw K) := by
  refine F.ok sc_law (fun vs H Q E h => ?_) (fun cdv A outer s H vs Q E hr h => ?_)
  · obtain ⟨_, _, rfl, _⟩ := h
    rfl
  obtain ⟨a, ns, rfl, ha, hl, k⟩ := h
  have nd := sc_law.nd
  refine ⟨_, pss_cons (ps_set (i := 1) nd rfl (by first | exact Or.inl rfl | exact Or.inr rfl) (pe_fn T.d_l_pool (fn_l_pool T) (hr.mono (by decide)) T.g_l_pool pc (pa_cons (pv 0) (pa_cons (pe_int) pa_nil))))
      (Evl.pss_cut (ps_if (pt_cmpR op_eq (pe_fn T.d_l_draw (fn_l_draw T) (hr.mono (by decide)) T.g_l_draw pc (pa_cons (pv 1) (pa_cons (pe_int) pa_nil))) (pe_int) (nomark _)) (pss_one (ps_set (i := 2) nd rfl (by first | exact Or.inl rfl | exact Or.inr rfl) (pe_fn T.d_l_walked (fn_l_walked T) (hr.mono (by decide)) T.g_l_walked pc (pa_cons (pv 1) pa_nil)))) (pss_one (ps_set (i := 2) nd rfl (by first | exact Or.inl rfl | exact Or.inr rfl) (pe_fn T.d_l_changed (fn_l_changed T) (hr.mono (by decide)) T.g_l_changed pc (pa_cons (pv 1) (pa_cons (pe_fn T.d_l_words (fn_l_words T) (hr.mono (by decide)) T.g_l_words pc (pa_cons (pe_fn T.d_l_game (fn_l_game T) (hr.mono (by decide)) T.g_l_game pc (pa_cons (pv 1) (pa_cons (pe_int) (pa_cons (pe_int) pa_nil)))) pa_nil)) pa_nil))))))
      (Evl.pss_cut (ps_if (PW.pt (pw_and (pt_cmpR op_eq (pe_callB call_len_seq (by rfl) T.f_len PySem.boot_len (pa_cons (pv 2) pa_nil)) (pe_int) (nomark _)) (pw_and1 (pt_cmpR op_eq (pe_ix ix_list (pv 2) (pe_int) (fun _ _ => rfl)) (pe_str) (nomark _))))) (pss_one (ps_set (i := 2) nd rfl (by first | exact Or.inl rfl | exact Or.inr rfl) (pe_lst pa_nil))) (pss_nil))
      (pss_cons (ps_set (i := 3) nd rfl (by first | exact Or.inl rfl | exact Or.inr rfl) (pe_join (pe_str) (pv 2)))
      (Evl.pss_cut (ps_if (PW.pt (pw_and (pt_cmpR op_eq (pe_fn T.d_l_draw (fn_l_draw T) (hr.mono (by decide)) T.g_l_draw pc (pa_cons (pv 1) (pa_cons (pe_int) pa_nil))) (pe_int) (nomark _)) (pw_and1 (pt_cmpR op_gt (pe_callB call_len_seq (by rfl) T.f_len PySem.boot_len (pa_cons (pv 2) pa_nil)) (pe_int) (nomark _))))) (pss_cons (ps_set (i := 4) nd rfl (by first | exact Or.inl rfl | exact Or.inr rfl) (pe_op op_add (pe_int) (pe_fn T.d_l_draw (fn_l_draw T) (hr.mono (by decide)) T.g_l_draw pc (pa_cons (pv 1) (pa_cons (pe_op op_sub (pe_callB call_len_seq (by rfl) T.f_len PySem.boot_len (pa_cons (pv 2) pa_nil)) (pe_int)) pa_nil)))))
      (pss_cons (ps_set (i := 3) nd rfl (by first | exact Or.inl rfl | exact Or.inr rfl) (pe_op op_add_str (pe_op op_add_str (pe_join (pe_str) (pe_slice sl_list (pv 2) po_none (po_some (pv 4)))) (pe_ix ix_str (pe_str) (pe_fn T.d_l_draw (fn_l_draw T) (hr.mono (by decide)) T.g_l_draw pc (pa_cons (pv 1) (pa_cons (pe_int) pa_nil))) (fun _ _ => rfl))) (pe_join (pe_str) (pe_slice sl_list (pv 2) (po_some (pv 4)) po_none))))
      (pss_one (ps_set (i := 2) nd rfl (by first | exact Or.inl rfl | exact Or.inr rfl) (pe_split (pv 3) (pe_str)))))) (pss_nil))
      (pss_cons (ps_set (i := 5) nd rfl (by first | exact Or.inl rfl | exact Or.inr rfl) (pe_fn T.d_l_wrong (fn_l_wrong T) (hr.mono (by decide)) T.g_l_wrong pc (pa_cons (pv 2) pa_nil)))
      (pss_cons (ps_try_as (i := 7) (Wout := fun cls d _ H => E cls d H) rfl rfl nd rfl rfl ⟨rfl, by decide, Or.inl T.g_LossError⟩ (takes_of rfl rfl rfl rfl) (fun Wt pn xe tk _ => pss_one (ps_set (i := 6) nd rfl (by first | exact Or.inl rfl | exact Or.inr rfl) (pe_fnS T.d_read_game (fn_read_game (w := w) (base := base) T) (hr.mono (by decide)) T.g_read_game (fun σ => passAt tk σ) (pa_cons (pv 3) pa_nil)))) (fun a oe cls d pn hz hf => pss_given (p := cls = .ref (ga K "BadText") ∧ d = some (d.getD 0)) (fun hp => have hz2 : Zc (.ref (ga K "BadText")) (some (d.getD 0)) oe := by rw [← hp.2, ← hp.1]; exact hz
        pss_cons (ps_if (PW.pt (pw_or (pt_not (pt_val (pe_callB (callk_isEd K T.xc_BadText hz2 hf) (by rfl) T.f_isinstance (by decide +kernel) (pa_cons (pv 7) (pa_cons (pe_gr T.g_BadText) pa_nil))))) (pw_or1 (pt_val (pe_callB (callk_isEdT K T.xc_BadText hz2 hf) (by rfl) T.f_isinstance (by decide +kernel) (pa_cons (pv 7) (pa_cons (pe_tup (pa_cons (pe_gr T.g_BadPaper) (pa_cons (pe_gr T.g_BadPlan) (pa_cons (pe_gr T.g_BadRatio) (pa_cons (pe_gr T.g_NoPlan) (pa_cons (pe_gr T.g_NoShare) (pa_cons (pe_gr T.g_TooLarge) pa_nil))))))) pa_nil))))))) (pss_one (ps_ret (pe_bl))) (pss_nil))
      (pss_one (ps_ret (pe_and (pe_cmpR op_notN (pv 5) (pe_non) (nomark _)) (pe_one (pe_fnC T.d_l_same (fn_l_sameC T) (L2H.roomH_mark (hr.mono (by decide)) _) T.g_l_same (pa_cons (pek_xf K T.xf_BadText T.xn_BadText hz2 hf (pv 7)) (pa_cons (pv 5) pa_nil))))))))))
      (pss_cons (ps_set (i := 8) nd rfl (by first | exact Or.inl rfl | exact Or.inr rfl) (pe_fn T.d_l_moves (fn_l_moves T) (hr.mono (by decide)) T.g_l_moves pc (pa_cons (pe_fld (pv 6) rfl) pa_nil)))
      (pss_one (ps_ret (pe_and (pe_cmpR op_isN (pv 5) (pe_non) (nomark _)) (pe_and (pe_fn T.d_l_same (fn_l_same T 40) (hr.mono (by decide)) T.g_l_same pc (pa_cons (pe_fn T.d_game_text (fn_game_text T) (hr.mono (by decide)) T.g_game_text pc (pa_cons (pv 6) pa_nil)) (pa_cons (pe_join (pe_str) (pv 2)) pa_nil))) (pe_one (pe_cmpR (op_eqD hr.units) (pv 8) (pe_lc (own := [("_law_k", 9)]) (g := gName 9) (tt := tYes) rfl nd (pi_range1 rfl T.f_range (pa_cons (pe_callB call_len_seq (by rfl) T.f_len PySem.boot_len (pa_cons (pv 8) pa_nil)) pa_nil)) (blkOk_by (N := n_law) (sc := defScope s_law) (by decide +kernel)) (fun _ _ _ _ _ => pg_name (i := 9) nd rfl (by first | exact Or.inl rfl | exact Or.inr rfl)) (fun _ _ _ _ _ => pts_nil) (fun _ _ _ _ _ => pv 9)) (nomark _)))))))))))))), ?_⟩
  have hbig : (16000000 : Nat) ≤ sizeLine := by decide
  refine ⟨_, rfl, a, ns, 0, rfl, ha, hl, fun p H1 P1 s1 np _ hP1 _ => ?_⟩
  obtain ⟨B1, e1, hb1, hP1⟩ := base_pool hP1
  have w1 : Wd p B1 H1 := ⟨e1, hb1, hP1⟩
  dsimp only [gName]
  have sE : ∀ v1 : V, (L2.start n_law [V.ref a]).set 1 (some v1) = [some (.ref a), some v1, none, none, none, none, none, none, none, none] := fun _ => rfl
  rw [sE]
  -- the words
  refine ⟨fun σ H' => ∃ (B' : Hp) (c : Addr) (zs : List Str), Wd p B' H' ∧ B' c = some (.lst (zs.map V.str)) ∧ PWs 500012 zs ∧ σ = [some (.ref a), some (.ref p), some (.ref c), none, none, none, none, none, none, none], ?_, ?_⟩
  · refine gs_if w1 (gk_eqT ((gk_draw rfl ev_c (by decide) (by decide)).imp fun v _ _ ⟨r, h, _⟩ => ⟨r, h⟩)) (fun B2 H2 s2 w2 _ => ?_) (fun B2 H2 s2 w2 _ => ?_)
    · exact ⟨_, rfl, p, B2, rfl, w2, fun c zs B3 H3 s3 w3 hc hz => ⟨B3, c, zs, w3, hc, hz.mono (by decide), rfl⟩⟩
    · refine ⟨_, rfl, _, rfl, B2, p, rfl, w2.e, w2.b, w2.P, fun v B3 H3 xs ds ws s3 P3 hv hg => ?_⟩
      have w3 := w2.stp s3 P3
      refine ⟨v, xs, ds, ws, rfl, dp_mono w3.e hv, hg, fun l H4 x4 nl hl4 => ?_⟩
      obtain ⟨s4, w4⟩ := w3.adopt x4 nl hl4
      have hlen := hg.len
      exact ⟨p, _, l, gW xs ws, rfl, w4, upd_same, ⟨by omega, fun x hx => ⟨Nat.le_trans (hg.wok x hx).2.1 (by decide), (hg.wok x hx).2.2.1⟩⟩, fun c zs B5 H5 s5 w5 hc hz => ⟨B5, c, zs, w5, hc, hz, rfl⟩⟩
  rintro σ H2 ⟨B2, c, zs, w2, hc, hz, rfl⟩
  -- no words
  refine ⟨fun σ H' => ∃ (B' : Hp) (c : Addr) (zs : List Str), Wd p B' H' ∧ B' c = some (.lst (zs.map V.str)) ∧ PWs 500012 zs ∧ zs ≠ [("" : Str)] ∧ σ = [some (.ref a), some (.ref p), some (.ref c), none, none, none, none, none, none, none], ?_, ?_⟩
  · have hcl : ∀ {H' : Hp}, Ex H2 H' → SqL K H' c (zs.map V.str) := fun x => sq_of (x _ _ (w2.e _ _ hc))
    refine s_when (b := decide (zs = [("" : Str)])) ?_ (fun _ H3 x3 => ?_) fun cz H3 x3 => ?_
    · by_cases h1 : zs.length = 1
      · obtain ⟨z, rfl⟩ : ∃ z, zs = [z] := by
          match zs, h1 with
          | [z], _ => exact ⟨z, rfl⟩
        refine et_is (et_and (a := true) (et_test (ev_is (ev_op (ev_len (K := K) (ev_var rfl) (hcl (Ex.refl _))) ev_c (rv_eq rfl)) rfl)) fun _ => et_eqS (z := "") (ev_op (ev_var rfl) ev_c (rv_ixL (hcl (Ex.refl _)) (atI_nat (j := 0) rfl)))) ?_
        rw [Bool.true_and]
        exact decide_eq_decide.mpr ⟨fun h => by rw [h], fun h => (List.cons.inj h).1⟩
      · refine et_is (et_and (a := false) (b := false) (et_test (ev_is (ev_op (ev_len (K := K) (ev_var rfl) (hcl (Ex.refl _))) ev_c (rv_eq rfl)) (congrArg V.bl (decide_eq_false fun h => h1 (by have := V.int.inj h; rw [List.length_map] at this; omega))))) fun h => Bool.noConfusion h) ?_
        rw [Bool.false_and]
        exact (decide_eq_false fun h => h1 (by rw [h]; rfl)).symm
    · obtain ⟨s3, w3⟩ := w2.ex x3
      refine ⟨(by show 0 ≤ sizeLine; decide), fun l nl => ?_⟩
      obtain ⟨s4, w4⟩ := w3.new (o := .lst []) nl
      exact ⟨_, l, [], w4, upd_same, ⟨Nat.zero_le _, fun _ h => nomatch h⟩, nofun, rfl⟩
    · obtain ⟨s3, w3⟩ := w2.ex x3
      exact ⟨B2, c, zs, w3, hc, hz, of_decide_eq_false cz, rfl⟩
  rintro σ H3 ⟨B3, c, zs, w3, hc, hz, hz1, rfl⟩
  -- the text
  have hzl := hz.1
  refine ⟨⟨_, rfl⟩, _, rfl, " ", c, zs, rfl, rfl, .inl (sq_of (w3.e _ _ hc)), joinG hz.wg (by omega), ?_⟩
  dsimp only [gName]
  rw [show Txt.join " " zs = txt zs from rfl]
  refine ⟨fun σ H' => ∃ (B' : Hp) (c : Addr) (zs : List Str) (v4 : Option V), Wd p B' H' ∧ B' c = some (.lst (zs.map V.str)) ∧ (∀ x ∈ zs, WG x) ∧ zs.length ≤ 500012 ∧ zs ≠ [("" : Str)] ∧ σ = [some (.ref a), some (.ref p), some (.ref c), some (.str (txt zs)), v4, none, none, none, none, none], ?_, ?_⟩
  · refine gs_when (R := fun b _ => b = true → 1 < zs.length) w3 (gk_and (R1 := fun _ _ => True) (gk_eqT ((gk_draw rfl ev_c (by decide) (by decide)).imp fun v _ _ ⟨r, h, _⟩ => ⟨r, h⟩)) (fun _ _ _ h => Bool.noConfusion h) fun B4 e4 _ => gk_tv (b := decide (1 < zs.length)) (et_test (ev_is (ev_op (ev_len (ev_var rfl) (sq_of (e4 _ _ hc))) ev_c rv_I0) (congrArg V.bl (decide_eq_decide.mpr (by rw [List.length_map]; omega))))) fun _ _ h => of_decide_eq_true h) (fun B4 H4 s4 w4 hlt => ?_) (fun B4 H4 s4 w4 _ => ?_)
    rotate_left
    · exact ⟨B4, c, zs, _, w4, s4.base _ _ hc, hz.wg, by omega, hz1, rfl⟩
    have hlt := hlt rfl
    have hc4 := s4.base _ _ hc
    refine gq_asg (R := fun v _ => ∃ r : Int, v = .int (1 + r) ∧ 0 ≤ r ∧ r < (zs.length : Nat) - 1) w4 (gk_addI (gk_draw rfl (ev_op (ev_is (ev_len (ev_var rfl) (sq_of hc4)) (by rw [List.length_map])) ev_c rv_I0) (by omega) (by omega))) fun v B5 H5 s5 w5 ⟨r, hv, r0, r1⟩ => ?_
    subst hv
    obtain ⟨pl, hpl⟩ : ∃ pl : Nat, 1 + r = (pl : Nat) := ⟨(1 + r).toNat, by omega⟩
    rw [hpl]
    have hp1 : 1 ≤ pl := by omega
    have hp2 : pl < zs.length := by omega
    have hc5 := s5.base _ _ hc4
    dsimp only [List.set]
    obtain ⟨x, y, A, C, ez, et, ed⟩ : ∃ (x y : Str) (A C : List Str), zs = A ++ x :: y :: C ∧ zs.take pl = A ++ [x] ∧ zs.drop pl = y :: C := by
      refine ⟨zs[pl - 1], zs[pl], zs.take (pl - 1), zs.drop (pl + 1), ?_, ?_, List.drop_eq_getElem_cons hp2⟩
      · rw [← List.drop_eq_getElem_cons hp2]
        have h1 : zs.drop (pl - 1) = zs[pl - 1] :: zs.drop pl := by
          have h := List.drop_eq_getElem_cons (l := zs) (i := pl - 1) (by omega)
          rw [show pl - 1 + 1 = pl by omega] at h
          exact h
        rw [← h1, List.take_append_drop]
      · have h := List.take_append_getElem (l := zs) (i := pl - 1) (by omega)
        rw [show pl - 1 + 1 = pl by omega] at h
        exact h.symm
    have hm : ∀ z ∈ zs, FineS 10 z := hz.2
    have hl1 : (A ++ [x]).length ≤ 500012 := by rw [← et, List.length_take]; omega
    have hl2 : (y :: C).length ≤ 500012 := by rw [← ed, List.length_drop]; omega
    have hf1 : ∀ z ∈ A ++ [x], FineS 10 z := fun z h => hm z (by rw [← et] at h; exact List.mem_of_mem_take h)
    have hf2 : ∀ z ∈ y :: C, FineS 10 z := fun z h => hm z (by rw [← ed] at h; exact List.mem_of_mem_drop h)
    have hsum : ∀ ys : List Str, ys.length ≤ 500012 → (∀ z ∈ ys, FineS 10 z) → (ys.map (·.length)).sum + ys.length * (" " : Str).length ≤ 16777216 ∧ (txt ys).length ≤ 5600000 := fun ys h1 h2 => by
      have h3 := sum_fine h2
      have h4 := join_len " " ys
      have e : (" " : Str).length = 1 := rfl
      rw [e] at h4 ⊢
      exact ⟨by omega, Nat.le_trans h4 (by omega)⟩
    have joinK : ∀ {te : TE} {σ' : L2.St} {B' : Hp} {ys : List Str}, ys.length ≤ 500012 → (∀ z ∈ ys, FineS 10 z) → GK p (te σ') B' (RLP (· = ys)) → GK p (tM1 (rJoin K) (tC (.str " ")) te σ') B' (fun v _ => ∃ z, v = .str z ∧ (z = txt ys ∧ z.length ≤ 5600000)) := fun {te σ' B' ys} h1 h2 h => (gk_joinP h (fun ys' e => by rw [e]; exact (hsum ys h1 h2).1)).imp fun v _ _ ⟨ys', hv, e⟩ => by
      subst e
      exact ⟨_, hv, rfl, (hsum ys' h1 h2).2⟩
    refine gq_asg (R := fun v _ => ∃ z, v = .str z ∧ ∃ c : Nat, c ≠ 32 ∧ z = txt (A ++ [x]) ++ ⟨#[c]⟩ ++ txt (y :: C)) w5 ?_ fun v B6 H6 s6 w6 ⟨z, hv, g, hg, ezz⟩ => ?_
    · refine gk_addP (P1 := fun z => ∃ c : Nat, c ≠ 32 ∧ z = txt (A ++ [x]) ++ ⟨#[c]⟩ ∧ z.length ≤ 5600001) (P2 := fun z => z = txt (y :: C) ∧ z.length ≤ 5600000) (gk_addP (P1 := fun z => z = txt (A ++ [x]) ∧ z.length ≤ 5600000) (P2 := fun z => ∃ c : Nat, c ≠ 32 ∧ z = ⟨#[c]⟩) (joinK hl1 hf1 (by rw [← et]; exact gk_slB (ev_var rfl) hc5 (ev_var rfl))) ?_ ?_) (joinK hl2 hf2 (by rw [← ed]; exact gk_slA (ev_var rfl) hc5 (ev_var rfl))) ?_
      · refine gk_op (gk_val ev_c) fun x B7 e7 ex => ((gk_draw (n := 2) rfl ev_c (by decide) (by decide)).imp fun u B8 e8 ⟨r, eu, r0, r1⟩ => ?_)
        subst ex
        subst eu
        obtain ⟨k, rfl⟩ : ∃ k : Nat, r = k := ⟨r.toNat, by omega⟩
        have hnt : ("\n\t" : Str).cps.toList = [10, 9] := by decide +kernel
        obtain ⟨c, hc1, hc2⟩ : ∃ c, ("\n\t" : Str).cps.toList[k]? = some c ∧ c ≠ 32 := by
          rw [hnt]
          rcases (show k = 0 ∨ k = 1 by omega) with rfl | rfl
          · exact ⟨10, rfl, by decide⟩
          · exact ⟨9, rfl, by decide⟩
        exact gk_rv (z := .str ⟨#[c]⟩) (fun H1 _ Q q => ⟨_, _, c, rfl, rfl, (by decide +kernel), atI_nat hc1, q H1 (Ex.refl _)⟩) fun _ _ => ⟨_, rfl, c, hc2, rfl⟩
      · rintro u v ⟨rfl, hu⟩ ⟨c, hc1, rfl⟩
        have e1 : (⟨#[c]⟩ : Str).length = 1 := rfl
        refine ⟨by omega, c, hc1, rfl, ?_⟩
        rw [str_len, cat_tl, List.length_append, ← str_len, ← str_len]
        omega
      · rintro u v ⟨c, hc1, rfl, hu⟩ ⟨rfl, hv⟩
        exact ⟨by omega, c, hc1, rfl⟩
    subst hv
    subst ezz
    rw [txt_glue]
    have hx := hf1 x (by simp)
    have hy := hf2 y (by simp)
    have hWG : ∀ z ∈ A ++ (x ++ ⟨#[g]⟩ ++ y) :: C, WG z := fun z h => by
      rcases List.mem_append.mp h with h | h
      · have := hf1 z (List.mem_append_left _ h)
        exact ⟨Nat.le_trans this.l (by decide), this.s⟩
      rcases List.mem_cons.mp h with rfl | h
      · have := (hx.cat (FineS.ch hg)).cat hy
        exact ⟨Nat.le_trans this.l (by decide), this.s⟩
      · have := hf2 z (.tail _ h)
        exact ⟨Nat.le_trans this.l (by decide), this.s⟩
    have hlen : (A ++ (x ++ ⟨#[g]⟩ ++ y) :: C).length ≤ 500012 := by
      have : zs.length = (A ++ x :: y :: C).length := by rw [← ez]
      rw [List.length_append, List.length_cons, List.length_cons] at this
      rw [List.length_append, List.length_cons]
      omega
    have hne : (A ++ (x ++ ⟨#[g]⟩ ++ y) :: C) ≠ [("" : Str)] := fun z => by
      cases A with
      | nil =>
        have h := (List.cons.inj z).1
        have h2 : (x ++ ⟨#[g]⟩ ++ y).cps.toList.length = 0 := by rw [h]; rfl
        rw [cat_tl, cat_tl, List.length_append, List.length_append] at h2
        simp at h2
      | cons a A =>
        have h := congrArg List.length z
        simp at h
    have htl := txtG_len hWG (by omega)
    refine ⟨_, rfl, ⟨_, rfl⟩, txt (A ++ (x ++ ⟨#[g]⟩ ++ y) :: C), " ", rfl, rfl, rfl, by omega, fun l nl => ?_⟩
    rw [txtG_split (by simp) hWG]
    obtain ⟨s7, w7⟩ := w6.new (o := .lst ((A ++ (x ++ ⟨#[g]⟩ ++ y) :: C).map V.str)) nl
    exact ⟨_, l, _, _, w7, upd_same, hWG, hlen, hne, rfl⟩
  clear hz hz1 hzl hc
  rintro σ H4 ⟨B4, c, zs, v4, w4, hc, hWG, hlen, hne, rfl⟩
  have hc4 := w4.e _ _ hc
  -- what is wrong
  refine ⟨_, rfl, c, zs, rfl, sq_of hc4, by omega, fun x hx => Nat.le_trans (hWG x hx).l (by decide), fun H5 x5 => ?_⟩
  dsimp only [gName]
  have hc5 := x5 _ _ hc4
  -- read
  refine ⟨_, rfl, H5, zs, rfl, Ex.refl _, hWG, by omega, hne, fun g B6 H6 xs ds ws hW hg s6 hga => ?_, fun i hbad d H6 hd => ?_⟩
  · have hwr : wrongO zs = none := by rw [hW]; exact wrong_good hg
    subst hW
    rw [hwr]
    obtain ⟨ag, dxg, v1, v2, rfl, hga1, hv1, hv2⟩ := id hga
    obtain ⟨b, m, ib⟩ := id hg.rows
    have hm : m ≤ 10 := by
      have h1 := ib.mb
      have h2 := ib.le.2.2.1 (Nat.zero_le _)
      omega
    have e6 : Ex H5 H6 := s6.base.trans s6.in_
    dsimp only [gName, List.set]
    refine ⟨_, rfl, ag, _, dxg, _, _, rfl, s6.in_ _ _ hga1, T.c_Game, T.a_Game_block, rfl, v2, xs.map Prod.fst, 0, 0, b, m, ds, ws, rfl, dp_mono s6.in_ hv2, ib, by omega, fun l H7 x7 n7 h7 => ?_⟩
    dsimp only [gName, List.set]
    have hiv := iv_ok ⟨m, by omega⟩
    refine s_ret (v := .bl true) (ev_is (ev_andV (a := true) (b := true) (fun H8 e8 Q8 q8 => ⟨_, rfl, rfl, q8 H8 (Ex.refl _)⟩) fun _ => ev_is (ev_andV (a := true) (b := true) (fun H8 e8 Q8 q8 => ?_) fun _ => fun H8 e8 Q8 q8 => ?_) rfl) rfl) fun H8 _ => k H8
    · refine ⟨_, rfl, .ref ag, xs, ds, ws, rfl, hga.mono (s6.in_.trans (x7.trans e8)), hg, hWG, by omega, fun H9 x9 => ?_⟩
      have hc9 := (e6.trans (x7.trans (e8.trans x9))) _ _ hc5
      refine ⟨⟨_, rfl⟩, _, rfl, " ", c, gW xs ws, rfl, rfl, .inl (sq_of hc9), joinG hWG (by omega), .str (txt (gW xs ws)), .str (txt (gW xs ws)), .str (txt (gW xs ws)), .str (txt (gW xs ws)), rfl, .str _, .str _, trivial, fun H10 x10 => ?_⟩
      rw [same_t rfl]
      exact q8 H10 (x9.trans x10)
    · have hl8 := e8 _ _ h7
      refine ⟨_, rfl, el_lcR1 (σ := [some (V.ref a), some (.ref p), some (.ref c), some (.str (txt (gW xs ws))), v4, some .non, some (.ref ag), none, some (.ref l), none]) (f := fun _ => true) (v := fun i => V.int (i : Nat)) (n := (m : Nat)) (ea_cons (ev_is (ev_len (ev_var rfl) (sq_of hl8)) (by rw [ivals_len]; rfl)) ea_nil) ⟨by omega, by omega⟩ (fun _ => rfl) (fun i H1 _ _ H2 e2 Q q => q H2 (Ex.refl _)) (fun i H1 _ _ _ => ev_var rfl) H8 (Ex.refl _) _ fun D H9 nD x9 hD => ?_⟩
      rw [Int.toNat_natCast, given_iv] at hD
      refine ⟨ivD m, ivD m, iv_dp (x9 _ _ hl8), iv_dp hD, hiv.1, hiv.1, ?_⟩
      rw [hiv.2]
      exact q8 H9 x9
  · have hwr : wrongO zs = some i := wrong_bad hbad
    rw [hwr]
    have e6 : True := trivial
    refine ⟨true, T.em_BadText_LossError, fun _ a' na => ⟨⟨rfl, rfl⟩, ?_⟩, fun h => Bool.noConfusion h⟩
    refine q_when (b := false) (et_or (a := false) (b := false) (et_not (a := true) (et_B fun H9 x9 Q9 q9 => ⟨_, rfl, _, _, _, _, rfl, x9 _ _ hd, (fun u r => r), T.ki_BadText_BadText, q9 H9 (Ex.refl _)⟩)) fun _ => et_B ?_) (fun c => Bool.noConfusion c) (fun _ H9 x9 => ?_)
    · intro H9 x9 Q9 q9
      refine ⟨_, rfl, by show 6 ≤ sizeLine; decide, fun t nt => ?_⟩
      have x10 := Ex.new (o := .tup [.ref (ga K "BadPaper"), .ref (ga K "BadPlan"), .ref (ga K "BadRatio"), .ref (ga K "NoPlan"), .ref (ga K "NoShare"), .ref (ga K "TooLarge")]) nt
      refine ⟨t, _, _, false, _, rfl, x10 _ _ (x9 _ _ hd), upd_same, .cons (.own _) (.cons (.own _) (.cons (.own _) (.cons (.own _) (.cons (.own _) (.cons (.own _) .nil))))), ?_, q9 _ x10⟩
      simp only [PySem.W.kitAny, T.ki_BadText_BadPaper, T.ki_BadText_BadPlan, T.ki_BadText_BadRatio, T.ki_BadText_NoPlan, T.ki_BadText_NoShare, T.ki_BadText_TooLarge]
    · refine s_ret (v := .bl true) (ev_is (ev_andV (a := true) (b := true) (fun H1 e Q q => ⟨_, rfl, rfl, q H1 (Ex.refl _)⟩) fun _ => fun H1 e1 Q1 q1 => ?_) rfl) fun H10 x10 => k H10
      refine ⟨_, rfl, rfl, rfl, d, _, .int (i : Nat), rfl, e1 _ _ (x9 _ _ hd), rfl, _, rfl, (i : Nat), (i : Nat), rfl, fun H2 e2 => ?_⟩
      rw [decide_eq_true rfl]
      exact q1 H2 e2
end
end LL
namespace LL
open PySem PySem.Spec PyProof.Rows L2 He Evl
/-- the end of a law whose defs may let errors out -/
theorem walk_ofX {l : PySem.W.OpenLaw} {n k : Nat} {q : Program} {loose : List Str} {XP : (Str → Option Value) → Heap → Prop} {YP : World → Heap → Prop} {d : DefRec} {CX : World → CXT} {x : Str}
    (hn : l.most = some n) (hn2 : n ≤ sizeLine) (hdf : d.params.defaults = []) (hr : Room k callerA)
    (F : ∀ (w : World) (mg : Str → Option Value) (fa : Addr) (h : Heap), YP w h → h.Ns mainGlobals mg → mg d.name = some (.ref fa) →
      ∃ (K : PySem.W.Frag) (fd : FuncData) (sp : Sp), K.In h ∧ (∀ (s : Shared) (u : Value), BindsTo s fd ⟨[u], []⟩ [(x, u)]) ∧
        (∀ (H : Hp) (a : Addr) (ns : List Int), ns.length ≤ n → Only H → SqL K H a (ns.map V.int) → sp [.ref a] H (fun v _ => v = .bl true) fun _ _ _ => False) ∧
        ∀ base : Heap, K.In base → base.Ns mainGlobals mg → FnOk l.prog w K mg base (CX w) k fa fd [x] sp)
    (hCX : ∀ (w : World) (H : Hp) (s : Shared) (e : Value) (s' : Shared), CX w [] H s (fun _ _ _ => False) e s' → False) :
    PySem.W.WalkO q loose XP YP l.row.toRowW d [] (fun f vs => PySem.call f vs) := by
  refine Att.attach_call hn hdf fun w s₀ s₁ mg mb fa o pm cd doc a vs ns G Y ho hd hcd hmg hobj hints hlen hg => ?_
  obtain ⟨K, fd, sp, KX, hb, hsp, hF⟩ := F w mg fa _ Y G.T.g hmg
  exact law_call KX G.T.g G.T.b G.T.builtins G.T.nolimit hg hobj hints (Nat.le_trans hlen hn2) hr hF hb (fun H hO hS => hsp H a ns hlen hO hS) fun H e s' => hCX w H s₁ e s'
theorem cx_end {P : Program} {w : World} {H : Hp} {s : Shared} {e : Value} {s' : Shared} (h : L2.CX P w [] H s (fun _ _ _ => False) e s') : False := by
  obtain ⟨a, B, H', cls, d, _, _, _, _, _, _, _, q⟩ := h
  exact q
theorem law_facts {w : World} {K : PySem.W.Frag} {h : Heap} {mg : Str → Option Value} {f : Addr} (X : K.In h) (G : h.Ns mainGlobals mg) (hfa : mg ("law" : Str) = some (.ref f)) (T : Txt K mg) :
    ∃ fd : FuncData, (∀ (s : Shared) (v : Value), BindsTo s fd ⟨[v], []⟩ [("_law_script", v)]) ∧ ∀ base : Heap, K.In base → base.Ns mainGlobals mg → FnOk P w K mg base (L2.CX P w) 42 f fd ["_law_script"] (spLaw K) := by
  obtain ⟨fd, F⟩ := T.d_law
  have e := hfa.symm.trans T.g_law
  cases e
  have b := FunD.bindsA (ps := ["_law_script"]) F fun _ _ _ _ _ _ us hl => match us, hl with | [_], _ => rfl
  exact ⟨fd, fun s v => b s [v] rfl, fun base _ _ => ok_law T F⟩
end LL
open PySem PySem.W PySem.Calls PyProof.Rows
set_option maxRecDepth 100000 in
set_option maxHeartbeats 0 in
theorem PySem.Challenge.cw_lostleast_k04_whole_texts_are_read_exact_holds : PySem.Challenge.rw_lostleast_k04_whole_texts_are_read_exact.Holds := by
  w_on; o_law
  refine HandSHeadRun.head_any (r := LL.R) (q := view LL.R.prog [LL.lawAt]) (H := LL.hk) (ob := LL.ob) (M := 60000) (loose := LL.names) (d := HandSHeadRun.topDef LL.R.prog LL.lawAt) (kwd := []) LL.ob_eq
    (by kernel_rfl) (fun s => by kernel_rfl) LL.run (by kernel_rfl) (by kernel_rfl) (by kernel_rfl) (by rfl) (by first | assumption | decide +kernel) (by decide +kernel) ⟨rfl, rfl, rfl, rfl, rfl, by decide +kernel⟩ ?hw ?hc
  case hw => w_witness2
  case hc =>
    refine LL.walk_ofX (l := PySem.Challenge.rw_lostleast_k04_whole_texts_are_read_exact) (n := 63) (k := 42) (x := "_law_script") (CX := fun w => L2.CX (PySem.Challenge.rw_lostleast_k04_whole_texts_are_read_exact).prog w) rfl (by decide) (by kernel_rfl) ⟨rfl, by decide, by decide⟩ ?F (fun _ _ _ _ _ z => LL.cx_end z)
    intro w mg fa h Y G hmg0
    obtain ⟨K, KX, c, z⟩ := Y
    have hmg : mg ("law" : PySem.Str) = some (.ref fa) := by
      have e : (HandSHeadRun.topDef LL.R.prog LL.lawAt).name = ("law" : PySem.Str) := by kernel_rfl
      rw [← e]
      exact hmg0
    obtain ⟨fd, hb, hF⟩ := LL.law_facts (w := w) KX G hmg (LL.txt_of KX G c z)
    exact ⟨K, fd, LL.spLaw K, KX, hb, fun H a ns hl _ hS => ⟨a, ns, rfl, hS, hl, fun _ => rfl⟩, hF⟩
#print axioms PySem.Challenge.cw_lostleast_k04_whole_texts_are_read_exact_holds
