import PyProof.Rows.All
import Wide.All
import OpenK.AllK
import Wide.FinOn
import KE.KStateDown
import Lean
import HandS.ForMost
import HandS.Exc
import HandS.ExcOwn
import HandS.ExcSuper
import HandS.ExcIs
import HandS.TryOnly
import HandS.WordsExc
import HandS.Defaults
import HandS.MakeKw
import HandS.MakeKwOnly
import HandS.More
import HandS.Star
import HandS.IsInst
import HandS.FStr
import HandS.Wide
import HandS.OwnEq
import HandS.SlotsOwn
import HandS.Evl
import HandS.Head0
import HandS.Head1
import HandS.Head2
import HandS.HeadEnd
import HandS.HeadHook1
import HandS.HeadHook2
import HandS.HeadHook3
import HandS.HeadHook4
import PySem.Challenge.RW_lostleast_k00_fractions
set_option Elab.async false
set_option linter.all false
set_option maxRecDepth 100000
set_option maxHeartbeats 0
set_option exponentiation.threshold 20000
namespace LL
open PySem PySem.Spec PyProof.Rows L2 He
/-! ### the row's places (printed by gen.py) -/
def top (i : Nat) : Stmt := PySem.Challenge.pw_lostleast_k00_fractions.main.body.getD i (.Pass ⟨0, 0, 0, 0⟩)
abbrev s_Ratio_init : Stmt := inClass (top 10) 0
abbrev n_Ratio_init : List Str := ["self", "num", "den", "left", "right"]
theorem sc_Ratio_init : FnScope n_Ratio_init ["self", "num", "den"] (defScope s_Ratio_init) := ⟨rfl, rfl, rfl, by decide +kernel, rfl, by decide +kernel, by decide +kernel⟩
abbrev s_Ratio_add : Stmt := inClass (top 10) 1
abbrev n_Ratio_add : List Str := ["self", "other"]
theorem sc_Ratio_add : FnScope n_Ratio_add ["self", "other"] (defScope s_Ratio_add) := ⟨rfl, rfl, rfl, by decide +kernel, rfl, by decide +kernel, by decide +kernel⟩
abbrev s_Ratio_sub : Stmt := inClass (top 10) 2
abbrev n_Ratio_sub : List Str := ["self", "other"]
theorem sc_Ratio_sub : FnScope n_Ratio_sub ["self", "other"] (defScope s_Ratio_sub) := ⟨rfl, rfl, rfl, by decide +kernel, rfl, by decide +kernel, by decide +kernel⟩
abbrev s_Ratio_mul : Stmt := inClass (top 10) 3
abbrev n_Ratio_mul : List Str := ["self", "other"]
theorem sc_Ratio_mul : FnScope n_Ratio_mul ["self", "other"] (defScope s_Ratio_mul) := ⟨rfl, rfl, rfl, by decide +kernel, rfl, by decide +kernel, by decide +kernel⟩
abbrev s_Ratio_eq : Stmt := inClass (top 10) 4
abbrev n_Ratio_eq : List Str := ["self", "other"]
theorem sc_Ratio_eq : FnScope n_Ratio_eq ["self", "other"] (defScope s_Ratio_eq) := ⟨rfl, rfl, rfl, by decide +kernel, rfl, by decide +kernel, by decide +kernel⟩
abbrev s_Ratio_str : Stmt := inClass (top 10) 5
abbrev n_Ratio_str : List Str := ["self"]
theorem sc_Ratio_str : FnScope n_Ratio_str ["self"] (defScope s_Ratio_str) := ⟨rfl, rfl, rfl, by decide +kernel, rfl, by decide +kernel, by decide +kernel⟩
abbrev s_Ratio_less : Stmt := inClass (top 10) 6
abbrev n_Ratio_less : List Str := ["self", "other"]
theorem sc_Ratio_less : FnScope n_Ratio_less ["self", "other"] (defScope s_Ratio_less) := ⟨rfl, rfl, rfl, by decide +kernel, rfl, by decide +kernel, by decide +kernel⟩
abbrev s_Ratio_over : Stmt := inClass (top 10) 7
abbrev n_Ratio_over : List Str := ["self", "other"]
theorem sc_Ratio_over : FnScope n_Ratio_over ["self", "other"] (defScope s_Ratio_over) := ⟨rfl, rfl, rfl, by decide +kernel, rfl, by decide +kernel, by decide +kernel⟩
abbrev s_l_pool : Stmt := top 12
abbrev n_l_pool : List Str := ["_law_script", "_law_budget"]
theorem sc_l_pool : FnScope n_l_pool ["_law_script", "_law_budget"] (defScope s_l_pool) := ⟨rfl, rfl, rfl, by decide +kernel, rfl, by decide +kernel, by decide +kernel⟩
abbrev s_l_draw : Stmt := top 13
abbrev n_l_draw : List Str := ["_law_pool_here", "_law_size", "_law_cell", "_law_value"]
theorem sc_l_draw : FnScope n_l_draw ["_law_pool_here", "_law_size"] (defScope s_l_draw) := ⟨rfl, rfl, rfl, by decide +kernel, rfl, by decide +kernel, by decide +kernel⟩
abbrev s_l_same : Stmt := top 14
abbrev n_l_same : List Str := ["_law_actual", "_law_due", "_law_k"]
theorem sc_l_same : FnScope n_l_same ["_law_actual", "_law_due"] (defScope s_l_same) := ⟨rfl, rfl, rfl, by decide +kernel, rfl, by decide +kernel, by decide +kernel⟩
abbrev s_l_less : Stmt := top 15
abbrev n_l_less : List Str := ["_law_num", "_law_den", "_law_a", "_law_b", "_law_k"]
theorem sc_l_less : FnScope n_l_less ["_law_num", "_law_den"] (defScope s_l_less) := ⟨rfl, rfl, rfl, by decide +kernel, rfl, by decide +kernel, by decide +kernel⟩
abbrev s_l_plus : Stmt := top 16
abbrev n_l_plus : List Str := ["_law_one", "_law_other"]
theorem sc_l_plus : FnScope n_l_plus ["_law_one", "_law_other"] (defScope s_l_plus) := ⟨rfl, rfl, rfl, by decide +kernel, rfl, by decide +kernel, by decide +kernel⟩
abbrev s_l_minus : Stmt := top 17
abbrev n_l_minus : List Str := ["_law_one", "_law_other"]
theorem sc_l_minus : FnScope n_l_minus ["_law_one", "_law_other"] (defScope s_l_minus) := ⟨rfl, rfl, rfl, by decide +kernel, rfl, by decide +kernel, by decide +kernel⟩
abbrev s_l_times : Stmt := top 18
abbrev n_l_times : List Str := ["_law_one", "_law_other"]
theorem sc_l_times : FnScope n_l_times ["_law_one", "_law_other"] (defScope s_l_times) := ⟨rfl, rfl, rfl, by decide +kernel, rfl, by decide +kernel, by decide +kernel⟩
abbrev s_l_below : Stmt := top 19
abbrev n_l_below : List Str := ["_law_one", "_law_other"]
theorem sc_l_below : FnScope n_l_below ["_law_one", "_law_other"] (defScope s_l_below) := ⟨rfl, rfl, rfl, by decide +kernel, rfl, by decide +kernel, by decide +kernel⟩
abbrev s_l_is : Stmt := top 20
abbrev n_l_is : List Str := ["_law_ratio", "_law_due"]
theorem sc_l_is : FnScope n_l_is ["_law_ratio", "_law_due"] (defScope s_l_is) := ⟨rfl, rfl, rfl, by decide +kernel, rfl, by decide +kernel, by decide +kernel⟩
abbrev s_l_refused : Stmt := top 21
abbrev n_l_refused : List Str := ["_law_one", "_law_other", "e"]
theorem sc_l_refused : FnScope n_l_refused ["_law_one", "_law_other"] (defScope s_l_refused) := ⟨rfl, rfl, rfl, by decide +kernel, rfl, by decide +kernel, by decide +kernel⟩
abbrev s_l_pair : Stmt := top 22
abbrev n_l_pair : List Str := ["_law_pool_here", "_law_one", "_law_two", "_law_k", "_law_num"]
theorem sc_l_pair : FnScope n_l_pair ["_law_pool_here"] (defScope s_l_pair) := ⟨rfl, rfl, rfl, by decide +kernel, rfl, by decide +kernel, by decide +kernel⟩
abbrev s_law : Stmt := top 23
abbrev n_law : List Str := ["_law_script", "_law_pool_here", "_law_turn", "_law_one", "_law_other", "_law_a", "_law_b", "_law_due", "_law_text", "_law_sign", "_law_num", "_law_den"]
theorem sc_law : FnScope n_law ["_law_script"] (defScope s_law) := ⟨rfl, rfl, rfl, by decide +kernel, rfl, by decide +kernel, by decide +kernel⟩
def d_Ratio_init : He.DefD := ⟨("Ratio", some "__init__"), "__init__", "Ratio.__init__", defArgs s_Ratio_init, defBody s_Ratio_init, defScope s_Ratio_init, [.int 1], []⟩
def d_Ratio_add : He.DefD := ⟨("Ratio", some "__add__"), "__add__", "Ratio.__add__", defArgs s_Ratio_add, defBody s_Ratio_add, defScope s_Ratio_add, [], []⟩
def d_Ratio_sub : He.DefD := ⟨("Ratio", some "__sub__"), "__sub__", "Ratio.__sub__", defArgs s_Ratio_sub, defBody s_Ratio_sub, defScope s_Ratio_sub, [], []⟩
def d_Ratio_mul : He.DefD := ⟨("Ratio", some "__mul__"), "__mul__", "Ratio.__mul__", defArgs s_Ratio_mul, defBody s_Ratio_mul, defScope s_Ratio_mul, [], []⟩
def d_Ratio_eq : He.DefD := ⟨("Ratio", some "__eq__"), "__eq__", "Ratio.__eq__", defArgs s_Ratio_eq, defBody s_Ratio_eq, defScope s_Ratio_eq, [], []⟩
def d_Ratio_str : He.DefD := ⟨("Ratio", some "__str__"), "__str__", "Ratio.__str__", defArgs s_Ratio_str, defBody s_Ratio_str, defScope s_Ratio_str, [], []⟩
def d_Ratio_less : He.DefD := ⟨("Ratio", some "less"), "less", "Ratio.less", defArgs s_Ratio_less, defBody s_Ratio_less, defScope s_Ratio_less, [], []⟩
def d_Ratio_over : He.DefD := ⟨("Ratio", some "over"), "over", "Ratio.over", defArgs s_Ratio_over, defBody s_Ratio_over, defScope s_Ratio_over, [], []⟩
def d_l_pool : He.DefD := ⟨("_law_pool", none), "_law_pool", "_law_pool", defArgs s_l_pool, defBody s_l_pool, defScope s_l_pool, [], []⟩
def d_l_draw : He.DefD := ⟨("_law_draw", none), "_law_draw", "_law_draw", defArgs s_l_draw, defBody s_l_draw, defScope s_l_draw, [], []⟩
def d_l_same : He.DefD := ⟨("_law_same", none), "_law_same", "_law_same", defArgs s_l_same, defBody s_l_same, defScope s_l_same, [], []⟩
def d_l_less : He.DefD := ⟨("_law_less", none), "_law_less", "_law_less", defArgs s_l_less, defBody s_l_less, defScope s_l_less, [], []⟩
def d_l_plus : He.DefD := ⟨("_law_plus", none), "_law_plus", "_law_plus", defArgs s_l_plus, defBody s_l_plus, defScope s_l_plus, [], []⟩
def d_l_minus : He.DefD := ⟨("_law_minus", none), "_law_minus", "_law_minus", defArgs s_l_minus, defBody s_l_minus, defScope s_l_minus, [], []⟩
def d_l_times : He.DefD := ⟨("_law_times", none), "_law_times", "_law_times", defArgs s_l_times, defBody s_l_times, defScope s_l_times, [], []⟩
def d_l_below : He.DefD := ⟨("_law_below", none), "_law_below", "_law_below", defArgs s_l_below, defBody s_l_below, defScope s_l_below, [], []⟩
def d_l_is : He.DefD := ⟨("_law_is", none), "_law_is", "_law_is", defArgs s_l_is, defBody s_l_is, defScope s_l_is, [], []⟩
def d_l_refused : He.DefD := ⟨("_law_refused", none), "_law_refused", "_law_refused", defArgs s_l_refused, defBody s_l_refused, defScope s_l_refused, [], []⟩
def d_l_pair : He.DefD := ⟨("_law_pair", none), "_law_pair", "_law_pair", defArgs s_l_pair, defBody s_l_pair, defScope s_l_pair, [], []⟩
def d_law : He.DefD := ⟨("law", none), "law", "law", defArgs s_law, defBody s_law, defScope s_law, [], []⟩
def excB (K : PySem.W.Frag) (D : Addr) : Bool := eqO (PySem.W.findIn K (.ref D) "__getattribute__") (some (some (.builtin "BaseException.__getattribute__"))) && (eqO (PySem.W.findIn K (.ref D) "__getattr__") (some none) && (decide (PySem.W.subIn K (.ref D) (.type "BaseException") = some true) && (PySem.W.hasDictIn K D && (eqO (PySem.W.findIn K (.ref D) "__class__") (some (some (.builtin "object.__class__"))) && (eqO (PySem.W.specialIn K (.builtin "object.__class__") "__get__") (some (some (.builtin "getset_descriptor.__get__"))) && (decide (PySem.W.takesIn K (.builtin "object.__class__") = some true) && decide (PySem.W.mroIn K D (.type "object") = some true)))))))
theorem excB_ok {K : PySem.W.Frag} {D : Addr} (h : excB K D = true) : ExcC K D := by
  simp only [excB, Bool.and_eq_true] at h
  obtain ⟨h1, h2, h3, h4, h5, h6, h7, h8⟩ := h
  exact ⟨eqO_ok h1, eqO_ok h2, of_decide_eq_true h3, h4, eqO_ok h5, eqO_ok h6, of_decide_eq_true h7, of_decide_eq_true h8⟩
def fn : List He.DefD := [d_Ratio_init, d_Ratio_add, d_Ratio_sub, d_Ratio_mul, d_Ratio_eq, d_Ratio_str, d_Ratio_less, d_Ratio_over, d_l_pool, d_l_draw, d_l_same, d_l_less, d_l_plus, d_l_minus, d_l_times, d_l_below, d_l_is, d_l_refused, d_l_pair, d_law]
def fa : List He.Fa := [
  .glo "_law_pool",
  .glo "_law_draw",
  .glo "_law_same",
  .glo "_law_less",
  .glo "_law_plus",
  .glo "_law_minus",
  .glo "_law_times",
  .glo "_law_below",
  .glo "_law_is",
  .glo "_law_refused",
  .glo "_law_pair",
  .glo "law",
  .glo "LossError",
  .exc "LossError",
  .glo "BadText",
  .glo "BadRatio",
  .exc "BadRatio",
  .glo "BadPlan",
  .glo "BadPaper",
  .glo "NoShare",
  .glo "NoPlan",
  .glo "TooLarge",
  .glo "Ratio",
  .cls "Ratio",
  .mkr "Ratio",
  .noat "Ratio" "num",
  .noat "Ratio" "den",
  .meth "Ratio" "__add__",
  .meth "Ratio" "__sub__",
  .meth "Ratio" "__mul__",
  .meth "Ratio" "__eq__",
  .meth "Ratio" "__str__",
  .meth "Ratio" "less",
  .meth "Ratio" "over",
  .free "ValueError",
  .free "isinstance",
  .free "int",
  .free "abs",
  .free "range",
  .free "list",
  .free "tuple",
  .free "bool",
  .free "str",
  .free "len",
  .free "super"]
def exs : List (PySem.W.Frag → Bool) := [
  fun K => eqO (PySem.W.findIn K (.ref (ga K "Ratio")) "__class__") (some (some (.builtin "object.__class__"))),
  fun K => PySem.W.notFirst K (ga K "Ratio") (.ref (ga K "Ratio")),
  fun K => decide (PySem.W.mroIn K (ga K "Ratio") (.type "object") = some true),
  fun K => decide (PySem.W.kitOne K (.ref (ga K "Ratio")) (.type "tuple") = some false),
  fun K => decide (PySem.W.kitOne K (.ref (ga K "Ratio")) (.type "list") = some false),
  fun K => decide (PySem.W.kitOne K (.ref (ga K "Ratio")) (.type "bool") = some false),
  fun K => decide (PySem.W.kitOne K (.ref (ga K "Ratio")) (.type "int") = some false),
  fun K => decide (PySem.W.kitOne K (.ref (ga K "Ratio")) (.type "str") = some false),
  fun K => decide (PySem.W.kitOne K (.ref (ga K "Ratio")) (.ref (ga K "Ratio")) = some true),
  fun K => eqO (PySem.W.findIn K (.ref (ga K "Ratio")) "__format__") (some (some (.builtin "object.__format__"))),
  fun K => PySem.W.selfFirst K (ga K "Ratio"),
  fun K => eqO (PySem.W.specialIn K (.builtin "object.__class__") "__get__") (some (some (.builtin "getset_descriptor.__get__"))),
  fun K => decide (PySem.W.takesIn K (.builtin "object.__class__") = some true),
  fun K => excB K (ga K "LossError"),
  fun K => decide (PySem.W.exmOne K (.ref (ga K "LossError")) (.ref (ga K "LossError")) = some true),
  fun K => decide (PySem.W.kitOne K (.ref (ga K "LossError")) (.ref (ga K "LossError")) = some true),
  fun K => decide (PySem.W.exmOne K (.ref (ga K "LossError")) (.ref (ga K "BadText")) = some false),
  fun K => decide (PySem.W.kitOne K (.ref (ga K "LossError")) (.ref (ga K "BadText")) = some false),
  fun K => decide (PySem.W.exmOne K (.ref (ga K "LossError")) (.ref (ga K "BadRatio")) = some false),
  fun K => decide (PySem.W.kitOne K (.ref (ga K "LossError")) (.ref (ga K "BadRatio")) = some false),
  fun K => decide (PySem.W.exmOne K (.ref (ga K "LossError")) (.ref (ga K "BadPlan")) = some false),
  fun K => decide (PySem.W.kitOne K (.ref (ga K "LossError")) (.ref (ga K "BadPlan")) = some false),
  fun K => decide (PySem.W.exmOne K (.ref (ga K "LossError")) (.ref (ga K "BadPaper")) = some false),
  fun K => decide (PySem.W.kitOne K (.ref (ga K "LossError")) (.ref (ga K "BadPaper")) = some false),
  fun K => decide (PySem.W.exmOne K (.ref (ga K "LossError")) (.ref (ga K "NoShare")) = some false),
  fun K => decide (PySem.W.kitOne K (.ref (ga K "LossError")) (.ref (ga K "NoShare")) = some false),
  fun K => decide (PySem.W.exmOne K (.ref (ga K "LossError")) (.ref (ga K "NoPlan")) = some false),
  fun K => decide (PySem.W.kitOne K (.ref (ga K "LossError")) (.ref (ga K "NoPlan")) = some false),
  fun K => decide (PySem.W.exmOne K (.ref (ga K "LossError")) (.ref (ga K "TooLarge")) = some false),
  fun K => decide (PySem.W.kitOne K (.ref (ga K "LossError")) (.ref (ga K "TooLarge")) = some false),
  fun K => decide (PySem.W.kitOne K (.ref (ga K "LossError")) (.type "ValueError") = some true),
  fun K => excB K (ga K "BadText"),
  fun K => decide (PySem.W.exmOne K (.ref (ga K "BadText")) (.ref (ga K "LossError")) = some true),
  fun K => decide (PySem.W.kitOne K (.ref (ga K "BadText")) (.ref (ga K "LossError")) = some true),
  fun K => decide (PySem.W.exmOne K (.ref (ga K "BadText")) (.ref (ga K "BadText")) = some true),
  fun K => decide (PySem.W.kitOne K (.ref (ga K "BadText")) (.ref (ga K "BadText")) = some true),
  fun K => decide (PySem.W.exmOne K (.ref (ga K "BadText")) (.ref (ga K "BadRatio")) = some false),
  fun K => decide (PySem.W.kitOne K (.ref (ga K "BadText")) (.ref (ga K "BadRatio")) = some false),
  fun K => decide (PySem.W.exmOne K (.ref (ga K "BadText")) (.ref (ga K "BadPlan")) = some false),
  fun K => decide (PySem.W.kitOne K (.ref (ga K "BadText")) (.ref (ga K "BadPlan")) = some false),
  fun K => decide (PySem.W.exmOne K (.ref (ga K "BadText")) (.ref (ga K "BadPaper")) = some false),
  fun K => decide (PySem.W.kitOne K (.ref (ga K "BadText")) (.ref (ga K "BadPaper")) = some false),
  fun K => decide (PySem.W.exmOne K (.ref (ga K "BadText")) (.ref (ga K "NoShare")) = some false),
  fun K => decide (PySem.W.kitOne K (.ref (ga K "BadText")) (.ref (ga K "NoShare")) = some false),
  fun K => decide (PySem.W.exmOne K (.ref (ga K "BadText")) (.ref (ga K "NoPlan")) = some false),
  fun K => decide (PySem.W.kitOne K (.ref (ga K "BadText")) (.ref (ga K "NoPlan")) = some false),
  fun K => decide (PySem.W.exmOne K (.ref (ga K "BadText")) (.ref (ga K "TooLarge")) = some false),
  fun K => decide (PySem.W.kitOne K (.ref (ga K "BadText")) (.ref (ga K "TooLarge")) = some false),
  fun K => decide (PySem.W.kitOne K (.ref (ga K "BadText")) (.type "ValueError") = some true),
  fun K => excB K (ga K "BadRatio"),
  fun K => decide (PySem.W.exmOne K (.ref (ga K "BadRatio")) (.ref (ga K "LossError")) = some true),
  fun K => decide (PySem.W.kitOne K (.ref (ga K "BadRatio")) (.ref (ga K "LossError")) = some true),
  fun K => decide (PySem.W.exmOne K (.ref (ga K "BadRatio")) (.ref (ga K "BadText")) = some false),
  fun K => decide (PySem.W.kitOne K (.ref (ga K "BadRatio")) (.ref (ga K "BadText")) = some false),
  fun K => decide (PySem.W.exmOne K (.ref (ga K "BadRatio")) (.ref (ga K "BadRatio")) = some true),
  fun K => decide (PySem.W.kitOne K (.ref (ga K "BadRatio")) (.ref (ga K "BadRatio")) = some true),
  fun K => decide (PySem.W.exmOne K (.ref (ga K "BadRatio")) (.ref (ga K "BadPlan")) = some false),
  fun K => decide (PySem.W.kitOne K (.ref (ga K "BadRatio")) (.ref (ga K "BadPlan")) = some false),
  fun K => decide (PySem.W.exmOne K (.ref (ga K "BadRatio")) (.ref (ga K "BadPaper")) = some false),
  fun K => decide (PySem.W.kitOne K (.ref (ga K "BadRatio")) (.ref (ga K "BadPaper")) = some false),
  fun K => decide (PySem.W.exmOne K (.ref (ga K "BadRatio")) (.ref (ga K "NoShare")) = some false),
  fun K => decide (PySem.W.kitOne K (.ref (ga K "BadRatio")) (.ref (ga K "NoShare")) = some false),
  fun K => decide (PySem.W.exmOne K (.ref (ga K "BadRatio")) (.ref (ga K "NoPlan")) = some false),
  fun K => decide (PySem.W.kitOne K (.ref (ga K "BadRatio")) (.ref (ga K "NoPlan")) = some false),
  fun K => decide (PySem.W.exmOne K (.ref (ga K "BadRatio")) (.ref (ga K "TooLarge")) = some false),
  fun K => decide (PySem.W.kitOne K (.ref (ga K "BadRatio")) (.ref (ga K "TooLarge")) = some false),
  fun K => decide (PySem.W.kitOne K (.ref (ga K "BadRatio")) (.type "ValueError") = some true),
  fun K => excB K (ga K "BadPlan"),
  fun K => decide (PySem.W.exmOne K (.ref (ga K "BadPlan")) (.ref (ga K "LossError")) = some true),
  fun K => decide (PySem.W.kitOne K (.ref (ga K "BadPlan")) (.ref (ga K "LossError")) = some true),
  fun K => decide (PySem.W.exmOne K (.ref (ga K "BadPlan")) (.ref (ga K "BadText")) = some false),
  fun K => decide (PySem.W.kitOne K (.ref (ga K "BadPlan")) (.ref (ga K "BadText")) = some false),
  fun K => decide (PySem.W.exmOne K (.ref (ga K "BadPlan")) (.ref (ga K "BadRatio")) = some false),
  fun K => decide (PySem.W.kitOne K (.ref (ga K "BadPlan")) (.ref (ga K "BadRatio")) = some false),
  fun K => decide (PySem.W.exmOne K (.ref (ga K "BadPlan")) (.ref (ga K "BadPlan")) = some true),
  fun K => decide (PySem.W.kitOne K (.ref (ga K "BadPlan")) (.ref (ga K "BadPlan")) = some true),
  fun K => decide (PySem.W.exmOne K (.ref (ga K "BadPlan")) (.ref (ga K "BadPaper")) = some false),
  fun K => decide (PySem.W.kitOne K (.ref (ga K "BadPlan")) (.ref (ga K "BadPaper")) = some false),
  fun K => decide (PySem.W.exmOne K (.ref (ga K "BadPlan")) (.ref (ga K "NoShare")) = some false),
  fun K => decide (PySem.W.kitOne K (.ref (ga K "BadPlan")) (.ref (ga K "NoShare")) = some false),
  fun K => decide (PySem.W.exmOne K (.ref (ga K "BadPlan")) (.ref (ga K "NoPlan")) = some false),
  fun K => decide (PySem.W.kitOne K (.ref (ga K "BadPlan")) (.ref (ga K "NoPlan")) = some false),
  fun K => decide (PySem.W.exmOne K (.ref (ga K "BadPlan")) (.ref (ga K "TooLarge")) = some false),
  fun K => decide (PySem.W.kitOne K (.ref (ga K "BadPlan")) (.ref (ga K "TooLarge")) = some false),
  fun K => decide (PySem.W.kitOne K (.ref (ga K "BadPlan")) (.type "ValueError") = some true),
  fun K => excB K (ga K "BadPaper"),
  fun K => decide (PySem.W.exmOne K (.ref (ga K "BadPaper")) (.ref (ga K "LossError")) = some true),
  fun K => decide (PySem.W.kitOne K (.ref (ga K "BadPaper")) (.ref (ga K "LossError")) = some true),
  fun K => decide (PySem.W.exmOne K (.ref (ga K "BadPaper")) (.ref (ga K "BadText")) = some false),
  fun K => decide (PySem.W.kitOne K (.ref (ga K "BadPaper")) (.ref (ga K "BadText")) = some false),
  fun K => decide (PySem.W.exmOne K (.ref (ga K "BadPaper")) (.ref (ga K "BadRatio")) = some false),
  fun K => decide (PySem.W.kitOne K (.ref (ga K "BadPaper")) (.ref (ga K "BadRatio")) = some false),
  fun K => decide (PySem.W.exmOne K (.ref (ga K "BadPaper")) (.ref (ga K "BadPlan")) = some false),
  fun K => decide (PySem.W.kitOne K (.ref (ga K "BadPaper")) (.ref (ga K "BadPlan")) = some false),
  fun K => decide (PySem.W.exmOne K (.ref (ga K "BadPaper")) (.ref (ga K "BadPaper")) = some true),
  fun K => decide (PySem.W.kitOne K (.ref (ga K "BadPaper")) (.ref (ga K "BadPaper")) = some true),
  fun K => decide (PySem.W.exmOne K (.ref (ga K "BadPaper")) (.ref (ga K "NoShare")) = some false),
  fun K => decide (PySem.W.kitOne K (.ref (ga K "BadPaper")) (.ref (ga K "NoShare")) = some false),
  fun K => decide (PySem.W.exmOne K (.ref (ga K "BadPaper")) (.ref (ga K "NoPlan")) = some false),
  fun K => decide (PySem.W.kitOne K (.ref (ga K "BadPaper")) (.ref (ga K "NoPlan")) = some false),
  fun K => decide (PySem.W.exmOne K (.ref (ga K "BadPaper")) (.ref (ga K "TooLarge")) = some false),
  fun K => decide (PySem.W.kitOne K (.ref (ga K "BadPaper")) (.ref (ga K "TooLarge")) = some false),
  fun K => decide (PySem.W.kitOne K (.ref (ga K "BadPaper")) (.type "ValueError") = some true),
  fun K => excB K (ga K "NoShare"),
  fun K => decide (PySem.W.exmOne K (.ref (ga K "NoShare")) (.ref (ga K "LossError")) = some true),
  fun K => decide (PySem.W.kitOne K (.ref (ga K "NoShare")) (.ref (ga K "LossError")) = some true),
  fun K => decide (PySem.W.exmOne K (.ref (ga K "NoShare")) (.ref (ga K "BadText")) = some false),
  fun K => decide (PySem.W.kitOne K (.ref (ga K "NoShare")) (.ref (ga K "BadText")) = some false),
  fun K => decide (PySem.W.exmOne K (.ref (ga K "NoShare")) (.ref (ga K "BadRatio")) = some false),
  fun K => decide (PySem.W.kitOne K (.ref (ga K "NoShare")) (.ref (ga K "BadRatio")) = some false),
  fun K => decide (PySem.W.exmOne K (.ref (ga K "NoShare")) (.ref (ga K "BadPlan")) = some false),
  fun K => decide (PySem.W.kitOne K (.ref (ga K "NoShare")) (.ref (ga K "BadPlan")) = some false),
  fun K => decide (PySem.W.exmOne K (.ref (ga K "NoShare")) (.ref (ga K "BadPaper")) = some false),
  fun K => decide (PySem.W.kitOne K (.ref (ga K "NoShare")) (.ref (ga K "BadPaper")) = some false),
  fun K => decide (PySem.W.exmOne K (.ref (ga K "NoShare")) (.ref (ga K "NoShare")) = some true),
  fun K => decide (PySem.W.kitOne K (.ref (ga K "NoShare")) (.ref (ga K "NoShare")) = some true),
  fun K => decide (PySem.W.exmOne K (.ref (ga K "NoShare")) (.ref (ga K "NoPlan")) = some false),
  fun K => decide (PySem.W.kitOne K (.ref (ga K "NoShare")) (.ref (ga K "NoPlan")) = some false),
  fun K => decide (PySem.W.exmOne K (.ref (ga K "NoShare")) (.ref (ga K "TooLarge")) = some false),
  fun K => decide (PySem.W.kitOne K (.ref (ga K "NoShare")) (.ref (ga K "TooLarge")) = some false),
  fun K => decide (PySem.W.kitOne K (.ref (ga K "NoShare")) (.type "ValueError") = some true),
  fun K => excB K (ga K "NoPlan"),
  fun K => decide (PySem.W.exmOne K (.ref (ga K "NoPlan")) (.ref (ga K "LossError")) = some true),
  fun K => decide (PySem.W.kitOne K (.ref (ga K "NoPlan")) (.ref (ga K "LossError")) = some true),
  fun K => decide (PySem.W.exmOne K (.ref (ga K "NoPlan")) (.ref (ga K "BadText")) = some false),
  fun K => decide (PySem.W.kitOne K (.ref (ga K "NoPlan")) (.ref (ga K "BadText")) = some false),
  fun K => decide (PySem.W.exmOne K (.ref (ga K "NoPlan")) (.ref (ga K "BadRatio")) = some false),
  fun K => decide (PySem.W.kitOne K (.ref (ga K "NoPlan")) (.ref (ga K "BadRatio")) = some false),
  fun K => decide (PySem.W.exmOne K (.ref (ga K "NoPlan")) (.ref (ga K "BadPlan")) = some false),
  fun K => decide (PySem.W.kitOne K (.ref (ga K "NoPlan")) (.ref (ga K "BadPlan")) = some false),
  fun K => decide (PySem.W.exmOne K (.ref (ga K "NoPlan")) (.ref (ga K "BadPaper")) = some false),
  fun K => decide (PySem.W.kitOne K (.ref (ga K "NoPlan")) (.ref (ga K "BadPaper")) = some false),
  fun K => decide (PySem.W.exmOne K (.ref (ga K "NoPlan")) (.ref (ga K "NoShare")) = some false),
  fun K => decide (PySem.W.kitOne K (.ref (ga K "NoPlan")) (.ref (ga K "NoShare")) = some false),
  fun K => decide (PySem.W.exmOne K (.ref (ga K "NoPlan")) (.ref (ga K "NoPlan")) = some true),
  fun K => decide (PySem.W.kitOne K (.ref (ga K "NoPlan")) (.ref (ga K "NoPlan")) = some true),
  fun K => decide (PySem.W.exmOne K (.ref (ga K "NoPlan")) (.ref (ga K "TooLarge")) = some false),
  fun K => decide (PySem.W.kitOne K (.ref (ga K "NoPlan")) (.ref (ga K "TooLarge")) = some false),
  fun K => decide (PySem.W.kitOne K (.ref (ga K "NoPlan")) (.type "ValueError") = some true),
  fun K => excB K (ga K "TooLarge"),
  fun K => decide (PySem.W.exmOne K (.ref (ga K "TooLarge")) (.ref (ga K "LossError")) = some true),
  fun K => decide (PySem.W.kitOne K (.ref (ga K "TooLarge")) (.ref (ga K "LossError")) = some true),
  fun K => decide (PySem.W.exmOne K (.ref (ga K "TooLarge")) (.ref (ga K "BadText")) = some false),
  fun K => decide (PySem.W.kitOne K (.ref (ga K "TooLarge")) (.ref (ga K "BadText")) = some false),
  fun K => decide (PySem.W.exmOne K (.ref (ga K "TooLarge")) (.ref (ga K "BadRatio")) = some false),
  fun K => decide (PySem.W.kitOne K (.ref (ga K "TooLarge")) (.ref (ga K "BadRatio")) = some false),
  fun K => decide (PySem.W.exmOne K (.ref (ga K "TooLarge")) (.ref (ga K "BadPlan")) = some false),
  fun K => decide (PySem.W.kitOne K (.ref (ga K "TooLarge")) (.ref (ga K "BadPlan")) = some false),
  fun K => decide (PySem.W.exmOne K (.ref (ga K "TooLarge")) (.ref (ga K "BadPaper")) = some false),
  fun K => decide (PySem.W.kitOne K (.ref (ga K "TooLarge")) (.ref (ga K "BadPaper")) = some false),
  fun K => decide (PySem.W.exmOne K (.ref (ga K "TooLarge")) (.ref (ga K "NoShare")) = some false),
  fun K => decide (PySem.W.kitOne K (.ref (ga K "TooLarge")) (.ref (ga K "NoShare")) = some false),
  fun K => decide (PySem.W.exmOne K (.ref (ga K "TooLarge")) (.ref (ga K "NoPlan")) = some false),
  fun K => decide (PySem.W.kitOne K (.ref (ga K "TooLarge")) (.ref (ga K "NoPlan")) = some false),
  fun K => decide (PySem.W.exmOne K (.ref (ga K "TooLarge")) (.ref (ga K "TooLarge")) = some true),
  fun K => decide (PySem.W.kitOne K (.ref (ga K "TooLarge")) (.ref (ga K "TooLarge")) = some true),
  fun K => decide (PySem.W.kitOne K (.ref (ga K "TooLarge")) (.type "ValueError") = some true)]
def exB (K : PySem.W.Frag) : Bool := exs.all fun f => f K
theorem exB_at {K : PySem.W.Frag} (h : exB K = true) (i : Nat) {f : PySem.W.Frag → Bool} (e : exs[i]? = some f) : f K = true := List.all_eq_true.mp h f (List.mem_of_getElem? e)
def tabs : List He.Tab := []
/-- what the walk asks of the top -/
structure Txt (K : PySem.W.Frag) (mg : Str → Option Value) : Prop where
  d_Ratio_init : ∃ fd, FunD K "__init__" "Ratio.__init__" (defArgs s_Ratio_init) (defBody s_Ratio_init) (defScope s_Ratio_init) (List.map (He.Dv.v K) [.int 1]) [] (ma K (ga K "Ratio") "__init__") fd
  d_Ratio_add : ∃ fd, FunD K "__add__" "Ratio.__add__" (defArgs s_Ratio_add) (defBody s_Ratio_add) (defScope s_Ratio_add) (List.map (He.Dv.v K) []) [] (ma K (ga K "Ratio") "__add__") fd
  d_Ratio_sub : ∃ fd, FunD K "__sub__" "Ratio.__sub__" (defArgs s_Ratio_sub) (defBody s_Ratio_sub) (defScope s_Ratio_sub) (List.map (He.Dv.v K) []) [] (ma K (ga K "Ratio") "__sub__") fd
  d_Ratio_mul : ∃ fd, FunD K "__mul__" "Ratio.__mul__" (defArgs s_Ratio_mul) (defBody s_Ratio_mul) (defScope s_Ratio_mul) (List.map (He.Dv.v K) []) [] (ma K (ga K "Ratio") "__mul__") fd
  d_Ratio_eq : ∃ fd, FunD K "__eq__" "Ratio.__eq__" (defArgs s_Ratio_eq) (defBody s_Ratio_eq) (defScope s_Ratio_eq) (List.map (He.Dv.v K) []) [] (ma K (ga K "Ratio") "__eq__") fd
  d_Ratio_str : ∃ fd, FunD K "__str__" "Ratio.__str__" (defArgs s_Ratio_str) (defBody s_Ratio_str) (defScope s_Ratio_str) (List.map (He.Dv.v K) []) [] (ma K (ga K "Ratio") "__str__") fd
  d_Ratio_less : ∃ fd, FunD K "less" "Ratio.less" (defArgs s_Ratio_less) (defBody s_Ratio_less) (defScope s_Ratio_less) (List.map (He.Dv.v K) []) [] (ma K (ga K "Ratio") "less") fd
  d_Ratio_over : ∃ fd, FunD K "over" "Ratio.over" (defArgs s_Ratio_over) (defBody s_Ratio_over) (defScope s_Ratio_over) (List.map (He.Dv.v K) []) [] (ma K (ga K "Ratio") "over") fd
  d_l_pool : ∃ fd, FunD K "_law_pool" "_law_pool" (defArgs s_l_pool) (defBody s_l_pool) (defScope s_l_pool) (List.map (He.Dv.v K) []) [] (ga K "_law_pool") fd
  d_l_draw : ∃ fd, FunD K "_law_draw" "_law_draw" (defArgs s_l_draw) (defBody s_l_draw) (defScope s_l_draw) (List.map (He.Dv.v K) []) [] (ga K "_law_draw") fd
  d_l_same : ∃ fd, FunD K "_law_same" "_law_same" (defArgs s_l_same) (defBody s_l_same) (defScope s_l_same) (List.map (He.Dv.v K) []) [] (ga K "_law_same") fd
  d_l_less : ∃ fd, FunD K "_law_less" "_law_less" (defArgs s_l_less) (defBody s_l_less) (defScope s_l_less) (List.map (He.Dv.v K) []) [] (ga K "_law_less") fd
  d_l_plus : ∃ fd, FunD K "_law_plus" "_law_plus" (defArgs s_l_plus) (defBody s_l_plus) (defScope s_l_plus) (List.map (He.Dv.v K) []) [] (ga K "_law_plus") fd
  d_l_minus : ∃ fd, FunD K "_law_minus" "_law_minus" (defArgs s_l_minus) (defBody s_l_minus) (defScope s_l_minus) (List.map (He.Dv.v K) []) [] (ga K "_law_minus") fd
  d_l_times : ∃ fd, FunD K "_law_times" "_law_times" (defArgs s_l_times) (defBody s_l_times) (defScope s_l_times) (List.map (He.Dv.v K) []) [] (ga K "_law_times") fd
  d_l_below : ∃ fd, FunD K "_law_below" "_law_below" (defArgs s_l_below) (defBody s_l_below) (defScope s_l_below) (List.map (He.Dv.v K) []) [] (ga K "_law_below") fd
  d_l_is : ∃ fd, FunD K "_law_is" "_law_is" (defArgs s_l_is) (defBody s_l_is) (defScope s_l_is) (List.map (He.Dv.v K) []) [] (ga K "_law_is") fd
  d_l_refused : ∃ fd, FunD K "_law_refused" "_law_refused" (defArgs s_l_refused) (defBody s_l_refused) (defScope s_l_refused) (List.map (He.Dv.v K) []) [] (ga K "_law_refused") fd
  d_l_pair : ∃ fd, FunD K "_law_pair" "_law_pair" (defArgs s_l_pair) (defBody s_l_pair) (defScope s_l_pair) (List.map (He.Dv.v K) []) [] (ga K "_law_pair") fd
  d_law : ∃ fd, FunD K "law" "law" (defArgs s_law) (defBody s_law) (defScope s_law) (List.map (He.Dv.v K) []) [] (ga K "law") fd
  g_l_pool : mg "_law_pool" = some (.ref (ga K "_law_pool"))
  g_l_draw : mg "_law_draw" = some (.ref (ga K "_law_draw"))
  g_l_same : mg "_law_same" = some (.ref (ga K "_law_same"))
  g_l_less : mg "_law_less" = some (.ref (ga K "_law_less"))
  g_l_plus : mg "_law_plus" = some (.ref (ga K "_law_plus"))
  g_l_minus : mg "_law_minus" = some (.ref (ga K "_law_minus"))
  g_l_times : mg "_law_times" = some (.ref (ga K "_law_times"))
  g_l_below : mg "_law_below" = some (.ref (ga K "_law_below"))
  g_l_is : mg "_law_is" = some (.ref (ga K "_law_is"))
  g_l_refused : mg "_law_refused" = some (.ref (ga K "_law_refused"))
  g_l_pair : mg "_law_pair" = some (.ref (ga K "_law_pair"))
  g_law : mg "law" = some (.ref (ga K "law"))
  g_LossError : mg "LossError" = some (.ref (ga K "LossError"))
  x_LossError : PySem.W.excIn K (ga K "LossError") He.veBase "ValueError.__new__" = true ∧ PySem.W.keepIn K (.ref (ga K "LossError")) = true ∧ PySem.W.subIn K (.ref (ga K "LossError")) (.type "BaseException") = some true ∧ PySem.W.typeIn K (.ref (ga K "LossError")) = some (.type "type")
  g_BadText : mg "BadText" = some (.ref (ga K "BadText"))
  g_BadRatio : mg "BadRatio" = some (.ref (ga K "BadRatio"))
  x_BadRatio : PySem.W.excIn K (ga K "BadRatio") He.veBase "ValueError.__new__" = true ∧ PySem.W.keepIn K (.ref (ga K "BadRatio")) = true ∧ PySem.W.subIn K (.ref (ga K "BadRatio")) (.type "BaseException") = some true ∧ PySem.W.typeIn K (.ref (ga K "BadRatio")) = some (.type "type")
  g_BadPlan : mg "BadPlan" = some (.ref (ga K "BadPlan"))
  g_BadPaper : mg "BadPaper" = some (.ref (ga K "BadPaper"))
  g_NoShare : mg "NoShare" = some (.ref (ga K "NoShare"))
  g_NoPlan : mg "NoPlan" = some (.ref (ga K "NoPlan"))
  g_TooLarge : mg "TooLarge" = some (.ref (ga K "TooLarge"))
  g_Ratio : mg "Ratio" = some (.ref (ga K "Ratio"))
  c_Ratio : Cls K (ga K "Ratio")
  m_Ratio : Mk K (ga K "Ratio") (ma K (ga K "Ratio") "__init__")
  a_Ratio_num : NoAttr K (ga K "Ratio") "num"
  a_Ratio_den : NoAttr K (ga K "Ratio") "den"
  t_Ratio_add : Meth K (ga K "Ratio") "__add__" (ma K (ga K "Ratio") "__add__")
  t_Ratio_sub : Meth K (ga K "Ratio") "__sub__" (ma K (ga K "Ratio") "__sub__")
  t_Ratio_mul : Meth K (ga K "Ratio") "__mul__" (ma K (ga K "Ratio") "__mul__")
  t_Ratio_eq : Meth K (ga K "Ratio") "__eq__" (ma K (ga K "Ratio") "__eq__")
  t_Ratio_str : Meth K (ga K "Ratio") "__str__" (ma K (ga K "Ratio") "__str__")
  t_Ratio_less : Meth K (ga K "Ratio") "less" (ma K (ga K "Ratio") "less")
  t_Ratio_over : Meth K (ga K "Ratio") "over" (ma K (ga K "Ratio") "over")
  f_ValueError : mg "ValueError" = none
  f_isinstance : mg "isinstance" = none
  f_int : mg "int" = none
  f_abs : mg "abs" = none
  f_range : mg "range" = none
  f_list : mg "list" = none
  f_tuple : mg "tuple" = none
  f_bool : mg "bool" = none
  f_str : mg "str" = none
  f_len : mg "len" = none
  f_super : mg "super" = none
  oc_Ratio : PySem.W.findIn K (.ref (ga K "Ratio")) "__class__" = some (some (.builtin "object.__class__"))
  nf_Ratio : PySem.W.notFirst K (ga K "Ratio") (.ref (ga K "Ratio")) = true
  om_Ratio : PySem.W.mroIn K (ga K "Ratio") (.type "object") = some true
  ki_Ratio_tuple : PySem.W.kitOne K (.ref (ga K "Ratio")) (.type "tuple") = some false
  ki_Ratio_list : PySem.W.kitOne K (.ref (ga K "Ratio")) (.type "list") = some false
  ki_Ratio_bool : PySem.W.kitOne K (.ref (ga K "Ratio")) (.type "bool") = some false
  ki_Ratio_int : PySem.W.kitOne K (.ref (ga K "Ratio")) (.type "int") = some false
  ki_Ratio_str : PySem.W.kitOne K (.ref (ga K "Ratio")) (.type "str") = some false
  ki_Ratio_Ratio : PySem.W.kitOne K (.ref (ga K "Ratio")) (.ref (ga K "Ratio")) = some true
  of_Ratio : PySem.W.findIn K (.ref (ga K "Ratio")) "__format__" = some (some (.builtin "object.__format__"))
  sf_Ratio : PySem.W.selfFirst K (ga K "Ratio") = true
  og : PySem.W.specialIn K (.builtin "object.__class__") "__get__" = some (some (.builtin "getset_descriptor.__get__"))
  ot : PySem.W.takesIn K (.builtin "object.__class__") = some true
  xc_LossError : ExcC K (ga K "LossError")
  em_LossError_LossError : PySem.W.exmOne K (.ref (ga K "LossError")) (.ref (ga K "LossError")) = some true
  ki_LossError_LossError : PySem.W.kitOne K (.ref (ga K "LossError")) (.ref (ga K "LossError")) = some true
  em_LossError_BadText : PySem.W.exmOne K (.ref (ga K "LossError")) (.ref (ga K "BadText")) = some false
  ki_LossError_BadText : PySem.W.kitOne K (.ref (ga K "LossError")) (.ref (ga K "BadText")) = some false
  em_LossError_BadRatio : PySem.W.exmOne K (.ref (ga K "LossError")) (.ref (ga K "BadRatio")) = some false
  ki_LossError_BadRatio : PySem.W.kitOne K (.ref (ga K "LossError")) (.ref (ga K "BadRatio")) = some false
  em_LossError_BadPlan : PySem.W.exmOne K (.ref (ga K "LossError")) (.ref (ga K "BadPlan")) = some false
  ki_LossError_BadPlan : PySem.W.kitOne K (.ref (ga K "LossError")) (.ref (ga K "BadPlan")) = some false
  em_LossError_BadPaper : PySem.W.exmOne K (.ref (ga K "LossError")) (.ref (ga K "BadPaper")) = some false
  ki_LossError_BadPaper : PySem.W.kitOne K (.ref (ga K "LossError")) (.ref (ga K "BadPaper")) = some false
  em_LossError_NoShare : PySem.W.exmOne K (.ref (ga K "LossError")) (.ref (ga K "NoShare")) = some false
  ki_LossError_NoShare : PySem.W.kitOne K (.ref (ga K "LossError")) (.ref (ga K "NoShare")) = some false
  em_LossError_NoPlan : PySem.W.exmOne K (.ref (ga K "LossError")) (.ref (ga K "NoPlan")) = some false
  ki_LossError_NoPlan : PySem.W.kitOne K (.ref (ga K "LossError")) (.ref (ga K "NoPlan")) = some false
  em_LossError_TooLarge : PySem.W.exmOne K (.ref (ga K "LossError")) (.ref (ga K "TooLarge")) = some false
  ki_LossError_TooLarge : PySem.W.kitOne K (.ref (ga K "LossError")) (.ref (ga K "TooLarge")) = some false
  kv_LossError : PySem.W.kitOne K (.ref (ga K "LossError")) (.type "ValueError") = some true
  xc_BadText : ExcC K (ga K "BadText")
  em_BadText_LossError : PySem.W.exmOne K (.ref (ga K "BadText")) (.ref (ga K "LossError")) = some true
  ki_BadText_LossError : PySem.W.kitOne K (.ref (ga K "BadText")) (.ref (ga K "LossError")) = some true
  em_BadText_BadText : PySem.W.exmOne K (.ref (ga K "BadText")) (.ref (ga K "BadText")) = some true
  ki_BadText_BadText : PySem.W.kitOne K (.ref (ga K "BadText")) (.ref (ga K "BadText")) = some true
  em_BadText_BadRatio : PySem.W.exmOne K (.ref (ga K "BadText")) (.ref (ga K "BadRatio")) = some false
  ki_BadText_BadRatio : PySem.W.kitOne K (.ref (ga K "BadText")) (.ref (ga K "BadRatio")) = some false
  em_BadText_BadPlan : PySem.W.exmOne K (.ref (ga K "BadText")) (.ref (ga K "BadPlan")) = some false
  ki_BadText_BadPlan : PySem.W.kitOne K (.ref (ga K "BadText")) (.ref (ga K "BadPlan")) = some false
  em_BadText_BadPaper : PySem.W.exmOne K (.ref (ga K "BadText")) (.ref (ga K "BadPaper")) = some false
  ki_BadText_BadPaper : PySem.W.kitOne K (.ref (ga K "BadText")) (.ref (ga K "BadPaper")) = some false
  em_BadText_NoShare : PySem.W.exmOne K (.ref (ga K "BadText")) (.ref (ga K "NoShare")) = some false
  ki_BadText_NoShare : PySem.W.kitOne K (.ref (ga K "BadText")) (.ref (ga K "NoShare")) = some false
  em_BadText_NoPlan : PySem.W.exmOne K (.ref (ga K "BadText")) (.ref (ga K "NoPlan")) = some false
  ki_BadText_NoPlan : PySem.W.kitOne K (.ref (ga K "BadText")) (.ref (ga K "NoPlan")) = some false
  em_BadText_TooLarge : PySem.W.exmOne K (.ref (ga K "BadText")) (.ref (ga K "TooLarge")) = some false
  ki_BadText_TooLarge : PySem.W.kitOne K (.ref (ga K "BadText")) (.ref (ga K "TooLarge")) = some false
  kv_BadText : PySem.W.kitOne K (.ref (ga K "BadText")) (.type "ValueError") = some true
  xc_BadRatio : ExcC K (ga K "BadRatio")
  em_BadRatio_LossError : PySem.W.exmOne K (.ref (ga K "BadRatio")) (.ref (ga K "LossError")) = some true
  ki_BadRatio_LossError : PySem.W.kitOne K (.ref (ga K "BadRatio")) (.ref (ga K "LossError")) = some true
  em_BadRatio_BadText : PySem.W.exmOne K (.ref (ga K "BadRatio")) (.ref (ga K "BadText")) = some false
  ki_BadRatio_BadText : PySem.W.kitOne K (.ref (ga K "BadRatio")) (.ref (ga K "BadText")) = some false
  em_BadRatio_BadRatio : PySem.W.exmOne K (.ref (ga K "BadRatio")) (.ref (ga K "BadRatio")) = some true
  ki_BadRatio_BadRatio : PySem.W.kitOne K (.ref (ga K "BadRatio")) (.ref (ga K "BadRatio")) = some true
  em_BadRatio_BadPlan : PySem.W.exmOne K (.ref (ga K "BadRatio")) (.ref (ga K "BadPlan")) = some false
  ki_BadRatio_BadPlan : PySem.W.kitOne K (.ref (ga K "BadRatio")) (.ref (ga K "BadPlan")) = some false
  em_BadRatio_BadPaper : PySem.W.exmOne K (.ref (ga K "BadRatio")) (.ref (ga K "BadPaper")) = some false
  ki_BadRatio_BadPaper : PySem.W.kitOne K (.ref (ga K "BadRatio")) (.ref (ga K "BadPaper")) = some false
  em_BadRatio_NoShare : PySem.W.exmOne K (.ref (ga K "BadRatio")) (.ref (ga K "NoShare")) = some false
  ki_BadRatio_NoShare : PySem.W.kitOne K (.ref (ga K "BadRatio")) (.ref (ga K "NoShare")) = some false
  em_BadRatio_NoPlan : PySem.W.exmOne K (.ref (ga K "BadRatio")) (.ref (ga K "NoPlan")) = some false
  ki_BadRatio_NoPlan : PySem.W.kitOne K (.ref (ga K "BadRatio")) (.ref (ga K "NoPlan")) = some false
  em_BadRatio_TooLarge : PySem.W.exmOne K (.ref (ga K "BadRatio")) (.ref (ga K "TooLarge")) = some false
  ki_BadRatio_TooLarge : PySem.W.kitOne K (.ref (ga K "BadRatio")) (.ref (ga K "TooLarge")) = some false
  kv_BadRatio : PySem.W.kitOne K (.ref (ga K "BadRatio")) (.type "ValueError") = some true
  xc_BadPlan : ExcC K (ga K "BadPlan")
  em_BadPlan_LossError : PySem.W.exmOne K (.ref (ga K "BadPlan")) (.ref (ga K "LossError")) = some true
  ki_BadPlan_LossError : PySem.W.kitOne K (.ref (ga K "BadPlan")) (.ref (ga K "LossError")) = some true
  em_BadPlan_BadText : PySem.W.exmOne K (.ref (ga K "BadPlan")) (.ref (ga K "BadText")) = some false
  ki_BadPlan_BadText : PySem.W.kitOne K (.ref (ga K "BadPlan")) (.ref (ga K "BadText")) = some false
  em_BadPlan_BadRatio : PySem.W.exmOne K (.ref (ga K "BadPlan")) (.ref (ga K "BadRatio")) = some false
  ki_BadPlan_BadRatio : PySem.W.kitOne K (.ref (ga K "BadPlan")) (.ref (ga K "BadRatio")) = some false
  em_BadPlan_BadPlan : PySem.W.exmOne K (.ref (ga K "BadPlan")) (.ref (ga K "BadPlan")) = some true
  ki_BadPlan_BadPlan : PySem.W.kitOne K (.ref (ga K "BadPlan")) (.ref (ga K "BadPlan")) = some true
  em_BadPlan_BadPaper : PySem.W.exmOne K (.ref (ga K "BadPlan")) (.ref (ga K "BadPaper")) = some false
  ki_BadPlan_BadPaper : PySem.W.kitOne K (.ref (ga K "BadPlan")) (.ref (ga K "BadPaper")) = some false
  em_BadPlan_NoShare : PySem.W.exmOne K (.ref (ga K "BadPlan")) (.ref (ga K "NoShare")) = some false
  ki_BadPlan_NoShare : PySem.W.kitOne K (.ref (ga K "BadPlan")) (.ref (ga K "NoShare")) = some false
  em_BadPlan_NoPlan : PySem.W.exmOne K (.ref (ga K "BadPlan")) (.ref (ga K "NoPlan")) = some false
  ki_BadPlan_NoPlan : PySem.W.kitOne K (.ref (ga K "BadPlan")) (.ref (ga K "NoPlan")) = some false
  em_BadPlan_TooLarge : PySem.W.exmOne K (.ref (ga K "BadPlan")) (.ref (ga K "TooLarge")) = some false
  ki_BadPlan_TooLarge : PySem.W.kitOne K (.ref (ga K "BadPlan")) (.ref (ga K "TooLarge")) = some false
  kv_BadPlan : PySem.W.kitOne K (.ref (ga K "BadPlan")) (.type "ValueError") = some true
  xc_BadPaper : ExcC K (ga K "BadPaper")
  em_BadPaper_LossError : PySem.W.exmOne K (.ref (ga K "BadPaper")) (.ref (ga K "LossError")) = some true
  ki_BadPaper_LossError : PySem.W.kitOne K (.ref (ga K "BadPaper")) (.ref (ga K "LossError")) = some true
  em_BadPaper_BadText : PySem.W.exmOne K (.ref (ga K "BadPaper")) (.ref (ga K "BadText")) = some false
  ki_BadPaper_BadText : PySem.W.kitOne K (.ref (ga K "BadPaper")) (.ref (ga K "BadText")) = some false
  em_BadPaper_BadRatio : PySem.W.exmOne K (.ref (ga K "BadPaper")) (.ref (ga K "BadRatio")) = some false
  ki_BadPaper_BadRatio : PySem.W.kitOne K (.ref (ga K "BadPaper")) (.ref (ga K "BadRatio")) = some false
  em_BadPaper_BadPlan : PySem.W.exmOne K (.ref (ga K "BadPaper")) (.ref (ga K "BadPlan")) = some false
  ki_BadPaper_BadPlan : PySem.W.kitOne K (.ref (ga K "BadPaper")) (.ref (ga K "BadPlan")) = some false
  em_BadPaper_BadPaper : PySem.W.exmOne K (.ref (ga K "BadPaper")) (.ref (ga K "BadPaper")) = some true
  ki_BadPaper_BadPaper : PySem.W.kitOne K (.ref (ga K "BadPaper")) (.ref (ga K "BadPaper")) = some true
  em_BadPaper_NoShare : PySem.W.exmOne K (.ref (ga K "BadPaper")) (.ref (ga K "NoShare")) = some false
  ki_BadPaper_NoShare : PySem.W.kitOne K (.ref (ga K "BadPaper")) (.ref (ga K "NoShare")) = some false
  em_BadPaper_NoPlan : PySem.W.exmOne K (.ref (ga K "BadPaper")) (.ref (ga K "NoPlan")) = some false
  ki_BadPaper_NoPlan : PySem.W.kitOne K (.ref (ga K "BadPaper")) (.ref (ga K "NoPlan")) = some false
  em_BadPaper_TooLarge : PySem.W.exmOne K (.ref (ga K "BadPaper")) (.ref (ga K "TooLarge")) = some false
  ki_BadPaper_TooLarge : PySem.W.kitOne K (.ref (ga K "BadPaper")) (.ref (ga K "TooLarge")) = some false
  kv_BadPaper : PySem.W.kitOne K (.ref (ga K "BadPaper")) (.type "ValueError") = some true
  xc_NoShare : ExcC K (ga K "NoShare")
  em_NoShare_LossError : PySem.W.exmOne K (.ref (ga K "NoShare")) (.ref (ga K "LossError")) = some true
  ki_NoShare_LossError : PySem.W.kitOne K (.ref (ga K "NoShare")) (.ref (ga K "LossError")) = some true
  em_NoShare_BadText : PySem.W.exmOne K (.ref (ga K "NoShare")) (.ref (ga K "BadText")) = some false
  ki_NoShare_BadText : PySem.W.kitOne K (.ref (ga K "NoShare")) (.ref (ga K "BadText")) = some false
  em_NoShare_BadRatio : PySem.W.exmOne K (.ref (ga K "NoShare")) (.ref (ga K "BadRatio")) = some false
  ki_NoShare_BadRatio : PySem.W.kitOne K (.ref (ga K "NoShare")) (.ref (ga K "BadRatio")) = some false
  em_NoShare_BadPlan : PySem.W.exmOne K (.ref (ga K "NoShare")) (.ref (ga K "BadPlan")) = some false
  ki_NoShare_BadPlan : PySem.W.kitOne K (.ref (ga K "NoShare")) (.ref (ga K "BadPlan")) = some false
  em_NoShare_BadPaper : PySem.W.exmOne K (.ref (ga K "NoShare")) (.ref (ga K "BadPaper")) = some false
  ki_NoShare_BadPaper : PySem.W.kitOne K (.ref (ga K "NoShare")) (.ref (ga K "BadPaper")) = some false
  em_NoShare_NoShare : PySem.W.exmOne K (.ref (ga K "NoShare")) (.ref (ga K "NoShare")) = some true
  ki_NoShare_NoShare : PySem.W.kitOne K (.ref (ga K "NoShare")) (.ref (ga K "NoShare")) = some true
  em_NoShare_NoPlan : PySem.W.exmOne K (.ref (ga K "NoShare")) (.ref (ga K "NoPlan")) = some false
  ki_NoShare_NoPlan : PySem.W.kitOne K (.ref (ga K "NoShare")) (.ref (ga K "NoPlan")) = some false
  em_NoShare_TooLarge : PySem.W.exmOne K (.ref (ga K "NoShare")) (.ref (ga K "TooLarge")) = some false
  ki_NoShare_TooLarge : PySem.W.kitOne K (.ref (ga K "NoShare")) (.ref (ga K "TooLarge")) = some false
  kv_NoShare : PySem.W.kitOne K (.ref (ga K "NoShare")) (.type "ValueError") = some true
  xc_NoPlan : ExcC K (ga K "NoPlan")
  em_NoPlan_LossError : PySem.W.exmOne K (.ref (ga K "NoPlan")) (.ref (ga K "LossError")) = some true
  ki_NoPlan_LossError : PySem.W.kitOne K (.ref (ga K "NoPlan")) (.ref (ga K "LossError")) = some true
  em_NoPlan_BadText : PySem.W.exmOne K (.ref (ga K "NoPlan")) (.ref (ga K "BadText")) = some false
  ki_NoPlan_BadText : PySem.W.kitOne K (.ref (ga K "NoPlan")) (.ref (ga K "BadText")) = some false
  em_NoPlan_BadRatio : PySem.W.exmOne K (.ref (ga K "NoPlan")) (.ref (ga K "BadRatio")) = some false
  ki_NoPlan_BadRatio : PySem.W.kitOne K (.ref (ga K "NoPlan")) (.ref (ga K "BadRatio")) = some false
  em_NoPlan_BadPlan : PySem.W.exmOne K (.ref (ga K "NoPlan")) (.ref (ga K "BadPlan")) = some false
  ki_NoPlan_BadPlan : PySem.W.kitOne K (.ref (ga K "NoPlan")) (.ref (ga K "BadPlan")) = some false
  em_NoPlan_BadPaper : PySem.W.exmOne K (.ref (ga K "NoPlan")) (.ref (ga K "BadPaper")) = some false
  ki_NoPlan_BadPaper : PySem.W.kitOne K (.ref (ga K "NoPlan")) (.ref (ga K "BadPaper")) = some false
  em_NoPlan_NoShare : PySem.W.exmOne K (.ref (ga K "NoPlan")) (.ref (ga K "NoShare")) = some false
  ki_NoPlan_NoShare : PySem.W.kitOne K (.ref (ga K "NoPlan")) (.ref (ga K "NoShare")) = some false
  em_NoPlan_NoPlan : PySem.W.exmOne K (.ref (ga K "NoPlan")) (.ref (ga K "NoPlan")) = some true
  ki_NoPlan_NoPlan : PySem.W.kitOne K (.ref (ga K "NoPlan")) (.ref (ga K "NoPlan")) = some true
  em_NoPlan_TooLarge : PySem.W.exmOne K (.ref (ga K "NoPlan")) (.ref (ga K "TooLarge")) = some false
  ki_NoPlan_TooLarge : PySem.W.kitOne K (.ref (ga K "NoPlan")) (.ref (ga K "TooLarge")) = some false
  kv_NoPlan : PySem.W.kitOne K (.ref (ga K "NoPlan")) (.type "ValueError") = some true
  xc_TooLarge : ExcC K (ga K "TooLarge")
  em_TooLarge_LossError : PySem.W.exmOne K (.ref (ga K "TooLarge")) (.ref (ga K "LossError")) = some true
  ki_TooLarge_LossError : PySem.W.kitOne K (.ref (ga K "TooLarge")) (.ref (ga K "LossError")) = some true
  em_TooLarge_BadText : PySem.W.exmOne K (.ref (ga K "TooLarge")) (.ref (ga K "BadText")) = some false
  ki_TooLarge_BadText : PySem.W.kitOne K (.ref (ga K "TooLarge")) (.ref (ga K "BadText")) = some false
  em_TooLarge_BadRatio : PySem.W.exmOne K (.ref (ga K "TooLarge")) (.ref (ga K "BadRatio")) = some false
  ki_TooLarge_BadRatio : PySem.W.kitOne K (.ref (ga K "TooLarge")) (.ref (ga K "BadRatio")) = some false
  em_TooLarge_BadPlan : PySem.W.exmOne K (.ref (ga K "TooLarge")) (.ref (ga K "BadPlan")) = some false
  ki_TooLarge_BadPlan : PySem.W.kitOne K (.ref (ga K "TooLarge")) (.ref (ga K "BadPlan")) = some false
  em_TooLarge_BadPaper : PySem.W.exmOne K (.ref (ga K "TooLarge")) (.ref (ga K "BadPaper")) = some false
  ki_TooLarge_BadPaper : PySem.W.kitOne K (.ref (ga K "TooLarge")) (.ref (ga K "BadPaper")) = some false
  em_TooLarge_NoShare : PySem.W.exmOne K (.ref (ga K "TooLarge")) (.ref (ga K "NoShare")) = some false
  ki_TooLarge_NoShare : PySem.W.kitOne K (.ref (ga K "TooLarge")) (.ref (ga K "NoShare")) = some false
  em_TooLarge_NoPlan : PySem.W.exmOne K (.ref (ga K "TooLarge")) (.ref (ga K "NoPlan")) = some false
  ki_TooLarge_NoPlan : PySem.W.kitOne K (.ref (ga K "TooLarge")) (.ref (ga K "NoPlan")) = some false
  em_TooLarge_TooLarge : PySem.W.exmOne K (.ref (ga K "TooLarge")) (.ref (ga K "TooLarge")) = some true
  ki_TooLarge_TooLarge : PySem.W.kitOne K (.ref (ga K "TooLarge")) (.ref (ga K "TooLarge")) = some true
  kv_TooLarge : PySem.W.kitOne K (.ref (ga K "TooLarge")) (.type "ValueError") = some true
theorem txt_of {w : World} {K : PySem.W.Frag} {h : Heap} {mg : Str → Option Value} (X : K.In h) (G : h.Ns mainGlobals mg) (c : He.SaysX fa fn tabs [] exB w h K) : Txt K mg where
  d_Ratio_init := He.SaysD.def_ c.t.d 0 (d := d_Ratio_init) rfl
  d_Ratio_add := He.SaysD.def_ c.t.d 1 (d := d_Ratio_add) rfl
  d_Ratio_sub := He.SaysD.def_ c.t.d 2 (d := d_Ratio_sub) rfl
  d_Ratio_mul := He.SaysD.def_ c.t.d 3 (d := d_Ratio_mul) rfl
  d_Ratio_eq := He.SaysD.def_ c.t.d 4 (d := d_Ratio_eq) rfl
  d_Ratio_str := He.SaysD.def_ c.t.d 5 (d := d_Ratio_str) rfl
  d_Ratio_less := He.SaysD.def_ c.t.d 6 (d := d_Ratio_less) rfl
  d_Ratio_over := He.SaysD.def_ c.t.d 7 (d := d_Ratio_over) rfl
  d_l_pool := He.SaysD.def_ c.t.d 8 (d := d_l_pool) rfl
  d_l_draw := He.SaysD.def_ c.t.d 9 (d := d_l_draw) rfl
  d_l_same := He.SaysD.def_ c.t.d 10 (d := d_l_same) rfl
  d_l_less := He.SaysD.def_ c.t.d 11 (d := d_l_less) rfl
  d_l_plus := He.SaysD.def_ c.t.d 12 (d := d_l_plus) rfl
  d_l_minus := He.SaysD.def_ c.t.d 13 (d := d_l_minus) rfl
  d_l_times := He.SaysD.def_ c.t.d 14 (d := d_l_times) rfl
  d_l_below := He.SaysD.def_ c.t.d 15 (d := d_l_below) rfl
  d_l_is := He.SaysD.def_ c.t.d 16 (d := d_l_is) rfl
  d_l_refused := He.SaysD.def_ c.t.d 17 (d := d_l_refused) rfl
  d_l_pair := He.SaysD.def_ c.t.d 18 (d := d_l_pair) rfl
  d_law := He.SaysD.def_ c.t.d 19 (d := d_law) rfl
  g_l_pool := He.glo_ok X G (He.SaysD.fact c.t.d 0 (f := .glo "_law_pool") rfl)
  g_l_draw := He.glo_ok X G (He.SaysD.fact c.t.d 1 (f := .glo "_law_draw") rfl)
  g_l_same := He.glo_ok X G (He.SaysD.fact c.t.d 2 (f := .glo "_law_same") rfl)
  g_l_less := He.glo_ok X G (He.SaysD.fact c.t.d 3 (f := .glo "_law_less") rfl)
  g_l_plus := He.glo_ok X G (He.SaysD.fact c.t.d 4 (f := .glo "_law_plus") rfl)
  g_l_minus := He.glo_ok X G (He.SaysD.fact c.t.d 5 (f := .glo "_law_minus") rfl)
  g_l_times := He.glo_ok X G (He.SaysD.fact c.t.d 6 (f := .glo "_law_times") rfl)
  g_l_below := He.glo_ok X G (He.SaysD.fact c.t.d 7 (f := .glo "_law_below") rfl)
  g_l_is := He.glo_ok X G (He.SaysD.fact c.t.d 8 (f := .glo "_law_is") rfl)
  g_l_refused := He.glo_ok X G (He.SaysD.fact c.t.d 9 (f := .glo "_law_refused") rfl)
  g_l_pair := He.glo_ok X G (He.SaysD.fact c.t.d 10 (f := .glo "_law_pair") rfl)
  g_law := He.glo_ok X G (He.SaysD.fact c.t.d 11 (f := .glo "law") rfl)
  g_LossError := He.glo_ok X G (He.SaysD.fact c.t.d 12 (f := .glo "LossError") rfl)
  x_LossError := He.exc_ok (He.SaysD.fact c.t.d 13 (f := .exc "LossError") rfl)
  g_BadText := He.glo_ok X G (He.SaysD.fact c.t.d 14 (f := .glo "BadText") rfl)
  g_BadRatio := He.glo_ok X G (He.SaysD.fact c.t.d 15 (f := .glo "BadRatio") rfl)
  x_BadRatio := He.exc_ok (He.SaysD.fact c.t.d 16 (f := .exc "BadRatio") rfl)
  g_BadPlan := He.glo_ok X G (He.SaysD.fact c.t.d 17 (f := .glo "BadPlan") rfl)
  g_BadPaper := He.glo_ok X G (He.SaysD.fact c.t.d 18 (f := .glo "BadPaper") rfl)
  g_NoShare := He.glo_ok X G (He.SaysD.fact c.t.d 19 (f := .glo "NoShare") rfl)
  g_NoPlan := He.glo_ok X G (He.SaysD.fact c.t.d 20 (f := .glo "NoPlan") rfl)
  g_TooLarge := He.glo_ok X G (He.SaysD.fact c.t.d 21 (f := .glo "TooLarge") rfl)
  g_Ratio := He.glo_ok X G (He.SaysD.fact c.t.d 22 (f := .glo "Ratio") rfl)
  c_Ratio := He.cls_ok (He.SaysD.fact c.t.d 23 (f := .cls "Ratio") rfl)
  m_Ratio := He.mkr_ok (He.SaysD.fact c.t.d 24 (f := .mkr "Ratio") rfl)
  a_Ratio_num := He.noat_ok (He.SaysD.fact c.t.d 25 (f := .noat "Ratio" "num") rfl)
  a_Ratio_den := He.noat_ok (He.SaysD.fact c.t.d 26 (f := .noat "Ratio" "den") rfl)
  t_Ratio_add := He.meth_ok (He.SaysD.fact c.t.d 27 (f := .meth "Ratio" "__add__") rfl)
  t_Ratio_sub := He.meth_ok (He.SaysD.fact c.t.d 28 (f := .meth "Ratio" "__sub__") rfl)
  t_Ratio_mul := He.meth_ok (He.SaysD.fact c.t.d 29 (f := .meth "Ratio" "__mul__") rfl)
  t_Ratio_eq := He.meth_ok (He.SaysD.fact c.t.d 30 (f := .meth "Ratio" "__eq__") rfl)
  t_Ratio_str := He.meth_ok (He.SaysD.fact c.t.d 31 (f := .meth "Ratio" "__str__") rfl)
  t_Ratio_less := He.meth_ok (He.SaysD.fact c.t.d 32 (f := .meth "Ratio" "less") rfl)
  t_Ratio_over := He.meth_ok (He.SaysD.fact c.t.d 33 (f := .meth "Ratio" "over") rfl)
  f_ValueError := He.free_ok X G (He.SaysD.fact c.t.d 34 (f := .free "ValueError") rfl)
  f_isinstance := He.free_ok X G (He.SaysD.fact c.t.d 35 (f := .free "isinstance") rfl)
  f_int := He.free_ok X G (He.SaysD.fact c.t.d 36 (f := .free "int") rfl)
  f_abs := He.free_ok X G (He.SaysD.fact c.t.d 37 (f := .free "abs") rfl)
  f_range := He.free_ok X G (He.SaysD.fact c.t.d 38 (f := .free "range") rfl)
  f_list := He.free_ok X G (He.SaysD.fact c.t.d 39 (f := .free "list") rfl)
  f_tuple := He.free_ok X G (He.SaysD.fact c.t.d 40 (f := .free "tuple") rfl)
  f_bool := He.free_ok X G (He.SaysD.fact c.t.d 41 (f := .free "bool") rfl)
  f_str := He.free_ok X G (He.SaysD.fact c.t.d 42 (f := .free "str") rfl)
  f_len := He.free_ok X G (He.SaysD.fact c.t.d 43 (f := .free "len") rfl)
  f_super := He.free_ok X G (He.SaysD.fact c.t.d 44 (f := .free "super") rfl)
  oc_Ratio := eqO_ok (exB_at c.more 0 rfl)
  nf_Ratio := (exB_at c.more 1 rfl)
  om_Ratio := of_decide_eq_true (exB_at c.more 2 rfl)
  ki_Ratio_tuple := of_decide_eq_true (exB_at c.more 3 rfl)
  ki_Ratio_list := of_decide_eq_true (exB_at c.more 4 rfl)
  ki_Ratio_bool := of_decide_eq_true (exB_at c.more 5 rfl)
  ki_Ratio_int := of_decide_eq_true (exB_at c.more 6 rfl)
  ki_Ratio_str := of_decide_eq_true (exB_at c.more 7 rfl)
  ki_Ratio_Ratio := of_decide_eq_true (exB_at c.more 8 rfl)
  of_Ratio := eqO_ok (exB_at c.more 9 rfl)
  sf_Ratio := (exB_at c.more 10 rfl)
  og := eqO_ok (exB_at c.more 11 rfl)
  ot := of_decide_eq_true (exB_at c.more 12 rfl)
  xc_LossError := excB_ok (exB_at c.more 13 rfl)
  em_LossError_LossError := of_decide_eq_true (exB_at c.more 14 rfl)
  ki_LossError_LossError := of_decide_eq_true (exB_at c.more 15 rfl)
  em_LossError_BadText := of_decide_eq_true (exB_at c.more 16 rfl)
  ki_LossError_BadText := of_decide_eq_true (exB_at c.more 17 rfl)
  em_LossError_BadRatio := of_decide_eq_true (exB_at c.more 18 rfl)
  ki_LossError_BadRatio := of_decide_eq_true (exB_at c.more 19 rfl)
  em_LossError_BadPlan := of_decide_eq_true (exB_at c.more 20 rfl)
  ki_LossError_BadPlan := of_decide_eq_true (exB_at c.more 21 rfl)
  em_LossError_BadPaper := of_decide_eq_true (exB_at c.more 22 rfl)
  ki_LossError_BadPaper := of_decide_eq_true (exB_at c.more 23 rfl)
  em_LossError_NoShare := of_decide_eq_true (exB_at c.more 24 rfl)
  ki_LossError_NoShare := of_decide_eq_true (exB_at c.more 25 rfl)
  em_LossError_NoPlan := of_decide_eq_true (exB_at c.more 26 rfl)
  ki_LossError_NoPlan := of_decide_eq_true (exB_at c.more 27 rfl)
  em_LossError_TooLarge := of_decide_eq_true (exB_at c.more 28 rfl)
  ki_LossError_TooLarge := of_decide_eq_true (exB_at c.more 29 rfl)
  kv_LossError := of_decide_eq_true (exB_at c.more 30 rfl)
  xc_BadText := excB_ok (exB_at c.more 31 rfl)
  em_BadText_LossError := of_decide_eq_true (exB_at c.more 32 rfl)
  ki_BadText_LossError := of_decide_eq_true (exB_at c.more 33 rfl)
  em_BadText_BadText := of_decide_eq_true (exB_at c.more 34 rfl)
  ki_BadText_BadText := of_decide_eq_true (exB_at c.more 35 rfl)
  em_BadText_BadRatio := of_decide_eq_true (exB_at c.more 36 rfl)
  ki_BadText_BadRatio := of_decide_eq_true (exB_at c.more 37 rfl)
  em_BadText_BadPlan := of_decide_eq_true (exB_at c.more 38 rfl)
  ki_BadText_BadPlan := of_decide_eq_true (exB_at c.more 39 rfl)
  em_BadText_BadPaper := of_decide_eq_true (exB_at c.more 40 rfl)
  ki_BadText_BadPaper := of_decide_eq_true (exB_at c.more 41 rfl)
  em_BadText_NoShare := of_decide_eq_true (exB_at c.more 42 rfl)
  ki_BadText_NoShare := of_decide_eq_true (exB_at c.more 43 rfl)
  em_BadText_NoPlan := of_decide_eq_true (exB_at c.more 44 rfl)
  ki_BadText_NoPlan := of_decide_eq_true (exB_at c.more 45 rfl)
  em_BadText_TooLarge := of_decide_eq_true (exB_at c.more 46 rfl)
  ki_BadText_TooLarge := of_decide_eq_true (exB_at c.more 47 rfl)
  kv_BadText := of_decide_eq_true (exB_at c.more 48 rfl)
  xc_BadRatio := excB_ok (exB_at c.more 49 rfl)
  em_BadRatio_LossError := of_decide_eq_true (exB_at c.more 50 rfl)
  ki_BadRatio_LossError := of_decide_eq_true (exB_at c.more 51 rfl)
  em_BadRatio_BadText := of_decide_eq_true (exB_at c.more 52 rfl)
  ki_BadRatio_BadText := of_decide_eq_true (exB_at c.more 53 rfl)
  em_BadRatio_BadRatio := of_decide_eq_true (exB_at c.more 54 rfl)
  ki_BadRatio_BadRatio := of_decide_eq_true (exB_at c.more 55 rfl)
  em_BadRatio_BadPlan := of_decide_eq_true (exB_at c.more 56 rfl)
  ki_BadRatio_BadPlan := of_decide_eq_true (exB_at c.more 57 rfl)
  em_BadRatio_BadPaper := of_decide_eq_true (exB_at c.more 58 rfl)
  ki_BadRatio_BadPaper := of_decide_eq_true (exB_at c.more 59 rfl)
  em_BadRatio_NoShare := of_decide_eq_true (exB_at c.more 60 rfl)
  ki_BadRatio_NoShare := of_decide_eq_true (exB_at c.more 61 rfl)
  em_BadRatio_NoPlan := of_decide_eq_true (exB_at c.more 62 rfl)
  ki_BadRatio_NoPlan := of_decide_eq_true (exB_at c.more 63 rfl)
  em_BadRatio_TooLarge := of_decide_eq_true (exB_at c.more 64 rfl)
  ki_BadRatio_TooLarge := of_decide_eq_true (exB_at c.more 65 rfl)
  kv_BadRatio := of_decide_eq_true (exB_at c.more 66 rfl)
  xc_BadPlan := excB_ok (exB_at c.more 67 rfl)
  em_BadPlan_LossError := of_decide_eq_true (exB_at c.more 68 rfl)
  ki_BadPlan_LossError := of_decide_eq_true (exB_at c.more 69 rfl)
  em_BadPlan_BadText := of_decide_eq_true (exB_at c.more 70 rfl)
  ki_BadPlan_BadText := of_decide_eq_true (exB_at c.more 71 rfl)
  em_BadPlan_BadRatio := of_decide_eq_true (exB_at c.more 72 rfl)
  ki_BadPlan_BadRatio := of_decide_eq_true (exB_at c.more 73 rfl)
  em_BadPlan_BadPlan := of_decide_eq_true (exB_at c.more 74 rfl)
  ki_BadPlan_BadPlan := of_decide_eq_true (exB_at c.more 75 rfl)
  em_BadPlan_BadPaper := of_decide_eq_true (exB_at c.more 76 rfl)
  ki_BadPlan_BadPaper := of_decide_eq_true (exB_at c.more 77 rfl)
  em_BadPlan_NoShare := of_decide_eq_true (exB_at c.more 78 rfl)
  ki_BadPlan_NoShare := of_decide_eq_true (exB_at c.more 79 rfl)
  em_BadPlan_NoPlan := of_decide_eq_true (exB_at c.more 80 rfl)
  ki_BadPlan_NoPlan := of_decide_eq_true (exB_at c.more 81 rfl)
  em_BadPlan_TooLarge := of_decide_eq_true (exB_at c.more 82 rfl)
  ki_BadPlan_TooLarge := of_decide_eq_true (exB_at c.more 83 rfl)
  kv_BadPlan := of_decide_eq_true (exB_at c.more 84 rfl)
  xc_BadPaper := excB_ok (exB_at c.more 85 rfl)
  em_BadPaper_LossError := of_decide_eq_true (exB_at c.more 86 rfl)
  ki_BadPaper_LossError := of_decide_eq_true (exB_at c.more 87 rfl)
  em_BadPaper_BadText := of_decide_eq_true (exB_at c.more 88 rfl)
  ki_BadPaper_BadText := of_decide_eq_true (exB_at c.more 89 rfl)
  em_BadPaper_BadRatio := of_decide_eq_true (exB_at c.more 90 rfl)
  ki_BadPaper_BadRatio := of_decide_eq_true (exB_at c.more 91 rfl)
  em_BadPaper_BadPlan := of_decide_eq_true (exB_at c.more 92 rfl)
  ki_BadPaper_BadPlan := of_decide_eq_true (exB_at c.more 93 rfl)
  em_BadPaper_BadPaper := of_decide_eq_true (exB_at c.more 94 rfl)
  ki_BadPaper_BadPaper := of_decide_eq_true (exB_at c.more 95 rfl)
  em_BadPaper_NoShare := of_decide_eq_true (exB_at c.more 96 rfl)
  ki_BadPaper_NoShare := of_decide_eq_true (exB_at c.more 97 rfl)
  em_BadPaper_NoPlan := of_decide_eq_true (exB_at c.more 98 rfl)
  ki_BadPaper_NoPlan := of_decide_eq_true (exB_at c.more 99 rfl)
  em_BadPaper_TooLarge := of_decide_eq_true (exB_at c.more 100 rfl)
  ki_BadPaper_TooLarge := of_decide_eq_true (exB_at c.more 101 rfl)
  kv_BadPaper := of_decide_eq_true (exB_at c.more 102 rfl)
  xc_NoShare := excB_ok (exB_at c.more 103 rfl)
  em_NoShare_LossError := of_decide_eq_true (exB_at c.more 104 rfl)
  ki_NoShare_LossError := of_decide_eq_true (exB_at c.more 105 rfl)
  em_NoShare_BadText := of_decide_eq_true (exB_at c.more 106 rfl)
  ki_NoShare_BadText := of_decide_eq_true (exB_at c.more 107 rfl)
  em_NoShare_BadRatio := of_decide_eq_true (exB_at c.more 108 rfl)
  ki_NoShare_BadRatio := of_decide_eq_true (exB_at c.more 109 rfl)
  em_NoShare_BadPlan := of_decide_eq_true (exB_at c.more 110 rfl)
  ki_NoShare_BadPlan := of_decide_eq_true (exB_at c.more 111 rfl)
  em_NoShare_BadPaper := of_decide_eq_true (exB_at c.more 112 rfl)
  ki_NoShare_BadPaper := of_decide_eq_true (exB_at c.more 113 rfl)
  em_NoShare_NoShare := of_decide_eq_true (exB_at c.more 114 rfl)
  ki_NoShare_NoShare := of_decide_eq_true (exB_at c.more 115 rfl)
  em_NoShare_NoPlan := of_decide_eq_true (exB_at c.more 116 rfl)
  ki_NoShare_NoPlan := of_decide_eq_true (exB_at c.more 117 rfl)
  em_NoShare_TooLarge := of_decide_eq_true (exB_at c.more 118 rfl)
  ki_NoShare_TooLarge := of_decide_eq_true (exB_at c.more 119 rfl)
  kv_NoShare := of_decide_eq_true (exB_at c.more 120 rfl)
  xc_NoPlan := excB_ok (exB_at c.more 121 rfl)
  em_NoPlan_LossError := of_decide_eq_true (exB_at c.more 122 rfl)
  ki_NoPlan_LossError := of_decide_eq_true (exB_at c.more 123 rfl)
  em_NoPlan_BadText := of_decide_eq_true (exB_at c.more 124 rfl)
  ki_NoPlan_BadText := of_decide_eq_true (exB_at c.more 125 rfl)
  em_NoPlan_BadRatio := of_decide_eq_true (exB_at c.more 126 rfl)
  ki_NoPlan_BadRatio := of_decide_eq_true (exB_at c.more 127 rfl)
  em_NoPlan_BadPlan := of_decide_eq_true (exB_at c.more 128 rfl)
  ki_NoPlan_BadPlan := of_decide_eq_true (exB_at c.more 129 rfl)
  em_NoPlan_BadPaper := of_decide_eq_true (exB_at c.more 130 rfl)
  ki_NoPlan_BadPaper := of_decide_eq_true (exB_at c.more 131 rfl)
  em_NoPlan_NoShare := of_decide_eq_true (exB_at c.more 132 rfl)
  ki_NoPlan_NoShare := of_decide_eq_true (exB_at c.more 133 rfl)
  em_NoPlan_NoPlan := of_decide_eq_true (exB_at c.more 134 rfl)
  ki_NoPlan_NoPlan := of_decide_eq_true (exB_at c.more 135 rfl)
  em_NoPlan_TooLarge := of_decide_eq_true (exB_at c.more 136 rfl)
  ki_NoPlan_TooLarge := of_decide_eq_true (exB_at c.more 137 rfl)
  kv_NoPlan := of_decide_eq_true (exB_at c.more 138 rfl)
  xc_TooLarge := excB_ok (exB_at c.more 139 rfl)
  em_TooLarge_LossError := of_decide_eq_true (exB_at c.more 140 rfl)
  ki_TooLarge_LossError := of_decide_eq_true (exB_at c.more 141 rfl)
  em_TooLarge_BadText := of_decide_eq_true (exB_at c.more 142 rfl)
  ki_TooLarge_BadText := of_decide_eq_true (exB_at c.more 143 rfl)
  em_TooLarge_BadRatio := of_decide_eq_true (exB_at c.more 144 rfl)
  ki_TooLarge_BadRatio := of_decide_eq_true (exB_at c.more 145 rfl)
  em_TooLarge_BadPlan := of_decide_eq_true (exB_at c.more 146 rfl)
  ki_TooLarge_BadPlan := of_decide_eq_true (exB_at c.more 147 rfl)
  em_TooLarge_BadPaper := of_decide_eq_true (exB_at c.more 148 rfl)
  ki_TooLarge_BadPaper := of_decide_eq_true (exB_at c.more 149 rfl)
  em_TooLarge_NoShare := of_decide_eq_true (exB_at c.more 150 rfl)
  ki_TooLarge_NoShare := of_decide_eq_true (exB_at c.more 151 rfl)
  em_TooLarge_NoPlan := of_decide_eq_true (exB_at c.more 152 rfl)
  ki_TooLarge_NoPlan := of_decide_eq_true (exB_at c.more 153 rfl)
  em_TooLarge_TooLarge := of_decide_eq_true (exB_at c.more 154 rfl)
  ki_TooLarge_TooLarge := of_decide_eq_true (exB_at c.more 155 rfl)
  kv_TooLarge := of_decide_eq_true (exB_at c.more 156 rfl)
/-! ### the head's run -/
def names0 : List Str := ["LossError", "BadText", "BadRatio", "BadPlan", "BadPaper", "NoShare", "NoPlan", "TooLarge", "Ratio", "_law_pool", "_law_draw", "_law_same", "_law_less", "_law_plus", "_law_minus", "_law_times", "_law_below", "_law_is", "_law_refused", "_law_pair"]
def names : List Str := names0
abbrev R : PySem.W.OpenRow := PySem.W.OpenLaw.row PySem.Challenge.rw_lostleast_k00_fractions
abbrev lawAt : Nat := 23
abbrev hk : PySem.W.Hook := He.hookX 4 fa fn tabs [] exB
def ob (s : PySem.W.SharedT) : He.AlX := He.obsX 4 fa fn tabs [] exB (HandSHeadRun.getT s)
theorem ob_eq (s : PySem.W.SharedT) : ob s = hk.obs s.abs := He.obsX_eq (HandSHeadRun.getT_eq s)
theorem run (w : World) : HandSHeadRun.RunEq R (PySem.W.view R.prog [lawAt]) hk ob 60000 names w := by
  refine PySem.W.byRow2 "special-get-raises" (P := fun w => HandSHeadRun.RunEq R (PySem.W.view R.prog [lawAt]) hk ob 60000 names w) (fun w => ?_) (fun w => ?_) w <;>
    (intro os
     kernel_rfl)
end LL
namespace LL
open PySem PySem.Spec PyProof.Rows L2 He
/-! ### rules of own operators, own str -/
section
variable {X : Cx} {CX : CXT} {n : Nat} {C g : Addr} {sp : Sp} {E : XK}
def rOwnB (C : Addr) (sp : Sp) (E : XK) : R2 := fun x y H Q => ∃ a dx fs b dy gs, x = .ref a ∧ y = .ref b ∧ H a = some (.ins C dx fs) ∧ H b = some (.ins C dy gs) ∧ sp [x, y] H Q E
theorem op_ownB {op : Operator} (hc : PySem.W.selfFirst X.K C = true) (hs : PySem.W.findIn X.K (.ref C) (PySem.dunder op.info.2) = some (some (.ref g))) (hf : PySem.W.isFn X.K (.ref g) = true) (F : FnR X.prog X.w X.K X.mg X.base CX n g sp)
    (hr : Room n X.A) (hx : Passes CX X E) : OpR X (binaryOp op) (rOwnB C sp E) := by
  intro pins s σ H x y v u Q I rx ry h
  obtain ⟨a, dx, fs, b, dy, gs, rfl, rfl, ha, hb, q⟩ := h
  cases (show v = Value.ref a from rx)
  cases (show u = Value.ref b from ry)
  obtain ⟨mA, O, _⟩ := ins_get I.hok ha
  obtain ⟨od, J, _⟩ := O.look
  obtain ⟨mB, O2, _⟩ := ins_get I.hok hb
  obtain ⟨od2, J2, _⟩ := O2.look
  obtain ⟨m, hF⟩ := I.fr
  refine PySem.W.binop_K hF I.ok.mod.kin J J2.type hc hs hf ?_
  refine wpAny_mono (wpAny_call (run_fnR (us := [.ref a, .ref b]) (vs := [.ref a, .ref b]) F hr hx I (.cons rfl (.cons rfl .nil)) q)) (fun w s' z => ?_) fun _ _ x => x
  obtain ⟨z', H', I', rz, qz⟩ := z
  exact SlX.cmpback rz ⟨z', H', I', rz, qz⟩
theorem op_ownC {op : CmpOp} (hop : ∀ a b, compareOp op a b = richCompare op a b) (hn : PySem.W.notFirst X.K C (.ref C) = true) (hs : PySem.W.findIn X.K (.ref C) (cmpInfo op).2.1 = some (some (.ref g))) (hf : PySem.W.isFn X.K (.ref g) = true) (F : FnR X.prog X.w X.K X.mg X.base CX n g sp)
    (hr : Room n X.A) (hx : Passes CX X E) : OpR X (compareOp op) (rOwnB C sp E) := by
  intro pins s σ H x y v u Q I rx ry h
  obtain ⟨a, dx, fs, b, dy, gs, rfl, rfl, ha, hb, q⟩ := h
  cases (show v = Value.ref a from rx)
  cases (show u = Value.ref b from ry)
  obtain ⟨mA, O, _⟩ := ins_get I.hok ha
  obtain ⟨od, J, _⟩ := O.look
  obtain ⟨mB, O2, _⟩ := ins_get I.hok hb
  obtain ⟨od2, J2, _⟩ := O2.look
  obtain ⟨m, hF⟩ := I.fr
  rw [hop]
  refine PySem.W.cmp_K (op := op) (tb := .ref C) hr.units0 hF I.ok.mod.kin J J2.type hn hs hf ?_
  refine wpAny_mono (wpAny_call (run_fnR (us := [.ref a, .ref b]) (vs := [.ref a, .ref b]) F hr hx I (.cons rfl (.cons rfl .nil)) q)) (fun w s' z => ?_) fun _ _ x => x
  obtain ⟨z', H', I', rz, qz⟩ := z
  exact SlX.cmpback rz ⟨z', H', I', rz, qz⟩
def rStrOwn (C : Addr) (sp : Sp) (E : XK) : List V → Hp → VK → Prop := fun xs H Q => ∃ a dx fs, xs = [.ref a] ∧ H a = some (.ins C dx fs) ∧ sp [.ref a] H (fun z H' => ∃ y, z = .str y ∧ Q (.str y) H') E
open Builtin Builtin.Str PySem.W in
theorem call_strOwn (hs : PySem.W.findIn X.K (.ref C) "__str__" = some (some (.ref g))) (hf : PySem.W.isFn X.K (.ref g) = true) (F : FnR X.prog X.w X.K X.mg X.base CX n g sp) (hr : Room (n + 2) X.A) (hx : Passes CX X E) : CallR X (.type "str") (rStrOwn C sp E) := by
  intro pins s σ H xs us Q I r h
  obtain ⟨a, dx, fs, rfl, ha, q⟩ := h
  obtain ⟨u, rfl, ru⟩ := r.one
  cases (show u = Value.ref a from ru)
  obtain ⟨mA, O, _⟩ := ins_get I.hok ha
  obtain ⟨od, J, _⟩ := O.look
  have hr2 : Room n X.A.in1.in1 := (show Room (n + 1) X.A.in1 from Room.in1 hr).in1
  refine callType_codes (T := "str") (Bi := Builtin.«object.__init__») (Q₁ := fun r s₁ => ∃ y u, r = .str y u ∧ EP X pins σ Q r s₁) PySem.F.called_str (PySem.F.typeCall_str_1 _) PySem.F.entry_object_init ?_ ?_
  · refine codeAny_of_tree ?_
    show wpAny _ X.A.in1.in1 (do checkBuiltinCall "str.__new__" ⟨[.type "str", .ref a], []⟩; again (.builtin "str.__new__" ⟨[.type "str", .ref a], []⟩)) _ _ s
    refine wpAny_bind (wpAny_of_eq (PySem.F.newCall_str_1 _) (wpAny_pure ⟨plainId_quiet (by decide +kernel) _, codeAny_builtin PySem.F.entry_str_new ?_⟩))
    rw [Around.under_plainId (by decide +kernel) _]
    rw [str_new_tree]
    refine wpAny_bind (wpAny_pure ?_)
    refine wpAny_bind (wpAny_of_eq isSubtype_str_str ?_)
    have key : wpAny (model X.prog X.w) X.A.in1.in1 (PySem.Builtin.Str.strOf (.ref a)) (fun r s₁ => ∃ y u, r = .str y u ∧ EP X pins σ Q r s₁) X.xe s := by
      unfold PySem.Builtin.Str.strOf
      rw [show isExactStr (.ref a) = false from rfl]
      refine wpAny_bind (m := cRoomFor _ _) (wpAny_cRoomFor hr2.units0 ?_)
      refine wpAny_bind (m := callSpecial? (.ref a) (Str.ofString "__str__")) (special_fn I.kIn J hs (beq_iff_eq.mp hf) (wpAny_mono (wpAny_call (SlX.run_at (us := [.ref a]) (ws := [.ref a]) F hr2 I.env0.in1.in1 hx I (.cons rfl .nil) q)) (fun r s' z => ?_) fun _ _ y => y))
      obtain ⟨z', H', I', rz, y, ez, qz⟩ := z
      subst ez
      obtain ⟨t, e⟩ := (show ∃ t, r = Value.str y t from rz)
      cases e
      exact wpAny_pure ⟨_, _, rfl, .str y, H', I', ⟨t, rfl⟩, qz⟩
    exact wpAny_bind (wpAny_mono key (fun r s₁ hr => wpAny_pure hr) fun _ _ y => y)
  · rintro obj s₁ ⟨y, u, rfl, hq⟩
    exact ⟨typeIs_str _ _ _, PySem.F.args_object_init_2 _ _, object_init_meets PySem.F.called_str.init.lookup PySem.F.called_str.made (by decide) X.prog X.w X.A.in1 _ s₁ ⟨typeIs_str _ _ _, rfl, hq⟩⟩
end
end LL
namespace LL
open PySem PySem.Spec PyProof.Rows L2 He
/-! ### Ratios over the heap -/
abbrev cR (K : PySem.W.Frag) : Addr := ga K "Ratio"
def rf (n d : Int) : List (Str × V) := [("num", .int n), ("den", .int d)]
theorem nd_ne : ¬ (("num" : Str) = "den") := by decide +kernel
theorem rf_put (n d : Int) : putF "den" (.int d) (putF "num" (.int n) []) = rf n d := by
  show (if ("num" : Str) = "den" then _ else (("num" : Str), V.int n) :: putF "den" (V.int d) []) = _
  rw [if_neg nd_ne] <;> rfl
theorem rf_num (n d : Int) : (rf n d).lookup ("num" : Str) = some (.int n) := by simp [rf, List.lookup]
theorem rf_den (n d : Int) : (rf n d).lookup ("den" : Str) = some (.int d) := by
  have h : (("den" : Str) == "num") = false := by decide +kernel
  simp [rf, List.lookup, h]
theorem rf_no (n d : Int) {m : Str} (h1 : (m == ("num" : Str)) = false) (h2 : (m == ("den" : Str)) = false) : (rf n d).lookup m = none := by
  simp [rf, List.lookup, h1, h2]
/-- v is the Ratio q -/
def RatAt (K : PySem.W.Frag) (H : Hp) (v : V) (q : Rat) : Prop := ∃ a dx, v = .ref a ∧ H a = some (.ins (cR K) dx (rf q.num q.den))
theorem RatAt.mono {K : PySem.W.Frag} {H H' : Hp} {v : V} {q : Rat} (e : Same H H') (h : RatAt K H v q) : RatAt K H' v q := by
  obtain ⟨a, dx, h1, h2⟩ := h
  exact ⟨a, dx, h1, e _ _ h2⟩
/-! ### Ratio(num, den) -/
def spRI (K : PySem.W.Frag) : Sp := fun vs H Q E => ∃ (p dx : Addr) (n d : Int), vs = [.ref p, .int n, .int d] ∧ H p = some (.ins (cR K) dx []) ∧
  (d < 1 → E (.ref (ga K "BadRatio")) none H) ∧ (0 < d → d.natAbs < 2 ^ 9000 ∧ Q .non (upd H p (.ins (cR K) dx (rf (mkRat n d.toNat).num (mkRat n d.toNat).den))))
section
variable {P : Program} {w : World} {K : PySem.W.Frag} {mg : Str → Option Value} {base : Heap}
abbrev Fn (P : Program) (w : World) (K : PySem.W.Frag) (mg : Str → Option Value) (base : Heap) (k : Nat) (f : Addr) (sp : Sp) : Prop := FnR P w K mg base (L2.CX P w) k f sp
theorem gcd_turn (l r : Nat) : Nat.gcd r (l % r) = Nat.gcd l r := by rw [Nat.gcd_comm l r, Nat.gcd_rec r l, Nat.gcd_comm]
theorem ok_RI (T : Txt K mg) : ∃ fd, FunD K "__init__" "Ratio.__init__" (defArgs s_Ratio_init) (defBody s_Ratio_init) (defScope s_Ratio_init) (List.map (He.Dv.v K) [.int 1]) [] (ma K (cR K) "__init__") fd ∧
    FnOk P w K mg base (L2.CX P w) 1 (ma K (cR K) "__init__") fd ["self", "num", "den"] (spRI K) := by
  obtain ⟨fd, F⟩ := T.d_Ratio_init
  refine ⟨fd, F, F.ok sc_Ratio_init (fun vs H Q E h => ?_) (fun cdv A outer s H vs Q E hr h => ?_)⟩
  · obtain ⟨p, dx, n, d, rfl, _⟩ := h
    rfl
  · obtain ⟨p, dx, n, d, rfl, hp, kb, kg⟩ := h
    have nd := sc_Ratio_init.nd
    refine ⟨_, pss_cons (ps_if (pt_cmpR op_lt (pv 2) pe_int (nomark _)) (pss_one (ps_raise rfl (takes_of rfl rfl rfl rfl) (pmk_own PySem.F.excBase_ValueError T.x_BadRatio.1 T.g_BadRatio T.x_BadRatio.2.1 (raises_own T.x_BadRatio.2.2.1 T.x_BadRatio.2.2.2) rfl))) pss_nil)
      (pss_cons (ps_set (i := 3) nd rfl (Or.inl rfl) (pe_callB call_abs (by rfl) T.f_abs (by decide +kernel) (pa_cons (pv 1) pa_nil)))
      (pss_cons (ps_set (i := 4) nd rfl (Or.inl rfl) (pv 2))
      (pss_cons (ps_while (passes_of rfl) (pt_truth (pv 4) (by intro _; rfl)) (pss_one (ps_par (i := 3) (j := 4) (by rfl) nd rfl rfl (by decide) rfl rfl (pa_cons (pv 4) (pa_cons (pe_op op_mod (pv 3) (pv 4)) pa_nil)) (by rfl))))
      (pss_cons (ps_fld (pv 0) (pe_op op_fdivW (pv 1) (pv 3)) rfl)
      (pss_one (ps_fld (pv 0) (pe_op op_fdivW (pv 2) (pv 3)) rfl)))))), ?_⟩
    refine ⟨_, rfl, _, _, rfl, rfl, _, rfl, ite2 (fun c => kb (of_decide_eq_true c)) fun c => ?_⟩
    have hd : 0 < d := by
                       have c' : ¬ d < 1 := fun z => c (decide_eq_true z)
                       omega
    obtain ⟨hz, k⟩ := kg hd
    refine ⟨_, rfl, _, rfl, _, rfl, ?_⟩
    dsimp only [gName, tSeq]
    refine while_by (fun σ H' => H' = H ∧ ∃ l r : Nat, σ = [some (.ref p), some (.int n), some (.int d), some (.int (l : Int)), some (.int (r : Int))] ∧ Nat.gcd l r = Nat.gcd n.natAbs d.toNat)
      (fun σ _ => match σ with | [_, _, _, _, some (.int r)] => r.toNat | _ => 0) ⟨rfl, n.natAbs, d.toNat, ?_, rfl⟩ ?_ ?_
    · show [_, _, _, some (V.int (if n < 0 then -n else n)), some (V.int d)] = _
      have e1 : (if n < 0 then -n else n) = (n.natAbs : Int) := by split <;> omega
      have e2 : d = ((d.toNat : Nat) : Int) := by omega
      rw [e1, ← e2]
    · rintro σ H' ⟨rfl, l, r, rfl, hg⟩
      refine ⟨_, rfl, _, rfl, ite2 (fun c => ?_) fun c => ?_⟩
      · have hr0 : r ≠ 0 := by intro z; subst z; simp at c
        have hr1 : 0 < r := Nat.pos_of_ne_zero hr0
        refine ⟨_, rfl, _, rfl, _, rfl, _, _, rfl, rfl, (by show (0 : Int) < (r : Int); omega), _, _, rfl, ?_⟩
        refine ⟨⟨rfl, r, l % r, ?_, (gcd_turn l r).trans hg⟩, ?_⟩
        · show [_, _, _, some (V.int (r : Int)), some (V.int ((l : Int) % (r : Int)))] = _
          rw [← Int.natCast_emod]
        · show ((l : Int) % (r : Int)).toNat < ((r : Int)).toNat
          rw [← Int.natCast_emod]
          exact Nat.mod_lt l hr1
      · have hr0 : r = 0 := by
          cases r with
          | zero => rfl
          | succ r => exact absurd (by simp; omega) c
        subst hr0
        rw [Nat.gcd_zero_right] at hg
        have hdn : 0 < d.toNat := by omega
        have hl0 : 0 < l := by rw [hg]; exact Nat.gcd_pos_of_pos_right _ hdn
        have hl1 : l ≤ d.toNat := by rw [hg]; exact Nat.gcd_le_right _ hdn
        have hw : CDivW n (l : Int) := wide_div (b := 9000) (by omega) (by omega) (by omega) (by omega)
        have hw2 : CDivW d (l : Int) := hw
        refine ⟨_, rfl, _, rfl, _, _, rfl, rfl, hw, _, rfl, p, cR K, dx, [], rfl, hp, T.c_Ratio, T.a_Ratio_num, (by show 0 < 1000; decide), _, rfl, _, rfl, _, _, rfl, rfl, hw2, _, rfl, p, cR K, dx, _, rfl, upd_same, T.c_Ratio, T.a_Ratio_den, (by show 1 < 1000; decide), ?_⟩
        have en : (mkRat n d.toNat).num = n / (l : Int) := by
          rw [Rat.num_mkRat, if_neg (by omega), Nat.gcd_comm, ← hg]
        have ed : ((mkRat n d.toNat).den : Int) = d / (l : Int) := by
          rw [Rat.den_mkRat, if_neg (by omega), Nat.gcd_comm, ← hg, Int.natCast_ediv]
          congr 1; omega
        rw [upd_upd]
        have e1 : putF "den" (V.int (d / (l : Int))) (putF "num" (V.int (n / (l : Int))) []) = rf (mkRat n d.toNat).num (mkRat n d.toNat).den := by rw [en, ed, rf_put]
        rw [show putF (Str.ofString "den") (V.int (d / (l : Int))) (putF (Str.ofString "num") (V.int (n / (l : Int))) []) = _ from e1]
        exact k
    · intro σ H' Q Q' hq h
      obtain ⟨v, h1, b, h2, h3⟩ := h
      exact ⟨v, h1, b, h2, hq _ _ h3⟩
end
end LL
namespace LL
open PySem PySem.Spec PyProof.Rows L2 He
section
variable {P : Program} {w : World} {K : PySem.W.Frag} {mg : Str → Option Value} {base : Heap}
/-- what a call lets out is what the def lets out -/
theorem pc {N : List Str} {qual : Str} {scope : Scope} {f : Addr} {cd : Value} {A : Around} {outer : List Env} {s : Shared} {H : Hp} {E : XK} (h : scope.kind = .function := by rfl) : Passes (L2.CX P w) (cxOf (L2.CX P w) P w K mg base N qual scope f cd A outer s H E) E :=
  passes_call (takes_of rfl rfl rfl rfl) (fun _ _ _ _ h => h)
theorem fn_RI2 (T : Txt K mg) : Fn P w K mg base 1 (ma K (cR K) "__init__") (spRI K) := by
  obtain ⟨fd, F, G⟩ := ok_RI (P := P) (w := w) (base := base) T
  obtain ⟨ds, hd, hb⟩ := F.binds1 3 1 (by simp) rfl (ps := ["self", "num", "den"]) (fun _ _ _ _ _ _ _ us its hl hi => match us, hl, its, hi with | [_, _, _], _, [_], _ => ⟨_, rfl, rfl⟩)
  have e := G.raw hb hd
  exact e.imp fun vs H Q E h => by simpa using h
theorem fn_RI1 (T : Txt K mg) : Fn P w K mg base 1 (ma K (cR K) "__init__") (fun vs H Q E => spRI K (vs ++ [.int 1]) H Q E) := by
  obtain ⟨fd, F, G⟩ := ok_RI (P := P) (w := w) (base := base) T
  obtain ⟨ds, hd, hb⟩ := F.binds1 2 0 (by simp) rfl (ps := ["self", "num", "den"]) (fun _ _ _ _ _ _ _ us its hl hi => match us, hl, its, hi with | [_, _], _, [_], _ => ⟨_, rfl, rfl⟩)
  exact G.raw hb hd
/-- a rational whose parts are below 2 ^ k -/
def Sz (k : Nat) (q : Rat) : Prop := q.num.natAbs < 2 ^ k ∧ q.den < 2 ^ k
theorem Sz.mono {j k : Nat} {q : Rat} (h : Sz j q) (l : j ≤ k) : Sz k q :=
  ⟨Nat.lt_of_lt_of_le h.1 (Nat.pow_le_pow_right (by decide) l), Nat.lt_of_lt_of_le h.2 (Nat.pow_le_pow_right (by decide) l)⟩
/-- a new Ratio -/
theorem mk_ratio {H : Hp} {n d : Int} {Q : VK} {E : XK} (hd : 0 < d) (hz : d.natAbs < 2 ^ 9000) (k : ∀ v H', Same H H' → RatAt K H' v (mkRat n d.toNat) → Q v H') :
    ∀ x dx, H x = none → H dx = none → dx ≠ x → spRI K [.ref x, .int n, .int d] (upd (upd H dx (.own x)) x (.ins (cR K) dx [])) (fun v H2 => v = .non ∧ Q (.ref x) H2) E := by
  intro x dx nx ndx ne
  refine ⟨x, dx, n, d, rfl, upd_same, fun h => by omega, fun _ => ⟨hz, rfl, ?_⟩⟩
  refine k _ _ (fun b o e => ?_) ⟨x, dx, rfl, ?_⟩
  · rw [upd_ne (ne_of_none e nx), upd_ne (ne_of_none e nx), upd_ne (ne_of_none e ndx)]
    exact e
  · exact upd_same
theorem mul_lt_pow {a b m n : Nat} (h1 : a < 2 ^ m) (h2 : b < 2 ^ n) : a * b < 2 ^ (m + n) := by
  rw [Nat.pow_add]
  exact Nat.mul_lt_mul'' h1 h2
def spB (K : PySem.W.Frag) (f : Rat → Rat → Rat) : Sp := fun vs H Q _ => ∃ (x y : V) (p q : Rat), vs = [x, y] ∧ RatAt K H x p ∧ RatAt K H y q ∧ Sz 4000 p ∧ Sz 4000 q ∧ ∀ v H', Same H H' → RatAt K H' v (f p q) → Q v H'
theorem add_mk (p q : Rat) : p + q = mkRat (p.num * q.den + q.num * p.den) ((p.den : Int) * (q.den : Int)).toNat := by
  rw [Rat.add_def, Rat.normalize_eq_mkRat, ← Int.natCast_mul, Int.toNat_natCast]
theorem sub_mk (p q : Rat) : p - q = mkRat (p.num * q.den - q.num * p.den) ((p.den : Int) * (q.den : Int)).toNat := by
  rw [Rat.sub_def, Rat.normalize_eq_mkRat, ← Int.natCast_mul, Int.toNat_natCast]
theorem mul_mk (p q : Rat) : p * q = mkRat (p.num * q.num) ((p.den : Int) * (q.den : Int)).toNat := by
  rw [Rat.mul_def, Rat.normalize_eq_mkRat, ← Int.natCast_mul, Int.toNat_natCast]
theorem den_nz (p q : Rat) : (0 : Int) < (p.den : Int) * (q.den : Int) := by
  have h1 := p.den_pos
  have h2 := q.den_pos
  exact Int.mul_pos (by omega) (by omega)
theorem den_sz {p q : Rat} {k : Nat} (hp : Sz k p) (hq : Sz k q) (hk : k + k ≤ 9000) : ((p.den : Int) * (q.den : Int)).natAbs < 2 ^ 9000 := by
  rw [← Int.natCast_mul, Int.natAbs_natCast]
  exact Nat.lt_of_lt_of_le (mul_lt_pow hp.2 hq.2) (Nat.pow_le_pow_right (by decide) hk)
theorem cm {i j : Int} (ha : i.natAbs < 2 ^ 4000) (hb : j.natAbs < 2 ^ 4000) : CMulW i j := wide_mul ha hb (by omega) (by omega) (by omega)
theorem fn_Ratio_add (T : Txt K mg) : Fn P w K mg base 3 (ma K (cR K) "__add__") (spB K (· + ·)) := by
  obtain ⟨fd, F⟩ := T.d_Ratio_add
  have b := F.bindsN (ps := ["self", "other"]) fun _ _ _ _ _ _ us hl => match us, hl with | [_, _], _ => rfl
  refine (FnOk.raw (k := 3) (sp := spB K (· + ·)) (F.ok sc_Ratio_add (fun vs H Q E h => ?_) (fun cdv A outer s H vs Q E hr h => ?_)) b (dvs := []) .nil).imp (fun vs H Q E h => by simpa using h)
  · obtain ⟨x, y, p, q, rfl, _⟩ := h
    rfl
  · obtain ⟨x, y, p, q, rfl, ⟨a, dx, rfl, ha⟩, ⟨b, dy, rfl, hb⟩, zp, zq, k⟩ := h
    refine ⟨_, pss_one (ps_ret (StX.pe_makeR T.m_Ratio (fn_RI2 T) hr rfl T.g_Ratio pc (pa_cons (pe_op op_add (pe_op op_mulW (pe_fld (pv 0) rfl) (pe_fld (pv 1) rfl)) (pe_op op_mulW (pe_fld (pv 1) rfl) (pe_fld (pv 0) rfl))) (pa_cons (pe_op op_mulW (pe_fld (pv 0) rfl) (pe_fld (pv 1) rfl)) pa_nil)))), ?_⟩
    refine ⟨_, rfl, a, _, dx, _, _, rfl, ha, T.c_Ratio, T.a_Ratio_num, rf_num _ _, _, rfl, b, _, dy, _, _, rfl, hb, T.c_Ratio, T.a_Ratio_den, rf_den _ _, _, _, rfl, rfl, cm zp.1 zq.2, ?_⟩
    refine ⟨_, rfl, b, _, dy, _, _, rfl, hb, T.c_Ratio, T.a_Ratio_num, rf_num _ _, _, rfl, a, _, dx, _, _, rfl, ha, T.c_Ratio, T.a_Ratio_den, rf_den _ _, _, _, rfl, rfl, cm zq.1 zp.2, _, _, rfl, rfl, ?_⟩
    refine ⟨_, rfl, a, _, dx, _, _, rfl, ha, T.c_Ratio, T.a_Ratio_den, rf_den _ _, _, rfl, b, _, dy, _, _, rfl, hb, T.c_Ratio, T.a_Ratio_den, rf_den _ _, _, _, rfl, rfl, cm zp.2 zq.2, ?_⟩
    refine mk_ratio (den_nz p q) (den_sz zp zq (by omega)) fun v H' e r => k v H' e ?_
    rw [← add_mk] at r
    exact r
end
end LL
namespace LL
open PySem PySem.Spec PyProof.Rows L2 He
section
variable {P : Program} {w : World} {K : PySem.W.Frag} {mg : Str → Option Value} {base : Heap}
theorem fn_def {x qual : Str} {st : Stmt} {f : Addr} {N ps : List Str} {k : Nat} {sp : Sp} (D : ∃ fd, FunD K x qual (defArgs st) (defBody st) (defScope st) [] [] f fd) (S : FnScope N ps (defScope st))
    (hb : ∀ (kV doc pm : Value) (an : Option Addr) (cdv ct : Value) (us : List Value), us.length = ps.length → bindArgs (PySem.W.fnOf x qual (defArgs st) (defBody st) (defScope st) .none kV doc pm an cdv ct) ⟨us, []⟩ = pure (ps.zip us))
    (len : ∀ vs H Q E, sp vs H Q E → vs.length = ps.length)
    (hbody : ∀ (cdv : Value) (A : Around) (outer : List Env) (s : Shared) (H : Hp) (vs : List V) (Q : VK) (E : XK), Room k (A.deeper (envOfC qual (defScope st) s.heap.objs.size f cdv)) → sp vs H Q E →
      ∃ t, PSs (cxOf (L2.CX P w) P w K mg base N qual (defScope st) f cdv A outer s H E) (defBody st) t ∧ t { nx := fun _ H' => Q .non H', rt := Q } (start N vs) H) : Fn P w K mg base (k + 1) f sp := by
  obtain ⟨fd, F⟩ := D
  exact (FnOk.raw (F.ok S len hbody) (F.bindsN hb) (dvs := []) .nil).imp (fun vs H Q E h => by simpa using h)
theorem pe_gr {X : Cx} {x : Str} {a : Addr} {pos : Pos} (hm : X.mg x = some (.ref a)) (hg : Gl X x := by rfl) (hd : (x == ("__debug__" : Str)) = false := by decide) : PE X (.Name x pos) (tC (.ref a)) := pe_glob hg hm rfl hd
theorem fn_Ratio_sub (T : Txt K mg) : Fn P w K mg base 3 (ma K (cR K) "__sub__") (spB K (· - ·)) := by
  refine fn_def T.d_Ratio_sub sc_Ratio_sub (fun _ _ _ _ _ _ us hl => match us, hl with | [_, _], _ => rfl) (fun vs H Q E h => ?_) (fun cdv A outer s H vs Q E hr h => ?_)
  · obtain ⟨x, y, p, q, rfl, _⟩ := h
    rfl
  · obtain ⟨x, y, p, q, rfl, ⟨a, dx, rfl, ha⟩, ⟨b, dy, rfl, hb⟩, zp, zq, k⟩ := h
    refine ⟨_, pss_one (ps_ret (StX.pe_makeR T.m_Ratio (fn_RI2 T) hr rfl T.g_Ratio pc (pa_cons (pe_op op_sub (pe_op op_mulW (pe_fld (pv 0) rfl) (pe_fld (pv 1) rfl)) (pe_op op_mulW (pe_fld (pv 1) rfl) (pe_fld (pv 0) rfl))) (pa_cons (pe_op op_mulW (pe_fld (pv 0) rfl) (pe_fld (pv 1) rfl)) pa_nil)))), ?_⟩
    refine ⟨_, rfl, a, _, dx, _, _, rfl, ha, T.c_Ratio, T.a_Ratio_num, rf_num _ _, _, rfl, b, _, dy, _, _, rfl, hb, T.c_Ratio, T.a_Ratio_den, rf_den _ _, _, _, rfl, rfl, cm zp.1 zq.2, ?_⟩
    refine ⟨_, rfl, b, _, dy, _, _, rfl, hb, T.c_Ratio, T.a_Ratio_num, rf_num _ _, _, rfl, a, _, dx, _, _, rfl, ha, T.c_Ratio, T.a_Ratio_den, rf_den _ _, _, _, rfl, rfl, cm zq.1 zp.2, _, _, rfl, rfl, ?_⟩
    refine ⟨_, rfl, a, _, dx, _, _, rfl, ha, T.c_Ratio, T.a_Ratio_den, rf_den _ _, _, rfl, b, _, dy, _, _, rfl, hb, T.c_Ratio, T.a_Ratio_den, rf_den _ _, _, _, rfl, rfl, cm zp.2 zq.2, ?_⟩
    refine mk_ratio (den_nz p q) (den_sz zp zq (by omega)) fun v H' e r => k v H' e ?_
    rw [← sub_mk] at r
    exact r
theorem fn_Ratio_mul (T : Txt K mg) : Fn P w K mg base 3 (ma K (cR K) "__mul__") (spB K (· * ·)) := by
  refine fn_def T.d_Ratio_mul sc_Ratio_mul (fun _ _ _ _ _ _ us hl => match us, hl with | [_, _], _ => rfl) (fun vs H Q E h => ?_) (fun cdv A outer s H vs Q E hr h => ?_)
  · obtain ⟨x, y, p, q, rfl, _⟩ := h
    rfl
  · obtain ⟨x, y, p, q, rfl, ⟨a, dx, rfl, ha⟩, ⟨b, dy, rfl, hb⟩, zp, zq, k⟩ := h
    refine ⟨_, pss_one (ps_ret (StX.pe_makeR T.m_Ratio (fn_RI2 T) hr rfl T.g_Ratio pc (pa_cons (pe_op op_mulW (pe_fld (pv 0) rfl) (pe_fld (pv 1) rfl)) (pa_cons (pe_op op_mulW (pe_fld (pv 0) rfl) (pe_fld (pv 1) rfl)) pa_nil)))), ?_⟩
    refine ⟨_, rfl, a, _, dx, _, _, rfl, ha, T.c_Ratio, T.a_Ratio_num, rf_num _ _, _, rfl, b, _, dy, _, _, rfl, hb, T.c_Ratio, T.a_Ratio_num, rf_num _ _, _, _, rfl, rfl, cm zp.1 zq.1, ?_⟩
    refine ⟨_, rfl, a, _, dx, _, _, rfl, ha, T.c_Ratio, T.a_Ratio_den, rf_den _ _, _, rfl, b, _, dy, _, _, rfl, hb, T.c_Ratio, T.a_Ratio_den, rf_den _ _, _, _, rfl, rfl, cm zp.2 zq.2, ?_⟩
    refine mk_ratio (den_nz p q) (den_sz zp zq (by omega)) fun v H' e r => k v H' e ?_
    rw [← mul_mk] at r
    exact r
def spLess (K : PySem.W.Frag) : Sp := fun vs H Q _ => ∃ (x y : V) (p q : Rat), vs = [x, y] ∧ RatAt K H x p ∧ RatAt K H y q ∧ Sz 4000 p ∧ Sz 4000 q ∧ Q (.bl (decide (p < q))) H
theorem fn_Ratio_less (T : Txt K mg) : Fn P w K mg base 1 (ma K (cR K) "less") (spLess K) := by
  refine fn_def T.d_Ratio_less sc_Ratio_less (fun _ _ _ _ _ _ us hl => match us, hl with | [_, _], _ => rfl) (fun vs H Q E h => ?_) (fun cdv A outer s H vs Q E hr h => ?_)
  · obtain ⟨x, y, p, q, rfl, _⟩ := h
    rfl
  · obtain ⟨x, y, p, q, rfl, ⟨a, dx, rfl, ha⟩, ⟨b, dy, rfl, hb⟩, zp, zq, k⟩ := h
    refine ⟨_, pss_one (ps_ret (pe_cmpR op_lt (pe_op op_mulW (pe_fld (pv 0) rfl) (pe_fld (pv 1) rfl)) (pe_op op_mulW (pe_fld (pv 1) rfl) (pe_fld (pv 0) rfl)) (nomark _))), ?_⟩
    refine ⟨_, rfl, a, _, dx, _, _, rfl, ha, T.c_Ratio, T.a_Ratio_num, rf_num _ _, _, rfl, b, _, dy, _, _, rfl, hb, T.c_Ratio, T.a_Ratio_den, rf_den _ _, _, _, rfl, rfl, cm zp.1 zq.2, ?_⟩
    refine ⟨_, rfl, b, _, dy, _, _, rfl, hb, T.c_Ratio, T.a_Ratio_num, rf_num _ _, _, rfl, a, _, dx, _, _, rfl, ha, T.c_Ratio, T.a_Ratio_den, rf_den _ _, _, _, rfl, rfl, cm zq.1 zp.2, _, _, rfl, rfl, ?_⟩
    have e : decide (p < q) = decide (p.num * ↑q.den < q.num * ↑p.den) := by simp only [Rat.lt_iff]
    rw [e] at k
    exact k
def spEqR (K : PySem.W.Frag) : Sp := fun vs H Q _ => ∃ (x y : V) (p q : Rat), vs = [x, y] ∧ RatAt K H x p ∧ RatAt K H y q ∧ ∀ H', Same H H' → Q (.bl (decide (p = q))) H'
theorem eqv_pair (a b c d : Int) : PyData.eqv (.tuple [.int a, .int b]) (.tuple [.int c, .int d]) = decide (a = c ∧ b = d) := by
  simp only [PyData.eqv, PyData.eqvAll, Bool.and_true, Bool.decide_and]
  congr 1
theorem fn_Ratio_eq (T : Txt K mg) : Fn P w K mg base 1 (ma K (cR K) "__eq__") (spEqR K) := by
  refine fn_def T.d_Ratio_eq sc_Ratio_eq (fun _ _ _ _ _ _ us hl => match us, hl with | [_, _], _ => rfl) (fun vs H Q E h => ?_) (fun cdv A outer s H vs Q E hr h => ?_)
  · obtain ⟨x, y, p, q, rfl, _⟩ := h
    rfl
  · obtain ⟨x, y, p, q, rfl, ⟨a, dx, rfl, ha⟩, ⟨b, dy, rfl, hb⟩, k⟩ := h
    refine ⟨_, pss_one (ps_ret (pe_and (pe_callB call_isi (by rfl) T.f_isinstance (by decide +kernel) (pa_cons (pv 1) (pa_cons (pe_gr T.g_Ratio) pa_nil)))
      (pe_one (pe_cmpR (op_eqD hr.units) (pe_tup (pa_cons (pe_fld (pv 0) rfl) (pa_cons (pe_fld (pv 0) rfl) pa_nil))) (pe_tup (pa_cons (pe_fld (pv 1) rfl) (pa_cons (pe_fld (pv 1) rfl) pa_nil))) (nomark _))))), ?_⟩
    refine ⟨_, rfl, _, _, _, _, _, rfl, ClsV.own _, TyX.base (TyOf.ins hb T.c_Ratio T.oc_Ratio T.og T.ot T.om_Ratio), T.ki_Ratio_Ratio, true, rfl, iteT ?_⟩
    refine ⟨_, rfl, a, _, dx, _, _, rfl, ha, T.c_Ratio, T.a_Ratio_num, rf_num _ _, _, rfl, a, _, dx, _, _, rfl, ha, T.c_Ratio, T.a_Ratio_den, rf_den _ _, (by show 2 ≤ sizeLine; decide), fun t1 n1 => ?_⟩
    have hb1 : (upd H t1 (.tup [.int p.num, .int p.den])) b = _ := (upd_ne (ne_of_none hb n1)).trans hb
    refine ⟨_, rfl, b, _, dy, _, _, rfl, hb1, T.c_Ratio, T.a_Ratio_num, rf_num _ _, _, rfl, b, _, dy, _, _, rfl, hb1, T.c_Ratio, T.a_Ratio_den, rf_den _ _, (by show 2 ≤ sizeLine; decide), fun t2 n2 => ?_⟩
    have ht1 : upd (upd H t1 (.tup [.int p.num, .int p.den])) t2 (.tup [.int q.num, .int q.den]) t1 = some (.tup [.int p.num, .int p.den]) := (upd_ne (ne_of_none upd_same n2)).trans upd_same
    refine ⟨_, _, Dp.tup (SqT.of ht1) (.cons (.int _) (.cons (.int _) .nil)), Dp.tup (SqT.of upd_same) (.cons (.int _) (.cons (.int _) .nil)), rfl, rfl, ?_⟩
    rw [eqv_pair]
    have e : decide (p = q) = decide (p.num = q.num ∧ (p.den : Int) = q.den) := by
      have z : p = q ↔ (p.num = q.num ∧ (p.den : Int) = q.den) := ⟨fun h => by subst h; exact ⟨rfl, rfl⟩, fun h => Rat.ext h.1 (Int.ofNat.inj h.2)⟩
      simp only [z]
    rw [← e]
    exact k _ fun c o h => by rw [upd_ne (ne_of_none ((upd_ne (ne_of_none h n1)).trans h) n2), upd_ne (ne_of_none h n1)]; exact h
/-- what str writes -/
def ratStr (q : Rat) : Str := if q.den = 1 then Str.ofString (toString q.num) else Str.ofString (toString q.num) ++ Str.ofString "/" ++ Str.ofString (toString (q.den : Int))
theorem empty_cat (x : Str) : Str.empty ++ x = x := by
  obtain ⟨c⟩ := x
  show Str.mk (#[] ++ c) = ⟨c⟩
  simp
def spStrR (K : PySem.W.Frag) : Sp := fun vs H Q _ => ∃ (x : V) (p : Rat), vs = [x] ∧ RatAt K H x p ∧ Sz 1900 p ∧ Q (.str (ratStr p)) H
theorem log_lt {n k : Nat} (h : n < 2 ^ k) (hk : 0 < k) : n.log2 < k := PySem.Flt.log2_lt_of hk h
theorem fn_Ratio_str (T : Txt K mg) : Fn P w K mg base 1 (ma K (cR K) "__str__") (spStrR K) := by
  refine fn_def T.d_Ratio_str sc_Ratio_str (fun _ _ _ _ _ _ us hl => match us, hl with | [_], _ => rfl) (fun vs H Q E h => ?_) (fun cdv A outer s H vs Q E hr h => ?_)
  · obtain ⟨x, p, rfl, _⟩ := h
    rfl
  · obtain ⟨x, p, rfl, ⟨a, dx, rfl, ha⟩, zp, k⟩ := h
    refine ⟨_, pss_cons (ps_if (pt_cmpR op_eq (pe_fld (pv 0) rfl) pe_int (nomark _)) (pss_one (ps_ret (pe_callTy call_str_int (by rfl) T.f_str (by decide +kernel) (pa_cons (pe_fld (pv 0) rfl) pa_nil)))) pss_nil)
      (pss_one (ps_ret (pe_joined (PJ.cons (pe_fmt (pe_fld (pv 0) rfl)) (PJ.cons pe_str (PJ.cons (pe_fmt (pe_fld (pv 0) rfl)) .nil)))))), ?_⟩
    refine ⟨_, rfl, a, _, dx, _, _, rfl, ha, T.c_Ratio, T.a_Ratio_den, rf_den _ _, rfl, _, rfl, ite2 (fun c => ?_) fun c => ?_⟩
    · have c' : p.den = 1 := by
        have := of_decide_eq_true c
        simp only [V.int.injEq] at this
        omega
      have ek : ratStr p = Str.ofString (toString p.num) := by unfold ratStr; rw [if_pos c']
      rw [ek] at k
      exact ⟨_, rfl, a, _, dx, _, _, rfl, ha, T.c_Ratio, T.a_Ratio_num, rf_num _ _, _, rfl, log_lt (Nat.lt_of_lt_of_le zp.1 (Nat.pow_le_pow_right (by decide) (by decide))) (by decide), k⟩
    · have c' : ¬ p.den = 1 := fun z => c (decide_eq_true (by rw [z]; rfl))
      have ek : ratStr p = Str.ofString (toString p.num) ++ Str.ofString "/" ++ Str.ofString (toString (p.den : Int)) := by unfold ratStr; rw [if_neg c']
      have l1 : p.num.natAbs.log2 < 1920 := log_lt (Nat.lt_of_lt_of_le zp.1 (Nat.pow_le_pow_right (by decide) (by decide))) (by decide)
      have l2 : ((p.den : Int)).natAbs.log2 < 1920 := log_lt (by rw [Int.natAbs_natCast]; exact Nat.lt_of_lt_of_le zp.2 (Nat.pow_le_pow_right (by decide) (by decide))) (by decide)
      have z1 := int_text_len_1921 l1
      have z2 := int_text_len_1921 l2
      have sl : 100000 ≤ sizeLine := by decide
      have s1 : (Str.ofString "/").length = 1 := by decide +kernel
      rw [ek] at k
      refine ⟨_, rfl, a, _, dx, _, _, rfl, ha, T.c_Ratio, T.a_Ratio_num, rf_num _ _, .inr ⟨_, rfl, l1, _, rfl, ?_, _, rfl, ?_, _, rfl, a, _, dx, _, _, rfl, ha, T.c_Ratio, T.a_Ratio_den, rf_den _ _, .inr ⟨_, rfl, l2, _, rfl, ?_, ?_⟩⟩⟩
      · rw [empty_cat]; omega
      · rw [empty_cat, PySem.strLen_append]; omega
      · rw [empty_cat, PySem.strLen_append, PySem.strLen_append]; omega
      · rw [empty_cat]; exact k
def spOver (K : PySem.W.Frag) : Sp := fun vs H Q E => ∃ (x y : V) (p q : Rat), vs = [x, y] ∧ RatAt K H x p ∧ RatAt K H y q ∧ Sz 4000 p ∧ Sz 4000 q ∧ (q = 0 → E (.ref (ga K "BadRatio")) none H) ∧ (q ≠ 0 → ∀ v H', Same H H' → RatAt K H' v (p / q) → Q v H')
theorem inv_pos {q : Rat} (h : 0 < q.num) : q⁻¹ = mkRat q.den q.num.toNat := by
  rw [Rat.inv_def]
  obtain ⟨n, e⟩ : ∃ n : Nat, q.num = (n : Int) := ⟨q.num.toNat, by omega⟩
  rw [e, Int.toNat_natCast]
  exact Rat.divInt_ofNat ..
theorem over_pos {p q : Rat} (h : 0 < q.num) : p / q = mkRat (p.num * q.den) ((p.den : Int) * q.num).toNat := by
  rw [Rat.div_def, inv_pos h, ← Rat.mkRat_self p, Rat.mkRat_mul_mkRat, Rat.mkRat_self]
  congr 1
  obtain ⟨n, e⟩ : ∃ n : Nat, q.num = (n : Int) := ⟨q.num.toNat, by omega⟩
  rw [e, Int.toNat_natCast, ← Int.natCast_mul, Int.toNat_natCast]
theorem over_neg {p q : Rat} (h : q.num < 0) : p / q = mkRat (-p.num * q.den) ((p.den : Int) * -q.num).toNat := by
  have e1 : p / q = (-p) / (-q) := by
    have hq : q ≠ 0 := fun z => by subst z; simp at h
    have hq2 : -q ≠ 0 := by grind
    have h1 := Rat.mul_inv_cancel q hq
    have h2 := Rat.mul_inv_cancel (-q) hq2
    rw [Rat.div_def, Rat.div_def]; grind
  have h' : 0 < (-q).num := by rw [Rat.neg_num]; omega
  rw [e1, over_pos h', Rat.neg_num, Rat.neg_num, Rat.neg_den, Rat.neg_den]
theorem fn_Ratio_over (T : Txt K mg) : Fn P w K mg base 3 (ma K (cR K) "over") (spOver K) := by
  refine fn_def T.d_Ratio_over sc_Ratio_over (fun _ _ _ _ _ _ us hl => match us, hl with | [_, _], _ => rfl) (fun vs H Q E h => ?_) (fun cdv A outer s H vs Q E hr h => ?_)
  · obtain ⟨x, y, p, q, rfl, _⟩ := h
    rfl
  · obtain ⟨x, y, p, q, rfl, ⟨a, dx, rfl, ha⟩, ⟨b, dy, rfl, hb⟩, zp, zq, k0, k⟩ := h
    have GI := fn_RI2 (P := P) (w := w) (base := base) T
    refine ⟨_, pss_cons (ps_if (pt_cmpR op_lt (pe_fld (pv 1) rfl) pe_int (nomark _)) (pss_one (ps_ret (StX.pe_makeR T.m_Ratio GI hr rfl T.g_Ratio pc
          (pa_cons (pe_op op_mulW (pe_un un_neg (pe_fld (pv 0) rfl)) (pe_fld (pv 1) rfl)) (pa_cons (pe_op op_mulW (pe_fld (pv 0) rfl) (pe_un un_neg (pe_fld (pv 1) rfl))) pa_nil))))) pss_nil)
      (pss_cons (ps_if (pt_cmpR op_eq (pe_fld (pv 1) rfl) pe_int (nomark _)) (pss_one (ps_raise rfl (takes_of rfl rfl rfl rfl) (pmk_own PySem.F.excBase_ValueError T.x_BadRatio.1 T.g_BadRatio T.x_BadRatio.2.1 (raises_own T.x_BadRatio.2.2.1 T.x_BadRatio.2.2.2) rfl))) pss_nil)
      (pss_one (ps_ret (StX.pe_makeR T.m_Ratio GI hr rfl T.g_Ratio pc
          (pa_cons (pe_op op_mulW (pe_fld (pv 0) rfl) (pe_fld (pv 1) rfl)) (pa_cons (pe_op op_mulW (pe_fld (pv 0) rfl) (pe_fld (pv 1) rfl)) pa_nil)))))), ?_⟩
    have zpn : (-p.num).natAbs < 2 ^ 4000 := by rw [Int.natAbs_neg]; exact zp.1
    have zqn : (-q.num).natAbs < 2 ^ 4000 := by rw [Int.natAbs_neg]; exact zq.1
    have dp := p.den_pos
    have dz : ∀ z : Int, 0 < z → z.natAbs < 2 ^ 4000 → 0 < (p.den : Int) * z ∧ ((p.den : Int) * z).natAbs < 2 ^ 9000 := fun z h1 h2 =>
      ⟨Int.mul_pos (by omega) h1, by rw [Int.natAbs_mul, Int.natAbs_natCast]; exact Nat.lt_of_lt_of_le (mul_lt_pow zp.2 h2) (Nat.pow_le_pow_right (by decide) (by decide))⟩
    refine ⟨_, rfl, b, _, dy, _, _, rfl, hb, T.c_Ratio, T.a_Ratio_num, rf_num _ _, _, _, rfl, rfl, _, rfl, ite2 (fun c => ?_) fun c => ?_⟩
    · have c' : q.num < 0 := of_decide_eq_true c
      refine ⟨_, rfl, a, _, dx, _, _, rfl, ha, T.c_Ratio, T.a_Ratio_num, rf_num _ _, _, rfl, _, rfl, b, _, dy, _, _, rfl, hb, T.c_Ratio, T.a_Ratio_den, rf_den _ _, _, _, rfl, rfl, cm zpn zq.2, ?_⟩
      refine ⟨_, rfl, a, _, dx, _, _, rfl, ha, T.c_Ratio, T.a_Ratio_den, rf_den _ _, _, rfl, b, _, dy, _, _, rfl, hb, T.c_Ratio, T.a_Ratio_num, rf_num _ _, _, rfl, _, _, rfl, rfl, cm zp.2 zqn, ?_⟩
      have d := dz (-q.num) (by omega) zqn
      refine mk_ratio d.1 d.2 fun v H' e r => k (fun z => by subst z; simp at c') v H' e ?_
      rw [← over_neg c'] at r
      exact r
    · have c' : ¬ q.num < 0 := fun z => c (decide_eq_true z)
      refine ⟨_, rfl, b, _, dy, _, _, rfl, hb, T.c_Ratio, T.a_Ratio_num, rf_num _ _, rfl, _, rfl, ite2 (fun e => ?_) fun e => ?_⟩
      · have e' : q.num = 0 := by
          have := of_decide_eq_true e
          simpa using this
        exact k0 (Rat.num_eq_zero.mp e')
      · have e' : ¬ q.num = 0 := fun z => e (decide_eq_true (by rw [z]))
        refine ⟨_, rfl, a, _, dx, _, _, rfl, ha, T.c_Ratio, T.a_Ratio_num, rf_num _ _, _, rfl, b, _, dy, _, _, rfl, hb, T.c_Ratio, T.a_Ratio_den, rf_den _ _, _, _, rfl, rfl, cm zp.1 zq.2, ?_⟩
        refine ⟨_, rfl, a, _, dx, _, _, rfl, ha, T.c_Ratio, T.a_Ratio_den, rf_den _ _, _, rfl, b, _, dy, _, _, rfl, hb, T.c_Ratio, T.a_Ratio_num, rf_num _ _, _, _, rfl, rfl, cm zp.2 zq.1, ?_⟩
        have d := dz q.num (by omega) zq.1
        refine mk_ratio d.1 d.2 fun v H' e r => k (fun z => by subst z; simp at e') v H' e ?_
        rw [← over_pos (by omega)] at r
        exact r
end
end LL
namespace LL
open PySem PySem.Spec PyProof.Rows L2 He
/-! ### the law's pool of draws -/
structure Pl where
  cells : List Int
  at_ : Addr
  ix : Nat
  big : Int
  st : Int
  run : Int
  bud : Int
def Pl.l (P : Pl) : List V := [.ref P.at_, .int P.ix, .int P.big, .int P.st, .int P.run, .int P.bud]
/-- the pool P stands at p -/
structure PoolAt (H : Hp) (p : Addr) (P : Pl) : Prop where
  l : H p = some (.lst P.l)
  c : H P.at_ = some (.lst (P.cells.map V.int))
  n : P.cells.length ≤ 63
theorem PoolAt.ne {H : Hp} {p : Addr} {P : Pl} (h : PoolAt H p P) : P.at_ ≠ p := by
  intro e
  have h1 := h.c
  rw [e, h.l] at h1
  simp only [Option.some.injEq, HO.lst.injEq, Pl.l] at h1
  cases hc : P.cells with
  | nil => rw [hc] at h1; simp at h1
  | cons a r => rw [hc] at h1; simp at h1
/-- all but what stands at p is as it was -/
def But (p : Addr) (H H' : Hp) : Prop := ∀ b o, b ≠ p → H b = some o → H' b = some o
theorem But.refl {p : Addr} (H : Hp) : But p H H := fun _ _ _ h => h
theorem But.trans {p : Addr} {H H1 H2 : Hp} (a : But p H H1) (b : But p H1 H2) : But p H H2 := fun c o n h => b c o n (a c o n h)
theorem But.same {p : Addr} {H H' : Hp} (e : Same H H') : But p H H' := fun b o _ h => e b o h
theorem But.upd {p : Addr} {H : Hp} {o : HO} : But p H (upd H p o) := fun b _ n h => (upd_ne n).trans h
theorem But.put {p : Addr} {H H' : Hp} {o : HO} (h : But p H H') : But p H (L2.upd H' p o) := h.trans .upd
theorem PoolAt.put {H : Hp} {p : Addr} {P P' : Pl} (h : PoolAt H p P) (e : P'.at_ = P.at_ ∧ P'.cells = P.cells) : PoolAt (upd H p (.lst P'.l)) p P' :=
  ⟨upd_same, by rw [e.1, e.2, upd_ne h.ne]; exact h.c, by rw [e.2]; exact h.n⟩
theorem PoolAt.mono {H H' : Hp} {p : Addr} {P : Pl} (e : Same H H') (h : PoolAt H p P) : PoolAt H' p P := ⟨e _ _ h.l, e _ _ h.c, h.n⟩
def spPool (K : PySem.W.Frag) : Sp := fun vs H Q _ => ∃ (a : Addr) (ns : List Int) (b : Int), vs = [.ref a, .int b] ∧ SqL K H a (ns.map V.int) ∧ ns.length ≤ 63 ∧ ∀ p H' P, Same H H' → H p = none → H P.at_ = none → PoolAt H' p P → P.bud = b → Q (.ref p) H'
/-- _law_draw(pool, n): some number from 0 to n - 1, the pool changed -/
def spDraw : Sp := fun vs H Q _ => ∃ (p : Addr) (n : Int) (P : Pl), vs = [.ref p, .int n] ∧ PoolAt H p P ∧ 0 < n ∧ n < 1073741824 ∧
  ∀ (r : Int) (P' : Pl), 0 ≤ r → r < n → P'.at_ = P.at_ → P'.cells = P.cells → P'.bud = P.bud → Q (.int r) (upd H p (.lst P'.l))
section
variable {P : Program} {w : World} {K : PySem.W.Frag} {mg : Str → Option Value} {base : Heap}
/-! ### further rules -/
theorem kp_of {x qual : Str} {st : Stmt} {f : Addr} {dvs : List V} (D : ∃ fd, FunD K x qual (defArgs st) (defBody st) (defScope st) dvs [] f fd) : PySem.W.keepIn K (.ref f) = true := by
  obtain ⟨fd, F⟩ := D
  exact F.kp
theorem pe_fn {X : Cx} {CX : CXT} {k : Nat} {f : Addr} {sp : Sp} {E : XK} {x x' qual : Str} {st : Stmt} {dvs : List V} {e : Expr} {es : List Expr} {t : TA} {p pos : Pos} (D : ∃ fd, FunD X.K x' qual (defArgs st) (defBody st) (defScope st) dvs [] f fd)
    (F : FnR X.prog X.w X.K X.mg X.base CX k f sp) (hr : Room k X.A) (hm : X.mg x = some (.ref f)) (hx : Passes CX X E) (ha : PA X (e :: es) t) (hg : Gl X x := by rfl) (hdb : (x == ("__debug__" : Str)) = false := by decide)
    (he : starEach (e :: es) X.env = (false, eval e X.env) :: starEach es X.env := by rfl) (hpl : (backTo pos (starEach es X.env)).any (·.1) = false := by rfl) :
    PE X (.Call (.Name x p) (e :: es) [] pos) (fun σ H Q => t σ H fun vs H1 => sp vs H1 Q E) := by
  refine ⟨fun pins s σ H Q I h => ?_⟩
  refine wpAny_Call_Name_kw (ld_glob I hg hm ?_ hdb)
  refine PySem.W.callWith_K (h₀ := X.base) I.ok.mod.kin (kp_of D) (thn (ha.run pos pins s σ H _ I h) fun us s1 ⟨vs, H1, I1, r, q⟩ => ⟨I1.kIn, ?_⟩) he hpl
  exact wpAny_call (run_fnR F hr hx I1 r q)
theorem pe_methR0 {X : Cx} {CX : CXT} {k : Nat} {C f : Addr} {m : Str} {sp : Sp} {E : XK} {o : Expr} {ta : TE} {apos pos : Pos} {pl : Sem Bool} (he : PE X o ta) (c : Cls X.K C) (hm : Meth X.K C m f)
    (F : FnR X.prog X.w X.K X.mg X.base CX k f sp) (hr : Room k X.A) (hx : Passes CX X E)
    (ht : eval (.Call (.Attribute o m apos) [] [] pos) X.env = (do
      let ov ← eval o X.env
      standAt apos.atName
      let (f, first) ← holding [ov] (getMethod ov m pl)
      callWith pos f first (backTo pos (starEach [] X.env)) (backToKw pos (keywordEach [] X.env))) := by rfl) :
    PE X (.Call (.Attribute o m apos) [] [] pos) (tMethR C m sp E ta tNil) := by
  refine ⟨fun pins s σ H Q I h => ?_⟩
  refine PySem.W.methodCall_KW (pl := pl) (thn (he.run pins s σ H _ I h) fun u s1 ⟨x, H1, I1, rx, a, dx, fs, ex, ea, l, q⟩ => ?_) ht
  subst ex
  obtain rfl : u = Value.ref a := rx
  refine getmeth_ok I1 ea c hm l ?_
  exact PySem.W.callWith_K0 (first := [.ref a]) I1.kIn hm.kp (wpAny_call (run_fnR (us := [.ref a]) (vs := [.ref a]) F hr hx I1 (.cons rfl .nil) q))
theorem pe_gi {X : Cx} {x : Str} {i : Int} {pos : Pos} (h : ∃ t, X.mg x = some (.int i t)) (hg : Gl X x := by rfl) (hd : (x == ("__debug__" : Str)) = false := by decide) : PE X (.Name x pos) (tC (.int i)) := by
  obtain ⟨t, hm⟩ := h
  exact pe_glob hg hm ⟨_, rfl⟩ hd
theorem pe_gs {X : Cx} {x z : Str} {pos : Pos} (h : ∃ t, X.mg x = some (.str z t)) (hg : Gl X x := by rfl) (hd : (x == ("__debug__" : Str)) = false := by decide) : PE X (.Name x pos) (tC (.str z)) := by
  obtain ⟨t, hm⟩ := h
  exact pe_glob hg hm ⟨_, rfl⟩ hd
theorem fn_l_pool (T : Txt K mg) : Fn P w K mg base 1 (ga K "_law_pool") (spPool K) := by
  refine fn_def T.d_l_pool sc_l_pool (fun _ _ _ _ _ _ us hl => match us, hl with | [_, _], _ => rfl) (fun vs H Q E h => ?_) (fun cdv A outer s H vs Q E hr h => ?_)
  · obtain ⟨a, ns, b, rfl, _⟩ := h
    rfl
  · obtain ⟨a, ns, b, rfl, hS, hz, k⟩ := h
    refine ⟨_, pss_one (ps_ret (pe_lst (pa_cons (pe_callTy call_list_of (by rfl) T.f_list (by decide +kernel) (pa_cons (pv 0) pa_nil)) (pa_cons (pe_int) (pa_cons (pe_int) (pa_cons (pe_int) (pa_cons (pe_int) (pa_cons (pv 1) pa_nil)))))))), ?_⟩
    refine ⟨_, rfl, a, _, rfl, .inl hS, fun c nc => ?_⟩
    refine ⟨_, rfl, (by show 6 ≤ sizeLine; decide), fun p np => ?_⟩
    have ncp : c ≠ p := ne_of_none upd_same np
    have np0 : H p = none := by rw [upd_ne ncp.symm] at np; exact np
    refine k p _ ⟨ns, c, 0, 0, 1, 0, b⟩ (fun x o e => ?_) np0 nc ⟨upd_same, (upd_ne ncp).trans upd_same, hz⟩ rfl
    rw [upd_ne (ne_of_none e np0), upd_ne (ne_of_none e nc)]
    exact e
theorem w_ix {σ : L2.St} {H : Hp} {Q : VK} {i : Nat} {p : Addr} {xs : List V} {k : Int} {v : V} (hp : H p = some (.lst xs)) (ha : atI xs k = some v) (q : Q v H) (hs : σ[i]? = some (some (.ref p)) := by rfl) : tOp (rIxL K) (tVar i) (tC (.int k)) σ H Q :=
  ⟨_, hs, p, xs, k, v, rfl, rfl, SqL.of hp, ha, q⟩
theorem fn_l_draw (T : Txt K mg) : Fn P w K mg base 1 (ga K "_law_draw") (spDraw) := by
  refine fn_def T.d_l_draw sc_l_draw (fun _ _ _ _ _ _ us hl => match us, hl with | [_, _], _ => rfl) (fun vs H Q E h => ?_) (fun cdv A outer s H vs Q E hr h => ?_)
  · obtain ⟨a, ns, b, rfl, _⟩ := h
    rfl
  · obtain ⟨p, n, ⟨cells, at_, ix, big, st, run, bud⟩, rfl, hP, h0, h1, k⟩ := h
    have nd := sc_l_draw.nd
    refine ⟨_, Evl.pss_cut (ps_if (PW.pt (pw_and (pt_cmpR op_le (pe_ix ix_list (pv 0) (pe_int) (fun _ _ => rfl)) (pe_int) (nomark _)) (pw_and (pt_cmpR op_le (pe_ix ix_list (pv 0) (pe_int) (fun _ _ => rfl)) (pe_int) (nomark _)) (pw_and1 (pt_cmpR op_lt (pe_ix ix_list (pv 0) (pe_int) (fun _ _ => rfl)) (pe_callB call_len_seq (by rfl) T.f_len PySem.boot_len (pa_cons (pe_ix ix_list (pv 0) (pe_int) (fun _ _ => rfl)) pa_nil)) (nomark _)))))) (pss_cons (ps_set (i := 2) nd rfl (by first | exact Or.inl rfl | exact Or.inr rfl) (pe_ix ix_list (pe_ix ix_list (pv 0) (pe_int) (fun _ _ => rfl)) (pe_ix ix_list (pv 0) (pe_int) (fun _ _ => rfl)) (fun _ _ => rfl)))
      (pss_cons (ps_asg (pe_op op_add (pe_ix ix_list (pv 0) (pe_int) (fun _ _ => rfl)) (pe_int)) (pg_sub (pv 0) (pe_int) set_list))
      (pss_cons (ps_asg (pe_op op_mod (pe_callTy call_int1 (by rfl) T.f_int (by decide +kernel) (pa_cons (pe_op op_add (pe_op op_mul (pe_ix ix_list (pv 0) (pe_int) (fun _ _ => rfl)) (pe_int)) (pv 2)) pa_nil)) (pe_int)) (pg_sub (pv 0) (pe_int) set_list))
      (pss_cons (ps_asg (pe_int) (pg_sub (pv 0) (pe_int) set_list))
      (pss_one (ps_if (pt_cmpR op_ge (pv 2) (pe_op op_pow (pe_int) (pe_int)) (nomark _)) (pss_one (ps_asg (pv 2) (pg_sub (pv 0) (pe_int) set_list))) (pss_nil))))))) (pss_nil))
      (pss_cons (ps_if (pt_cmpR op_gt (pe_ix ix_list (pv 0) (pe_int) (fun _ _ => rfl)) (pe_int) (nomark _)) (pss_cons (ps_set (i := 3) nd rfl (by first | exact Or.inl rfl | exact Or.inr rfl) (pe_op op_mod (pe_callTy call_int1 (by rfl) T.f_int (by decide +kernel) (pa_cons (pe_ix ix_list (pv 0) (pe_int) (fun _ _ => rfl)) pa_nil)) (pv 1)))
      (pss_cons (ps_asg (pe_op op_fdiv (pe_ix ix_list (pv 0) (pe_int) (fun _ _ => rfl)) (pv 1)) (pg_sub (pv 0) (pe_int) set_list))
      (pss_cons (ps_asg (pe_int) (pg_sub (pv 0) (pe_int) set_list))
      (pss_one (ps_ret (pv 3)))))) (pss_nil))
      (pss_cons (ps_asg (pe_op op_sub (pe_ix ix_list (pv 0) (pe_int) (fun _ _ => rfl)) (pe_int)) (pg_sub (pv 0) (pe_int) set_list))
      (pss_cons (ps_asg (pe_op op_mod (pe_callTy call_int1 (by rfl) T.f_int (by decide +kernel) (pa_cons (pe_op op_add (pe_op op_mul (pe_ix ix_list (pv 0) (pe_int) (fun _ _ => rfl)) (pe_int)) (pe_int)) pa_nil)) (pe_int)) (pg_sub (pv 0) (pe_int) set_list))
      (pss_one (ps_ret (pe_op op_mod (pe_op op_mod (pe_callTy call_int1 (by rfl) T.f_int (by decide +kernel) (pa_cons (pe_op op_add (pe_op op_mul (pe_ix ix_list (pv 0) (pe_int) (fun _ _ => rfl)) (pe_int)) (pe_int)) pa_nil)) (pe_int)) (pv 1))))))), ?_⟩
    have hl : H p = some (.lst [.ref at_, .int ix, .int big, .int st, .int run, .int bud]) := hP.l
    have hc : H at_ = some (.lst (cells.map V.int)) := hP.c
    have nac : at_ ≠ p := hP.ne
    refine ⟨fun σ H' => ∃ (P' : Pl) (v : Option V), σ = [some (.ref p), some (.int n), v, none] ∧ H' = upd H p (.lst P'.l) ∧ P'.at_ = at_ ∧ P'.cells = cells ∧ P'.bud = bud, ?_, ?_⟩
    · have no : ∃ (P' : Pl) (v : Option V), L2.start n_l_draw [V.ref p, V.int n] = [some (.ref p), some (.int n), v, none] ∧ H = upd H p (.lst (Pl.l P')) ∧ P'.at_ = at_ ∧ P'.cells = cells ∧ P'.bud = bud := by
        refine ⟨⟨cells, at_, ix, big, st, run, bud⟩, none, rfl, ?_, rfl, rfl, rfl⟩
        funext b
        by_cases e : b = p
        · subst e; rw [upd_same]; exact hl
        · rw [upd_ne e]
      refine ⟨_, rfl, p, _, _, _, rfl, rfl, SqL.of hl, rfl, _, _, rfl, rfl, _, rfl, ite2 (fun c1 => ?_) fun c1 => iteF no⟩
      refine ⟨_, rfl, p, _, _, _, rfl, rfl, SqL.of hl, rfl, _, _, rfl, rfl, _, rfl, ite2 (fun c2 => ?_) fun c2 => iteF no⟩
      refine ⟨_, rfl, p, _, _, _, rfl, rfl, SqL.of hl, rfl, _, rfl, p, _, _, _, rfl, rfl, SqL.of hl, rfl, at_, _, rfl, .inl (SqL.of hc), _, _, rfl, rfl, _, rfl, ite2 (fun c3 => ?_) fun c3 => no⟩
      have c3' : ix < cells.length := by
        have := of_decide_eq_true c3
        rw [List.length_map] at this
        omega
      have hx : atI (cells.map V.int) (ix : Int) = some (V.int cells[ix]) := at_of (j := ix) rfl (by rw [List.getElem?_map, List.getElem?_eq_getElem c3']; rfl)
      refine ⟨_, rfl, p, _, _, _, rfl, rfl, SqL.of hl, rfl, _, rfl, p, _, _, _, rfl, rfl, SqL.of hl, rfl, at_, _, _, _, rfl, rfl, SqL.of hc, hx, ?_⟩
      refine ⟨_, rfl, p, _, _, _, rfl, rfl, SqL.of hl, rfl, _, _, rfl, rfl, _, rfl, p, _, _, _, rfl, rfl, hl, rfl, ?_⟩
      refine ⟨_, rfl, p, _, _, _, rfl, rfl, SqL.of upd_same, rfl, _, _, rfl, rfl, .inr ⟨by decide, by decide⟩, _, rfl, _, _, rfl, rfl, .inl ⟨_, rfl, _, _, rfl, rfl, (by show (0 : Int) < 2147483647; decide), _, rfl, p, _, _, _, rfl, rfl, upd_same, rfl, ?_⟩⟩
      refine ⟨_, rfl, p, _, _, _, rfl, rfl, upd_same, rfl, ?_⟩
      refine ⟨_, rfl, _, _, rfl, rfl, ⟨by decide, by decide, by decide⟩, _, _, rfl, rfl, _, rfl, ite2 (fun c4 => ?_) fun c4 => ?_⟩
      · refine ⟨_, rfl, _, rfl, p, _, _, _, rfl, rfl, upd_same, rfl, ?_⟩
        refine ⟨⟨cells, at_, ix + 1, cells[ix], (st * 31 + cells[ix]) % 2147483647, 7, bud⟩, _, rfl, ?_, rfl, rfl, rfl⟩
        rw [upd_upd, upd_upd, upd_upd]
        rfl
      · refine ⟨⟨cells, at_, ix + 1, big, (st * 31 + cells[ix]) % 2147483647, 7, bud⟩, _, rfl, ?_, rfl, rfl, rfl⟩
        rw [upd_upd, upd_upd]
        rfl
    · rintro σ H' ⟨⟨cells', at', ix', big', st', run', bud'⟩, v, rfl, rfl, e1, e2, e3⟩
      dsimp only at e1 e2 e3
      subst e1 e2 e3
      refine ⟨_, rfl, p, _, _, _, rfl, rfl, SqL.of upd_same, rfl, _, _, rfl, rfl, _, rfl, ite2 (fun c5 => ?_) fun c5 => ?_⟩
      · refine ⟨_, rfl, p, _, _, _, rfl, rfl, SqL.of upd_same, rfl, .inl ⟨_, rfl, _, rfl, _, _, rfl, rfl, h0, ?_⟩⟩
        refine ⟨_, rfl, p, _, _, _, rfl, rfl, SqL.of upd_same, rfl, _, rfl, _, _, rfl, rfl, ⟨h0, h1⟩, _, rfl, p, _, _, _, rfl, rfl, upd_same, rfl, ?_⟩
        refine ⟨_, rfl, p, _, _, _, rfl, rfl, upd_same, rfl, _, rfl, ?_⟩
        rw [upd_upd, upd_upd]
        exact k (big' % n) ⟨cells', at', ix', big' / n, st', 0, bud'⟩ (Int.emod_nonneg _ (by omega)) (Int.emod_lt_of_pos _ h0) rfl rfl rfl
      · refine ⟨_, rfl, p, _, _, _, rfl, rfl, SqL.of upd_same, rfl, _, _, rfl, rfl, _, rfl, p, _, _, _, rfl, rfl, upd_same, rfl, ?_⟩
        refine ⟨_, rfl, p, _, _, _, rfl, rfl, SqL.of upd_same, rfl, _, _, rfl, rfl, .inr ⟨by decide, by decide⟩, _, _, rfl, rfl, .inl ⟨_, rfl, _, _, rfl, rfl, (by show (0 : Int) < 2147483647; decide), _, rfl, p, _, _, _, rfl, rfl, upd_same, rfl, ?_⟩⟩
        refine ⟨_, rfl, p, _, _, _, rfl, rfl, SqL.of upd_same, rfl, _, _, rfl, rfl, .inr ⟨by decide, by decide⟩, _, _, rfl, rfl, .inl ⟨_, rfl, _, _, rfl, rfl, (by show (0 : Int) < 2147483647; decide), _, rfl, _, _, rfl, rfl, h0, ?_⟩⟩
        rw [upd_upd, upd_upd]
        exact k _ ⟨cells', at', ix', big', (st' * 48271 + 12345) % 2147483647, run' - 1, bud'⟩ (Int.emod_nonneg _ (by omega)) (Int.emod_lt_of_pos _ h0) rfl rfl rfl
end
end LL
namespace LL
open PySem PySem.Spec PyProof.Rows L2 He Evl
section
variable {P : Program} {w : World} {K : PySem.W.Frag} {mg : Str → Option Value} {base : Heap}
/-! ### data and their kinds -/
def Dep : Nat → PyData → Prop
  | 0, .list _ => False
  | 0, .tuple _ => False
  | n + 1, .list ds => ds.length ≤ 100000 ∧ ∀ d ∈ ds, Dep n d
  | n + 1, .tuple ds => ds.length ≤ 100000 ∧ ∀ d ∈ ds, Dep n d
  | _, .dict _ => False
  | _, _ => True
def tyN : PyData → String
  | .none => "NoneType" | .bool _ => "bool" | .int _ => "int" | .str _ => "str" | .list _ => "list" | .tuple _ => "tuple" | .dict _ => "dict"
def isTup : PyData → Bool | .tuple _ => true | _ => false
def isLst : PyData → Bool | .list _ => true | _ => false
def isBoo : PyData → Bool | .bool _ => true | _ => false
def isInt : PyData → Bool | .bool _ => true | .int _ => true | _ => false
def isStr : PyData → Bool | .str _ => true | _ => false
theorem ty_dp {H : Hp} {v : V} {d : PyData} (h : Dp K H v d) : TyX K H v (.type (tyN d)) := by
  cases h with
  | non => exact .base .non
  | bl b => exact .base (.bl b)
  | int i => exact .base (.int i)
  | str x => exact .base (.str x)
  | lst hs _ =>
    rcases hs with (h | ⟨o, h⟩) | ⟨o, its, n, h, c, _⟩
    · exact .base (.lst h)
    · exact .base (.frz h)
    · exact .kList h c
  | tup hs _ =>
    rcases hs with (h | ⟨o, h⟩) | ⟨o, its, n, h, c, _⟩
    · exact .base (.tup h)
    · exact .fTuple h
    · exact .kTuple h c
theorem kit_tup (d : PyData) : PySem.W.kitOne K (.type (tyN d)) (.type "tuple") = some (isTup d) := by cases d <;> (simp only [tyN, isTup, isLst, isBoo, isInt, isStr]; exact kit_ty (by decide +kernel))
theorem kit_lst (d : PyData) : PySem.W.kitOne K (.type (tyN d)) (.type "list") = some (isLst d) := by cases d <;> (simp only [tyN, isTup, isLst, isBoo, isInt, isStr]; exact kit_ty (by decide +kernel))
theorem kit_boo (d : PyData) : PySem.W.kitOne K (.type (tyN d)) (.type "bool") = some (isBoo d) := by cases d <;> (simp only [tyN, isTup, isLst, isBoo, isInt, isStr]; exact kit_ty (by decide +kernel))
theorem kit_int (d : PyData) : PySem.W.kitOne K (.type (tyN d)) (.type "int") = some (isInt d) := by cases d <;> (simp only [tyN, isTup, isLst, isBoo, isInt, isStr]; exact kit_ty (by decide +kernel))
theorem kit_str (d : PyData) : PySem.W.kitOne K (.type (tyN d)) (.type "str") = some (isStr d) := by cases d <;> (simp only [tyN, isTup, isLst, isBoo, isInt, isStr]; exact kit_ty (by decide +kernel))
theorem dp_all_len {H : Hp} : ∀ {xs : List V} {ds : List PyData}, DpAll K H xs ds → xs.length = ds.length
  | _, _, .nil => rfl
  | _, _, .cons _ t => congrArg (· + 1) (dp_all_len t)
theorem dp_all_get {H : Hp} : ∀ {xs : List V} {ds : List PyData} {i : Nat}, DpAll K H xs ds → i < xs.length → ∃ x d, xs[i]? = some x ∧ ds[i]? = some d ∧ Dp K H x d
  | _, _, 0, .cons h _, _ => ⟨_, _, rfl, rfl, h⟩
  | _, _, i + 1, .cons _ t, l => dp_all_get (i := i) t (by simpa using l)
  | _, _, _, .nil, l => by simp at l
def isNon : PyData → Bool | .none => true | _ => false
theorem dp_non {H : Hp} {v : V} {d : PyData} (h : Dp K H v d) : decide (v = .non) = isNon d := by
  cases h <;> simp [isNon]
mutual
theorem dp_mono {H H' : Hp} (e : Ex H H') : ∀ {v : V} {d : PyData}, Dp K H v d → Dp K H' v d
  | _, _, .non => .non
  | _, _, .bl b => .bl b
  | _, _, .int i => .int i
  | _, _, .str x => .str x
  | _, _, .lst h a => .lst (ex_l e h) (dpa_mono e a)
  | _, _, .tup h a => .tup (ex_t e h) (dpa_mono e a)
theorem dpa_mono {H H' : Hp} (e : Ex H H') : ∀ {vs : List V} {ds : List PyData}, DpAll K H vs ds → DpAll K H' vs ds
  | _, _, .nil => .nil
  | _, _, .cons h a => .cons (dp_mono e h) (dpa_mono e a)
end
theorem ev_isi {σ : L2.St} {H : Hp} {ta : TE} {x : V} {d : PyData} {n : String} {b : Bool} (ha : Ev ta σ H x) (hd : Dp K H x d) (hk : PySem.W.kitOne K (.type (tyN d)) (.type n) = some b) : Ev (tCB (rIsi K) (tCons ta (tCons (tC (.ty n)) tNil))) σ H (.bl b) :=
  fun H1 e Q q => ha H1 e _ fun H2 e2 => ⟨_, _, _, _, b, rfl, ClsV.ty _, ty_dp (dp_mono (e.trans e2) hd), hk, q H2 e2⟩
theorem ev_isN {σ : L2.St} {H : Hp} {ta : TE} {x : V} {d : PyData} (ha : Ev ta σ H x) (hd : Dp K H x d) : Ev (tOp (fun x y H Q => y = .non ∧ Q (.bl (decide (x = .non))) H) ta (tC .non)) σ H (.bl (isNon d)) :=
  fun H1 e Q q => ha H1 e _ fun H2 e2 => ⟨rfl, by rw [dp_non hd]; exact q H2 e2⟩
theorem ev_eqD {σ : L2.St} {H : Hp} {ta tb : TE} {x y : V} {d f : PyData} (ha : Ev ta σ H x) (hb : Ev tb σ H y) (hd : Dp K H x d) (hf : Dp K H y f) (s1 : SeqAt.shaped d = true) (s2 : SeqAt.shaped f = true) : Ev (tOp (rEqD K) ta tb) σ H (.bl (PyData.eqv d f)) :=
  fun H1 e Q q => ha H1 e _ fun H2 e2 => hb H2 (e.trans e2) _ fun H3 e3 => ⟨d, f, dp_mono ((e.trans e2).trans e3) hd, dp_mono ((e.trans e2).trans e3) hf, s1, s2, q H3 (e2.trans e3)⟩
theorem ev_lenS {σ : L2.St} {H : Hp} {ta : TE} {a : Addr} {xs : List V} (ha : Ev ta σ H (.ref a)) (h : SqL K H a xs ∨ SqT K H a xs) : Ev (tCB (rLenS K) (tCons ta tNil)) σ H (.int (xs.length : Int)) :=
  fun H1 e Q q => ha H1 e _ fun H2 e2 => ⟨_, xs, rfl, h.imp (ex_l (e.trans e2)) (ex_t (e.trans e2)), q H2 e2⟩
open Classical in
noncomputable def same (d e : PyData) : Bool := decide (d = e)
theorem same_t {d e : PyData} (h : d = e) : same d e = true := by simp [same, h]
theorem same_f {d e : PyData} (h : d ≠ e) : same d e = false := by simp [same, h]
theorem same_of {d e : PyData} {b : Bool} (h : b = true ↔ d = e) : b = same d e := by
  cases b with
  | true => exact (same_t (h.mp rfl)).symm
  | false => exact (same_f fun z => by simpa using h.mpr z).symm
def spSame (K : PySem.W.Frag) (n : Nat) : Sp := fun vs H Q _ => ∃ (x y : V) (d e : PyData), vs = [x, y] ∧ Dp K H x d ∧ Dp K H y e ∧ Dep n e ∧ ∀ H', Ex H H' → Q (.bl (same d e)) H'
theorem sv_same {n : Nat} {H : Hp} {x y : V} {d e : PyData} (hd : Dp K H x d) (he : Dp K H y e) (hn : Dep n e) : SpV (spSame K n) [x, y] H (.bl (same d e)) :=
  fun H1 e1 Q q E => ⟨x, y, d, e, rfl, dp_mono e1 hd, dp_mono e1 he, hn, fun H' e2 => q H' e2⟩
theorem ev_fn {sp : Sp} {vs : List V} {E : XK} {ta : TA} {σ : L2.St} {H : Hp} {z : V} (h : EvA ta σ H vs) (hs : SpV sp vs H z) : Ev (fun σ H Q => ta σ H fun vs H1 => sp vs H1 Q E) σ H z := fun H1 e Q q =>
  h H1 e _ fun H2 e2 => hs H2 (e.trans e2) Q (fun H3 e3 => q H3 (e2.trans e3)) E
theorem rv_seq {H : Hp} {p : Addr} {xs : List V} {i : Int} {v : V} (h : SqL K H p xs ∨ SqT K H p xs) (ha : atI xs i = some v) : RV (fun x y H Q => rIxL K x y H Q ∨ rIxT K x y H Q ∨ rIxS x y H Q) (.ref p) (.int i) H v :=
  fun H1 e Q q => h.elim (fun h => .inl (rv_ixL h ha H1 e Q q)) (fun h => .inr (.inl (rv_ixT h ha H1 e Q q)))
theorem leaf_eq {H : Hp} {x y : V} {d e : PyData} (hd : Dp K H x d) (he : Dp K H y e) (ht : tyN d = tyN e) (h1 : isTup e = false) (h2 : isLst e = false) : scal x y = true ∧ decide (x = y) = same d e := by
  have hs : scal x y = true := by cases hd <;> cases he <;> first | rfl | (simp [tyN] at ht; done) | (simp [isTup] at h1; done) | (simp [isLst] at h2; done)
  refine ⟨hs, same_of ?_⟩
  cases hd <;> cases he <;> first | (simp [tyN] at ht; done) | (simp [isTup] at h1; done) | (simp [isLst] at h2; done) | simp
def spPrev (K : PySem.W.Frag) : Nat → Sp
  | 0 => fun _ _ _ _ => False
  | n + 1 => spSame K n
theorem dp_seq {H : Hp} {a : Addr} {e : PyData} (h : Dp K H (.ref a) e) : ∃ xs ds, DpAll K H xs ds ∧ ((e = .list ds ∧ SqL K H a xs) ∨ (e = .tuple ds ∧ SqT K H a xs)) := by
  cases h with
  | lst h1 h2 => exact ⟨_, _, h2, .inl ⟨rfl, h1⟩⟩
  | tup h1 h2 => exact ⟨_, _, h2, .inr ⟨rfl, h1⟩⟩
theorem fn_l_same (T : Txt K mg) : ∀ n, Fn P w K mg base (n + 1) (ga K "_law_same") (spSame K n) := by
  have go : ∀ n, Fn P w K mg base n (ga K "_law_same") (spPrev K n) → Fn P w K mg base (n + 1) (ga K "_law_same") (spSame K n) := by
    intro n IH
    refine fn_def T.d_l_same sc_l_same (fun _ _ _ _ _ _ us hl => match us, hl with | [_, _], _ => rfl) (fun vs H Q E h => ?_) (fun cdv A outer s H vs Q E hr h => ?_)
    · obtain ⟨a, ns, _, b, rfl, _⟩ := h
      rfl
    · obtain ⟨x, y, d, e, rfl, hd, he, hde, k⟩ := h
      have nd := sc_l_same.nd
      refine ⟨_, pss_cons (ps_if (PW.pt (pw_or (pt_val (pe_callB call_isi (by rfl) T.f_isinstance (by decide +kernel) (pa_cons (pv 1) (pa_cons (pe_bltn (v := .ty "tuple") rfl T.f_tuple (by decide +kernel) rfl) pa_nil)))) (pw_or1 (pt_val (pe_callB call_isi (by rfl) T.f_isinstance (by decide +kernel) (pa_cons (pv 1) (pa_cons (pe_bltn (v := .ty "list") rfl T.f_list (by decide +kernel) rfl) pa_nil))))))) (pss_cons (ps_if (PW.pt (pw_or (pt_cmpR op_ne (pe_callB call_isi (by rfl) T.f_isinstance (by decide +kernel) (pa_cons (pv 1) (pa_cons (pe_bltn (v := .ty "tuple") rfl T.f_tuple (by decide +kernel) rfl) pa_nil))) (pe_callB call_isi (by rfl) T.f_isinstance (by decide +kernel) (pa_cons (pv 0) (pa_cons (pe_bltn (v := .ty "tuple") rfl T.f_tuple (by decide +kernel) rfl) pa_nil))) (nomark _)) (pw_or1 (pt_cmpR op_ne (pe_callB call_isi (by rfl) T.f_isinstance (by decide +kernel) (pa_cons (pv 1) (pa_cons (pe_bltn (v := .ty "list") rfl T.f_list (by decide +kernel) rfl) pa_nil))) (pe_callB call_isi (by rfl) T.f_isinstance (by decide +kernel) (pa_cons (pv 0) (pa_cons (pe_bltn (v := .ty "list") rfl T.f_list (by decide +kernel) rfl) pa_nil))) (nomark _))))) (pss_one (ps_ret (pe_bl))) (pss_nil))
      (pss_cons (ps_if (pt_cmpR op_ne (pe_callB call_len_seq (by rfl) T.f_len PySem.boot_len (pa_cons (pv 0) pa_nil)) (pe_callB call_len_seq (by rfl) T.f_len PySem.boot_len (pa_cons (pv 1) pa_nil)) (nomark _)) (pss_one (ps_ret (pe_bl))) (pss_nil))
      (pss_cons (ps_for (passes_of rfl) rfl (pi_range1 rfl T.f_range (pa_cons (pe_callB call_len_seq (by rfl) T.f_len PySem.boot_len (pa_cons (pv 1) pa_nil)) pa_nil)) (pg_name (i := 2) nd rfl (by first | exact Or.inl rfl | exact Or.inr rfl)) (pss_one (ps_if (pt_not (pt_val (pe_fn T.d_l_same IH hr T.g_l_same pc (pa_cons (pe_ix ix_seq (pv 0) (pv 2) (fun _ _ => rfl)) (pa_cons (pe_ix ix_seq (pv 1) (pv 2) (fun _ _ => rfl)) pa_nil))))) (pss_one (ps_ret (pe_bl))) (pss_nil))))
      (pss_one (ps_ret (pe_bl)))))) (pss_nil))
      (pss_cons (ps_if (PW.pt (pw_or (pt_cmpR op_isN (pv 1) (pe_non) (nomark _)) (pw_or1 (pt_val (pe_callB call_isi (by rfl) T.f_isinstance (by decide +kernel) (pa_cons (pv 1) (pa_cons (pe_bltn (v := .ty "bool") rfl T.f_bool (by decide +kernel) rfl) pa_nil))))))) (pss_one (ps_ret (pe_and (pe_cmpR op_eq (pe_cmpR op_isN (pv 0) (pe_non) (nomark _)) (pe_cmpR op_isN (pv 1) (pe_non) (nomark _)) (nomark _)) (pe_and (pe_or (pe_cmpR op_isN (pv 1) (pe_non) (nomark _)) (pe_one (pe_callB call_isi (by rfl) T.f_isinstance (by decide +kernel) (pa_cons (pv 0) (pa_cons (pe_bltn (v := .ty "bool") rfl T.f_bool (by decide +kernel) rfl) pa_nil))))) (pe_one (pe_cmpR op_eq (pv 0) (pv 1) (nomark _))))))) (pss_nil))
      (pss_cons (ps_if (pt_val (pe_callB call_isi (by rfl) T.f_isinstance (by decide +kernel) (pa_cons (pv 1) (pa_cons (pe_bltn (v := .ty "int") rfl T.f_int (by decide +kernel) rfl) pa_nil)))) (pss_one (ps_ret (pe_and (pe_callB call_isi (by rfl) T.f_isinstance (by decide +kernel) (pa_cons (pv 0) (pa_cons (pe_bltn (v := .ty "int") rfl T.f_int (by decide +kernel) rfl) pa_nil))) (pe_and (pe_not (pe_callB call_isi (by rfl) T.f_isinstance (by decide +kernel) (pa_cons (pv 0) (pa_cons (pe_bltn (v := .ty "bool") rfl T.f_bool (by decide +kernel) rfl) pa_nil)))) (pe_one (pe_cmpR op_eq (pv 0) (pv 1) (nomark _))))))) (pss_nil))
      (pss_one (ps_ret (pe_and (pe_callB call_isi (by rfl) T.f_isinstance (by decide +kernel) (pa_cons (pv 0) (pa_cons (pe_bltn (v := .ty "str") rfl T.f_str (by decide +kernel) rfl) pa_nil))) (pe_one (pe_cmpR op_eq (pv 0) (pv 1) (nomark _)))))))), ?_⟩
      have vx : ∀ H1, Ev (tVar 0) (L2.start n_l_same [x, y]) H1 x := fun H1 => ev_var rfl
      have vy : ∀ H1, Ev (tVar 1) (L2.start n_l_same [x, y]) H1 y := fun H1 => ev_var rfl
      refine s_if (et_or (et_B (ev_isi (vy _) he (kit_tup e))) fun _ => et_B (ev_isi (vy _) he (kit_lst e))) (fun hb H1 e1 => ?_) (fun hb H1 e1 => ?_)
      · have hb' : isTup e = true ∨ isLst e = true := by
          cases h1 : isTup e with
          | true => exact .inl rfl
          | false => rw [h1] at hb; exact .inr (by simpa using hb)
        have hd1 := dp_mono e1 hd
        have he1 := dp_mono e1 he
        refine s_if (et_or (et_test (ev_op (ev_isi (vy _) he1 (kit_tup e)) (ev_isi (vx _) hd1 (kit_tup d)) (rv_ne rfl))) fun _ => et_test (ev_op (ev_isi (vy _) he1 (kit_lst e)) (ev_isi (vx _) hd1 (kit_lst d)) (rv_ne rfl))) (fun hc H2 e2 => ?_) (fun hc H2 e2 => ?_)
        · have ne : d ≠ e := fun z => by subst z; simp at hc
          exact s_ret ev_c fun H3 e3 => by rw [same_f ne] at k; exact k H3 ((e1.trans e2).trans e3)
        · have h1 : isTup e = isTup d := by
            cases h1 : isTup e <;> cases h2 : isTup d <;> rw [h1, h2] at hc <;> simp at hc ⊢
          have h2 : isLst e = isLst d := by
            cases h1 : isLst e <;> cases h2 : isLst d <;> rw [h1, h2] at hc <;> simp at hc ⊢
          have both : ∃ (a b : Addr) (xs ys : List V) (ds es : List PyData), x = .ref a ∧ y = .ref b ∧ DpAll K H xs ds ∧ DpAll K H ys es ∧ (SqL K H a xs ∨ SqT K H a xs) ∧ (SqL K H b ys ∨ SqT K H b ys) ∧ (d = e ↔ ds = es) ∧ es.length ≤ 100000 ∧ ∃ m, n = m + 1 ∧ ∀ z ∈ es, Dep m z := by
            cases he with
            | lst g1 g2 =>
              cases hd with
              | lst f1 f2 =>
                cases n with
                | zero => exact hde.elim
                | succ m => exact ⟨_, _, _, _, _, _, rfl, rfl, f2, g2, .inl f1, .inl g1, by simp, hde.1, m, rfl, hde.2⟩
              | _ => simp [isLst] at h2
            | tup g1 g2 =>
              cases hd with
              | tup f1 f2 =>
                cases n with
                | zero => exact hde.elim
                | succ m => exact ⟨_, _, _, _, _, _, rfl, rfl, f2, g2, .inr f1, .inr g1, by simp, hde.1, m, rfl, hde.2⟩
              | _ => simp [isTup] at h1
            | _ => simp [isTup, isLst] at hb'
          obtain ⟨a, b, xs, ys, ds, es, rfl, rfl, fx, fy, sx, sy, hiff, hlen, m, rfl, hdm⟩ := both
          have lx := dp_all_len fx
          have ly := dp_all_len fy
          have e12 := e1.trans e2
          have sx2 := sx.imp (ex_l e12) (ex_t e12)
          have sy2 := sy.imp (ex_l e12) (ex_t e12)
          refine s_if (et_test (ev_op (ev_lenS (vx _) sx2) (ev_lenS (vy _) sy2) (rv_ne rfl))) (fun hc H3 e3 => ?_) (fun hc H3 e3 => ?_)
          · have ne : d ≠ e := fun z => by
              have := hiff.mp z
              subst this
              simp [lx, ly] at hc
            exact s_ret ev_c fun H4 e4 => by rw [same_f ne] at k; exact k H4 ((e12.trans e3).trans e4)
          · have el : xs.length = ys.length := by
              have : (xs.length : Int) = ys.length := by simpa using hc
              omega
            have e13 := e12.trans e3
            have sy3 := sy.imp (ex_l e13) (ex_t e13)
            have sx3 := sx.imp (ex_l e13) (ex_t e13)
            refine s_forR1 (n := (ys.length : Int)) (ea_cons (ev_lenS (vy _) sy3) ea_nil) (by omega) (fun i σ' H' => Ex H H' ∧ (∃ v, σ' = [some (.ref a), some (.ref b), v]) ∧ ds.take i = es.take i) (fun H4 e4 => ⟨e13.trans e4, ⟨none, rfl⟩, rfl⟩) ?_ ?_
            · rintro i σ' H' hi ⟨e4, ⟨v, rfl⟩, ht⟩
              have hi' : i < ys.length := by omega
              obtain ⟨x1, d1, gx, gd, gp⟩ := dp_all_get fx (by omega : i < xs.length)
              obtain ⟨y1, d2, gy, ge, gq⟩ := dp_all_get fy hi'
              have sx4 := sx.imp (ex_l e4) (ex_t e4)
              have sy4 := sy.imp (ex_l e4) (ex_t e4)
              have r1 : Ev (tOp (fun x y H Q => rIxL K x y H Q ∨ rIxT K x y H Q ∨ rIxS x y H Q) (tVar 0) (tVar 2)) [some (.ref a), some (.ref b), some (.int (i : Int))] H' x1 := ev_op (ev_var rfl) (ev_var rfl) (rv_seq sx4 (atI_nat gx))
              have r2 : Ev (tOp (fun x y H Q => rIxL K x y H Q ∨ rIxT K x y H Q ∨ rIxS x y H Q) (tVar 1) (tVar 2)) [some (.ref a), some (.ref b), some (.int (i : Int))] H' y1 := ev_op (ev_var rfl) (ev_var rfl) (rv_seq sy4 (atI_nat gy))
              have td : ds.take (i + 1) = ds.take i ++ [d1] := by rw [List.take_add_one, gd]; rfl
              have te : es.take (i + 1) = es.take i ++ [d2] := by rw [List.take_add_one, ge]; rfl
              refine s_if (et_not (et_B (ev_fn (ea_cons r1 (ea_cons r2 ea_nil)) (sv_same (dp_mono e4 gp) (dp_mono e4 gq) (hdm _ (List.mem_of_getElem? ge)))))) (fun hc H5 e5 => ?_) (fun hc H5 e5 => ?_)
              · have n1 : d1 ≠ d2 := fun z => by rw [same_t z] at hc; simp at hc
                have ne : d ≠ e := fun z => by
                  have := hiff.mp z
                  subst this
                  rw [gd] at ge
                  exact n1 (Option.some.inj ge)
                exact s_ret ev_c fun H6 e6 => by rw [same_f ne] at k; exact k H6 ((e4.trans e5).trans e6)
              · have n1 : d1 = d2 := Classical.byContradiction fun z => by rw [same_f z] at hc; simp at hc
                exact ⟨e4.trans e5, ⟨_, rfl⟩, by rw [td, te, ht, n1]⟩
            · rintro σ' H' ⟨e4, ⟨v, rfl⟩, ht⟩
              have eq : ds = es := by
                have h1 : ds.take ds.length = ds := List.take_length
                have h2 : es.take es.length = es := List.take_length
                have z1 : ((ys.length : Int)).toNat = ds.length := by omega
                have z2 : ((ys.length : Int)).toNat = es.length := by omega
                rw [z1] at ht
                rw [h1] at ht
                rw [ht]
                rw [← z1, z2, h2]
              dsimp only
              exact s_ret ev_c fun H5 e5 => by rw [same_t (hiff.mpr eq)] at k; exact k H5 (e4.trans e5)
      · have n1 : isTup e = false := by cases h : isTup e <;> rw [h] at hb <;> simp at hb ⊢
        have n2 : isLst e = false := by cases h : isLst e <;> rw [h] at hb <;> simp at hb ⊢
        have hd1 := dp_mono e1 hd
        have he1 := dp_mono e1 he
        refine s_if (et_or (et_test (ev_isN (vy _) he1)) fun _ => et_B (ev_isi (vy _) he1 (kit_boo e))) (fun hc H2 e2 => ?_) (fun hc H2 e2 => ?_)
        · have hd2 := dp_mono e2 hd1
          have he2 := dp_mono e2 he1
          refine s_ret (ev_is (ev_andV (ev_op (ev_isN (vx _) hd2) (ev_isN (vy _) he2) (rv_eq rfl)) (fun h => ev_andV (ev_orV (ev_isN (vy _) he2) (fun _ => ev_isi (vx _) hd2 (kit_boo d))) (fun h2 => ev_op (vx _) (vy _) (rv_eq (leaf_eq hd2 he2 ?_ n1 n2).1)))) ?_) fun H3 e3 => k H3 ((e1.trans e2).trans e3)
          · cases d <;> cases e <;> simp [isNon, isBoo] at h h2 hc <;> rfl
          · congr 1
            by_cases ht : tyN d = tyN e
            · rw [(leaf_eq hd2 he2 ht n1 n2).2]
              cases d <;> cases e <;> simp [isNon, isBoo, tyN] at hc ht ⊢
            · rw [same_f (fun z => ht (by rw [z]))]
              cases d <;> cases e <;> simp [isNon, isBoo, tyN] at hc ht ⊢
        · refine s_if (et_B (ev_isi (vy _) (dp_mono e2 he1) (kit_int e))) (fun hi H3 e3 => ?_) (fun hi H3 e3 => ?_)
          · have hd2 := dp_mono (e2.trans e3) hd1
            have he2 := dp_mono (e2.trans e3) he1
            refine s_ret (ev_is (ev_andV (ev_isi (vx _) hd2 (kit_int d)) (fun h => ev_andV (ev_notV (ev_isi (vx _) hd2 (kit_boo d))) (fun h2 => ev_op (vx _) (vy _) (rv_eq (leaf_eq hd2 he2 ?_ n1 n2).1)))) ?_) fun H4 e4 => k H4 (((e1.trans e2).trans e3).trans e4)
            · cases d <;> cases e <;> simp [isNon, isBoo, isInt] at h h2 hc hi <;> rfl
            · congr 1
              by_cases ht : tyN d = tyN e
              · rw [(leaf_eq hd2 he2 ht n1 n2).2]
                cases d <;> cases e <;> simp [isNon, isBoo, isInt, tyN] at hc hi ht ⊢
              · rw [same_f (fun z => ht (by rw [z]))]
                cases d <;> cases e <;> simp [isNon, isBoo, isInt, tyN] at hc hi ht ⊢
          · have hd2 := dp_mono (e2.trans e3) hd1
            have he2 := dp_mono (e2.trans e3) he1
            have es : ∃ s, e = .str s := by cases he <;> simp [isNon, isBoo, isInt, isTup, isLst] at hc hi n1 n2 ⊢
            obtain ⟨z, rfl⟩ := es
            refine s_ret (ev_is (ev_andV (ev_isi (vx _) hd2 (kit_str d)) (fun h => ev_op (vx _) (vy _) (rv_eq (leaf_eq hd2 he2 ?_ n1 n2).1))) ?_) fun H4 e4 => k H4 (((e1.trans e2).trans e3).trans e4)
            · cases d <;> simp [isStr] at h <;> rfl
            · congr 1
              by_cases ht : tyN d = tyN (.str z)
              · rw [(leaf_eq hd2 he2 ht n1 n2).2]
                cases d <;> simp [isStr, tyN] at ht ⊢
              · rw [same_f (fun z => ht (by rw [z]))]
                cases d <;> simp [isStr, tyN] at ht ⊢
  intro n
  induction n with
  | zero => exact go 0 (fun _ _ _ _ _ _ _ _ _ _ _ h => h.elim)
  | succ n ih => exact go (n + 1) ih
end
end LL
namespace LL
open PySem PySem.Spec PyProof.Rows L2 He Evl
section
variable {P : Program} {w : World} {K : PySem.W.Frag} {mg : Str → Option Value} {base : Heap}
/-- v is the tuple (n, d) -/
def PairAt (H : Hp) (v : V) (n d : Int) : Prop := ∃ a, v = .ref a ∧ H a = some (.tup [.int n, .int d])
theorem PairAt.mono {H H' : Hp} {v : V} {n d : Int} (e : Ex H H') (h : PairAt H v n d) : PairAt H' v n d := by
  obtain ⟨a, h1, h2⟩ := h
  exact ⟨a, h1, e _ _ h2⟩
/-- the law's own lowest terms: k tells the size -/
def spLow (K : PySem.W.Frag) : Sp := fun vs H Q _ => ∃ (n d : Int), vs = [.int n, .int d] ∧ 0 < d ∧ d.natAbs < 2 ^ 1900 ∧
  ∀ v H', Ex H H' → PairAt H' v (mkRat n d.toNat).num (mkRat n d.toNat).den → Q v H'
theorem half_mod {a b : Nat} (h : b < a) (hb : 0 < b) : 2 * (a % b) ≤ a := by
  have h1 := Nat.div_add_mod a b
  have h2 := Nat.mod_lt a hb
  have h3 : 1 ≤ a / b := (Nat.le_div_iff_mul_le hb).mpr (by omega)
  have h4 : b ≤ b * (a / b) := Nat.le_mul_of_pos_right b (by omega)
  omega
theorem fn_l_less (T : Txt K mg) : Fn P w K mg base 1 (ga K "_law_less") (spLow K) := by
  refine fn_def T.d_l_less sc_l_less (fun _ _ _ _ _ _ us hl => match us, hl with | [_, _], _ => rfl) (fun vs H Q E h => ?_) (fun cdv A outer s H vs Q E hr h => ?_)
  · obtain ⟨n, d, rfl, _⟩ := h
    rfl
  · obtain ⟨n, d, rfl, hd, hz, k⟩ := h
    have nd := sc_l_less.nd
    refine ⟨_, pss_cons (ps_set (i := 2) nd rfl (by first | exact Or.inl rfl | exact Or.inr rfl) (pe_callB call_abs (by rfl) T.f_abs (by decide +kernel) (pa_cons (pv 0) pa_nil)))
      (pss_cons (ps_set (i := 3) nd rfl (by first | exact Or.inl rfl | exact Or.inr rfl) (pv 1))
      (Evl.pss_cut (ps_for (passes_of rfl) rfl (pi_range1 rfl T.f_range (pa_cons (pe_int) pa_nil)) (pg_name (i := 4) nd rfl (by first | exact Or.inl rfl | exact Or.inr rfl)) (pss_cons (ps_if (pt_cmpR op_eq (pv 3) (pe_int) (nomark _)) (pss_one (ps_break)) (pss_nil))
      (pss_one (ps_par (i := 2) (j := 3) (by rfl) nd rfl rfl (by decide) rfl rfl (pa_cons (pv 3) (pa_cons (pe_op op_mod (pe_callTy call_int1 (by rfl) T.f_int (by decide +kernel) (pa_cons (pv 2) pa_nil)) (pv 3)) pa_nil)) (by rfl)))))
      (pss_one (ps_ret (pe_tup (pa_cons (pe_op op_fdivW (pv 0) (pv 2)) (pa_cons (pe_op op_fdivW (pv 1) (pv 2)) pa_nil))))))), ?_⟩
    refine ⟨_, rfl, _, rfl, ?_⟩
    refine ⟨_, rfl, ?_⟩
    have hdn : 0 < d.toNat := by omega
    refine ⟨fun σ H' => H' = H ∧ ∃ (l : Nat) (b v : Option V), σ = [some (.int n), some (.int d), some (.int (l : Int)), b, v] ∧ l = Nat.gcd n.natAbs d.toNat, ?_, ?_⟩
    · refine ⟨4000, rfl, by decide, by decide, for_range (lo := 0) (n := 4000) (fun i σ H' => H' = H ∧ ∃ (l r : Nat) (v : Option V), σ = [some (.int n), some (.int d), some (.int (l : Int)), some (.int (r : Int)), v] ∧ Nat.gcd l r = Nat.gcd n.natAbs d.toNat ∧
        (i % 2 = 0 → r * 2 ^ (i / 2) < 2 ^ 1900) ∧ (i % 2 = 1 → r < l ∧ l * 2 ^ (i / 2) < 2 ^ 1900)) ⟨rfl, n.natAbs, d.toNat, none, ?_, rfl, fun _ => ?_, fun h => by omega⟩ ?_ ?_⟩
      · show [_, _, some (V.int (if n < 0 then -n else n)), some (V.int d), _] = _
        have e1 : (if n < 0 then -n else n) = (n.natAbs : Int) := by split <;> omega
        have e2 : d = ((d.toNat : Nat) : Int) := by omega
        rw [e1, ← e2]
      · have : d.toNat = d.natAbs := by omega
        rw [this]
        simpa using hz
      · rintro i σ H' hi ⟨rfl, l, r, v, rfl, hg, h0, h1⟩
        refine ⟨_, rfl, rfl, _, rfl, ite2 (fun c => ?_) fun c => ?_⟩
        · have hr : r = 0 := by
            have := of_decide_eq_true c
            simpa using this
          subst hr
          exact ⟨rfl, l, _, _, rfl, by rw [← hg, Nat.gcd_zero_right]⟩
        · have hr : 0 < r := by
            rcases Nat.eq_zero_or_pos r with z | z
            · subst z; exact absurd rfl c
            · exact z
          refine ⟨_, rfl, _, rfl, .inl ⟨_, rfl, _, rfl, _, _, rfl, rfl, (by show (0 : Int) < (r : Int); omega), _, _, rfl, ?_⟩⟩
          refine ⟨rfl, r, l % r, some (.int (0 + (i : Int))), ?_, (gcd_turn l r).trans hg, ?_, ?_⟩
          · show [_, _, some (V.int (r : Int)), some (V.int ((l : Int) % (r : Int))), _] = _
            rw [← Int.natCast_emod]
          · intro he
            have ho : i % 2 = 1 := by omega
            obtain ⟨q1, q2⟩ := h1 ho
            have q3 := half_mod q1 hr
            have q4 : (i + 1) / 2 = i / 2 + 1 := by omega
            rw [q4, Nat.pow_succ]
            calc l % r * (2 ^ (i / 2) * 2) = 2 * (l % r) * 2 ^ (i / 2) := by rw [Nat.mul_comm (2 ^ (i / 2)) 2, ← Nat.mul_assoc, Nat.mul_comm (l % r) 2]
              _ ≤ l * 2 ^ (i / 2) := Nat.mul_le_mul_right _ q3
              _ < _ := q2
          · intro he
            have ho : i % 2 = 0 := by omega
            have q4 : (i + 1) / 2 = i / 2 := by omega
            rw [q4]
            exact ⟨Nat.mod_lt l hr, h0 ho⟩
      · rintro σ H' ⟨rfl, l, r, v, rfl, hg, h0, h1⟩
        have q := h0 (by decide)
        have hr : r = 0 := by
          rcases Nat.eq_zero_or_pos r with z | z
          · exact z
          · have z1 : 2 ^ 1900 ≤ r * 2 ^ (4000 / 2) := Nat.le_trans (Nat.pow_le_pow_right (by decide) (by decide)) (Nat.le_mul_of_pos_left _ z)
            omega
        subst hr
        exact ⟨rfl, l, _, _, rfl, by rw [← hg, Nat.gcd_zero_right]⟩
    · rintro σ H' ⟨rfl, l, b, v, rfl, hl⟩
      have hl0 : 0 < l := by rw [hl]; exact Nat.gcd_pos_of_pos_right _ hdn
      have hl1 : l ≤ d.toNat := by rw [hl]; exact Nat.gcd_le_right _ hdn
      have hz2 : ((l : Int)).natAbs < 2 ^ 1900 := by omega
      have hw : CDivW n (l : Int) := wide_div (b := 1900) (by omega) hz2 (by omega) (by omega)
      have hw2 : CDivW d (l : Int) := hw
      refine ⟨_, rfl, _, rfl, _, _, rfl, rfl, hw, _, rfl, _, rfl, _, _, rfl, rfl, hw2, (by show 2 ≤ sizeLine; decide), fun p np => ?_⟩
      have en : (mkRat n d.toNat).num = n / (l : Int) := by
        rw [Rat.num_mkRat, if_neg (by omega), Nat.gcd_comm, ← hl]
      have ed : ((mkRat n d.toNat).den : Int) = d / (l : Int) := by
        rw [Rat.den_mkRat, if_neg (by omega), Nat.gcd_comm, ← hl, Int.natCast_ediv]
        congr 1; omega
      refine k _ _ (Ex.new np) ⟨p, rfl, ?_⟩
      rw [en, ed]
      exact upd_same
/-! ### the law's own arithmetic of pairs -/
theorem PairAt.ev {H : Hp} {v : V} {n d : Int} (h : PairAt H v n d) : ∃ a, v = .ref a ∧ SqT K H a [.int n, .int d] := by
  obtain ⟨a, h1, h2⟩ := h
  exact ⟨a, h1, SqT.of h2⟩
def Sm (k : Nat) (n d : Int) : Prop := 0 < d ∧ n.natAbs < 2 ^ k ∧ d.natAbs < 2 ^ k
def spPP (K : PySem.W.Frag) (f : Rat → Rat → Rat) : Sp := fun vs H Q _ => ∃ (x y : V) (n1 d1 n2 d2 : Int), vs = [x, y] ∧ PairAt H x n1 d1 ∧ PairAt H y n2 d2 ∧ Sm 900 n1 d1 ∧ Sm 900 n2 d2 ∧
  ∀ v H', Ex H H' → PairAt H' v (f (mkRat n1 d1.toNat) (mkRat n2 d2.toNat)).num (f (mkRat n1 d1.toNat) (mkRat n2 d2.toNat)).den → Q v H'
theorem mul_pos_toNat {a b : Int} (ha : 0 < a) (hb : 0 < b) : (a * b).toNat = a.toNat * b.toNat := by
  obtain ⟨m, rfl⟩ : ∃ m : Nat, a = m := ⟨a.toNat, by omega⟩
  obtain ⟨n, rfl⟩ : ∃ n : Nat, b = n := ⟨b.toNat, by omega⟩
  rw [← Int.natCast_mul]
  rfl
theorem pp_add {n1 d1 n2 d2 : Int} (h1 : 0 < d1) (h2 : 0 < d2) : mkRat n1 d1.toNat + mkRat n2 d2.toNat = mkRat (n1 * d2 + n2 * d1) (d1 * d2).toNat := by
  rw [Rat.mkRat_add_mkRat _ _ (by omega) (by omega), mul_pos_toNat h1 h2, Int.toNat_of_nonneg (by omega), Int.toNat_of_nonneg (by omega)]
theorem pp_sub {n1 d1 n2 d2 : Int} (h1 : 0 < d1) (h2 : 0 < d2) : mkRat n1 d1.toNat - mkRat n2 d2.toNat = mkRat (n1 * d2 - n2 * d1) (d1 * d2).toNat := by
  rw [Rat.sub_eq_add_neg, Rat.neg_mkRat, pp_add h1 h2, Int.neg_mul, ← Int.sub_eq_add_neg]
theorem pp_mul {n1 d1 n2 d2 : Int} (h1 : 0 < d1) (h2 : 0 < d2) : mkRat n1 d1.toNat * mkRat n2 d2.toNat = mkRat (n1 * n2) (d1 * d2).toNat := by
  rw [Rat.mkRat_mul_mkRat, mul_pos_toNat h1 h2]
theorem pp_lt {n1 d1 n2 d2 : Int} (h1 : 0 < d1) (h2 : 0 < d2) : mkRat n1 d1.toNat < mkRat n2 d2.toNat ↔ n1 * d2 < n2 * d1 := by
  have c1 : ((d1.toNat : Nat) : Rat) = (d1 : Rat) := by
    obtain ⟨m, rfl⟩ : ∃ m : Nat, d1 = m := ⟨d1.toNat, by omega⟩
    rfl
  have c2 : ((d2.toNat : Nat) : Rat) = (d2 : Rat) := by
    obtain ⟨m, rfl⟩ : ∃ m : Nat, d2 = m := ⟨d2.toNat, by omega⟩
    rfl
  have p1 : (0 : Rat) < (d1 : Rat) := by exact_mod_cast h1
  have p2 : (0 : Rat) < (d2 : Rat) := by exact_mod_cast h2
  rw [Rat.mkRat_eq_div, Rat.mkRat_eq_div, c1, c2, ← Rat.mul_lt_mul_right (Rat.mul_pos p1 p2)]
  have q1 : (n1 : Rat) / (d1 : Rat) * ((d1 : Rat) * d2) = (n1 : Rat) * d2 := by
    have : (d1 : Rat) ≠ 0 := by grind
    grind
  have q2 : (n2 : Rat) / (d2 : Rat) * ((d1 : Rat) * d2) = (n2 : Rat) * d1 := by
    have : (d2 : Rat) ≠ 0 := by grind
    grind
  rw [q1, q2]
  exact_mod_cast Iff.rfl
theorem cm9 {i j : Int} (ha : i.natAbs < 2 ^ 900) (hb : j.natAbs < 2 ^ 900) : CMulW i j := wide_mul ha hb (by omega) (by omega) (by omega)
theorem dd9 {i j : Int} (h1 : 0 < i) (h2 : 0 < j) (ha : i.natAbs < 2 ^ 900) (hb : j.natAbs < 2 ^ 900) : 0 < i * j ∧ (i * j).natAbs < 2 ^ 1900 :=
  ⟨Int.mul_pos h1 h2, Nat.lt_of_lt_of_le (wide_lt ha hb) (Nat.pow_le_pow_right (by decide) (by decide))⟩
theorem fn_l_plus (T : Txt K mg) : Fn P w K mg base 2 (ga K "_law_plus") (spPP K (· + ·)) := by
  refine fn_def T.d_l_plus sc_l_plus (fun _ _ _ _ _ _ us hl => match us, hl with | [_, _], _ => rfl) (fun vs H Q E h => ?_) (fun cdv A outer s H vs Q E hr h => ?_)
  · obtain ⟨x, y, n1, d1, n2, d2, rfl, _⟩ := h
    rfl
  · obtain ⟨x, y, n1, d1, n2, d2, rfl, ⟨a, rfl, ha⟩, ⟨b, rfl, hb⟩, ⟨p1, s1, t1⟩, ⟨p2, s2, t2⟩, k⟩ := h
    refine ⟨_, pss_one (ps_ret (pe_fn T.d_l_less (fn_l_less T) (hr.mono (by decide)) T.g_l_less pc (pa_cons (pe_op op_add (pe_op op_mulW (pe_ix ix_tup (pv 0) (pe_int) (fun _ _ => rfl)) (pe_ix ix_tup (pv 1) (pe_int) (fun _ _ => rfl))) (pe_op op_mulW (pe_ix ix_tup (pv 1) (pe_int) (fun _ _ => rfl)) (pe_ix ix_tup (pv 0) (pe_int) (fun _ _ => rfl)))) (pa_cons (pe_op op_mulW (pe_ix ix_tup (pv 0) (pe_int) (fun _ _ => rfl)) (pe_ix ix_tup (pv 1) (pe_int) (fun _ _ => rfl))) pa_nil)))), ?_⟩
    refine ⟨_, rfl, a, _, _, _, rfl, rfl, SqT.of ha, rfl, _, rfl, b, _, _, _, rfl, rfl, SqT.of hb, rfl, _, _, rfl, rfl, cm9 s1 t2, ?_⟩
    refine ⟨_, rfl, b, _, _, _, rfl, rfl, SqT.of hb, rfl, _, rfl, a, _, _, _, rfl, rfl, SqT.of ha, rfl, _, _, rfl, rfl, cm9 s2 t1, _, _, rfl, rfl, ?_⟩
    refine ⟨_, rfl, a, _, _, _, rfl, rfl, SqT.of ha, rfl, _, rfl, b, _, _, _, rfl, rfl, SqT.of hb, rfl, _, _, rfl, rfl, cm9 t1 t2, ?_⟩
    dsimp only at k
    rw [pp_add p1 p2] at k
    exact ⟨_, _, rfl, (dd9 p1 p2 t1 t2).1, (dd9 p1 p2 t1 t2).2, k⟩
theorem fn_l_minus (T : Txt K mg) : Fn P w K mg base 2 (ga K "_law_minus") (spPP K (· - ·)) := by
  refine fn_def T.d_l_minus sc_l_minus (fun _ _ _ _ _ _ us hl => match us, hl with | [_, _], _ => rfl) (fun vs H Q E h => ?_) (fun cdv A outer s H vs Q E hr h => ?_)
  · obtain ⟨x, y, n1, d1, n2, d2, rfl, _⟩ := h
    rfl
  · obtain ⟨x, y, n1, d1, n2, d2, rfl, ⟨a, rfl, ha⟩, ⟨b, rfl, hb⟩, ⟨p1, s1, t1⟩, ⟨p2, s2, t2⟩, k⟩ := h
    refine ⟨_, pss_one (ps_ret (pe_fn T.d_l_less (fn_l_less T) (hr.mono (by decide)) T.g_l_less pc (pa_cons (pe_op op_sub (pe_op op_mulW (pe_ix ix_tup (pv 0) (pe_int) (fun _ _ => rfl)) (pe_ix ix_tup (pv 1) (pe_int) (fun _ _ => rfl))) (pe_op op_mulW (pe_ix ix_tup (pv 1) (pe_int) (fun _ _ => rfl)) (pe_ix ix_tup (pv 0) (pe_int) (fun _ _ => rfl)))) (pa_cons (pe_op op_mulW (pe_ix ix_tup (pv 0) (pe_int) (fun _ _ => rfl)) (pe_ix ix_tup (pv 1) (pe_int) (fun _ _ => rfl))) pa_nil)))), ?_⟩
    refine ⟨_, rfl, a, _, _, _, rfl, rfl, SqT.of ha, rfl, _, rfl, b, _, _, _, rfl, rfl, SqT.of hb, rfl, _, _, rfl, rfl, cm9 s1 t2, ?_⟩
    refine ⟨_, rfl, b, _, _, _, rfl, rfl, SqT.of hb, rfl, _, rfl, a, _, _, _, rfl, rfl, SqT.of ha, rfl, _, _, rfl, rfl, cm9 s2 t1, _, _, rfl, rfl, ?_⟩
    refine ⟨_, rfl, a, _, _, _, rfl, rfl, SqT.of ha, rfl, _, rfl, b, _, _, _, rfl, rfl, SqT.of hb, rfl, _, _, rfl, rfl, cm9 t1 t2, ?_⟩
    dsimp only at k
    rw [pp_sub p1 p2] at k
    exact ⟨_, _, rfl, (dd9 p1 p2 t1 t2).1, (dd9 p1 p2 t1 t2).2, k⟩
theorem fn_l_times (T : Txt K mg) : Fn P w K mg base 2 (ga K "_law_times") (spPP K (· * ·)) := by
  refine fn_def T.d_l_times sc_l_times (fun _ _ _ _ _ _ us hl => match us, hl with | [_, _], _ => rfl) (fun vs H Q E h => ?_) (fun cdv A outer s H vs Q E hr h => ?_)
  · obtain ⟨x, y, n1, d1, n2, d2, rfl, _⟩ := h
    rfl
  · obtain ⟨x, y, n1, d1, n2, d2, rfl, ⟨a, rfl, ha⟩, ⟨b, rfl, hb⟩, ⟨p1, s1, t1⟩, ⟨p2, s2, t2⟩, k⟩ := h
    refine ⟨_, pss_one (ps_ret (pe_fn T.d_l_less (fn_l_less T) (hr.mono (by decide)) T.g_l_less pc (pa_cons (pe_op op_mulW (pe_ix ix_tup (pv 0) (pe_int) (fun _ _ => rfl)) (pe_ix ix_tup (pv 1) (pe_int) (fun _ _ => rfl))) (pa_cons (pe_op op_mulW (pe_ix ix_tup (pv 0) (pe_int) (fun _ _ => rfl)) (pe_ix ix_tup (pv 1) (pe_int) (fun _ _ => rfl))) pa_nil)))), ?_⟩
    refine ⟨_, rfl, a, _, _, _, rfl, rfl, SqT.of ha, rfl, _, rfl, b, _, _, _, rfl, rfl, SqT.of hb, rfl, _, _, rfl, rfl, cm9 s1 s2, ?_⟩
    refine ⟨_, rfl, a, _, _, _, rfl, rfl, SqT.of ha, rfl, _, rfl, b, _, _, _, rfl, rfl, SqT.of hb, rfl, _, _, rfl, rfl, cm9 t1 t2, ?_⟩
    dsimp only at k
    rw [pp_mul p1 p2] at k
    exact ⟨_, _, rfl, (dd9 p1 p2 t1 t2).1, (dd9 p1 p2 t1 t2).2, k⟩
def spBelow : Sp := fun vs H Q _ => ∃ (x y : V) (n1 d1 n2 d2 : Int), vs = [x, y] ∧ PairAt H x n1 d1 ∧ PairAt H y n2 d2 ∧ Sm 900 n1 d1 ∧ Sm 900 n2 d2 ∧ Q (.bl (decide (mkRat n1 d1.toNat < mkRat n2 d2.toNat))) H
theorem fn_l_below (T : Txt K mg) : Fn P w K mg base 1 (ga K "_law_below") (spBelow) := by
  refine fn_def T.d_l_below sc_l_below (fun _ _ _ _ _ _ us hl => match us, hl with | [_, _], _ => rfl) (fun vs H Q E h => ?_) (fun cdv A outer s H vs Q E hr h => ?_)
  · obtain ⟨x, y, n1, d1, n2, d2, rfl, _⟩ := h
    rfl
  · obtain ⟨x, y, n1, d1, n2, d2, rfl, ⟨a, rfl, ha⟩, ⟨b, rfl, hb⟩, ⟨p1, s1, t1⟩, ⟨p2, s2, t2⟩, k⟩ := h
    refine ⟨_, pss_one (ps_ret (pe_cmpR op_lt (pe_op op_mulW (pe_ix ix_tup (pv 0) (pe_int) (fun _ _ => rfl)) (pe_ix ix_tup (pv 1) (pe_int) (fun _ _ => rfl))) (pe_op op_mulW (pe_ix ix_tup (pv 1) (pe_int) (fun _ _ => rfl)) (pe_ix ix_tup (pv 0) (pe_int) (fun _ _ => rfl))) (nomark _))), ?_⟩
    refine ⟨_, rfl, a, _, _, _, rfl, rfl, SqT.of ha, rfl, _, rfl, b, _, _, _, rfl, rfl, SqT.of hb, rfl, _, _, rfl, rfl, cm9 s1 t2, ?_⟩
    refine ⟨_, rfl, b, _, _, _, rfl, rfl, SqT.of hb, rfl, _, rfl, a, _, _, _, rfl, rfl, SqT.of ha, rfl, _, _, rfl, rfl, cm9 s2 t1, _, _, rfl, rfl, ?_⟩
    have e : decide (mkRat n1 d1.toNat < mkRat n2 d2.toNat) = decide (n1 * d2 < n2 * d1) := by simp only [pp_lt p1 p2]
    rw [e] at k
    exact k
/-- _law_is, where it is so -/
def spIs (K : PySem.W.Frag) : Sp := fun vs H Q _ => ∃ (x y : V) (q : Rat), vs = [x, y] ∧ RatAt K H x q ∧ PairAt H y q.num q.den ∧ ∀ H', Ex H H' → Q (.bl true) H'
theorem fn_l_is (T : Txt K mg) : Fn P w K mg base 4 (ga K "_law_is") (spIs K) := by
  refine fn_def T.d_l_is sc_l_is (fun _ _ _ _ _ _ us hl => match us, hl with | [_, _], _ => rfl) (fun vs H Q E h => ?_) (fun cdv A outer s H vs Q E hr h => ?_)
  · obtain ⟨x, y, q, rfl, _⟩ := h
    rfl
  · obtain ⟨x, y, q, rfl, ⟨a, dx, rfl, ha⟩, ⟨b, rfl, hb⟩, k⟩ := h
    refine ⟨_, pss_one (ps_ret (pe_and (pe_callB call_isi (by rfl) T.f_isinstance (by decide +kernel) (pa_cons (pv 0) (pa_cons (pe_gr T.g_Ratio) pa_nil))) (pe_one (pe_fn T.d_l_same (fn_l_same T 2) (hr.mono (by decide)) T.g_l_same pc (pa_cons (pe_lst (pa_cons (pe_fld (pv 0) rfl) (pa_cons (pe_fld (pv 0) rfl) pa_nil))) (pa_cons (pe_callTy call_list_of (by rfl) T.f_list (by decide +kernel) (pa_cons (pv 1) pa_nil)) pa_nil)))))), ?_⟩
    refine ⟨_, rfl, _, _, _, _, _, rfl, ClsV.own _, TyX.base (TyOf.ins ha T.c_Ratio T.oc_Ratio T.og T.ot T.om_Ratio), T.ki_Ratio_Ratio, true, rfl, iteT ?_⟩
    refine ⟨_, rfl, a, _, dx, _, _, rfl, ha, T.c_Ratio, T.a_Ratio_num, rf_num _ _, _, rfl, a, _, dx, _, _, rfl, ha, T.c_Ratio, T.a_Ratio_den, rf_den _ _, (by show 2 ≤ sizeLine; decide), fun t n1 => ?_⟩
    have e1 : Ex H (upd H t (.lst [.int q.num, .int q.den])) := Ex.new n1
    refine ⟨_, rfl, b, _, rfl, .inr (SqT.of (e1 _ _ hb)), fun u n2 => ?_⟩
    refine ⟨_, _, _, _, rfl, .lst (SqL.of (Ex.new n2 _ _ upd_same)) (.cons (.int _) (.cons (.int _) .nil)), .lst (SqL.of upd_same) (.cons (.int _) (.cons (.int _) .nil)), ⟨by show 2 ≤ 100000; decide, fun d hd => ?_⟩, fun H' e2 => ?_⟩
    · simp at hd
      rcases hd with rfl | rfl <;> trivial
    · rw [same_t rfl]
      exact k H' ((e1.trans (Ex.new n2)).trans e2)
end
end LL
namespace LL
open PySem PySem.Spec PyProof.Rows L2 He Evl
/-! ### calls in a try: what is let out is wished for at the slots -/
section
variable {X : Cx} {CX : CXT} {k : Nat} {f C : Addr} {sp : Sp} {E : L2.St → XK} {x : Str} {e : Expr} {es : List Expr} {t : TA} {p pos : Pos}
theorem run_makeRS {pins : List (Addr × Obj)} {σ : L2.St} {H : Hp} {s : Shared} {Q : VK} {us : List Value} {vs : List V} {E : XK} (M : Mk X.K C f) (F : FnR X.prog X.w X.K X.mg X.base CX k f sp) (hr : Room (k + 1) X.A) (hx : PassesAt CX X σ E) (I : Inv X pins σ H s) (r : Vals vs us)
    (h : ∀ x dx, H x = Option.none → H dx = Option.none → dx ≠ x → sp (V.ref x :: vs) (upd (upd H dx (.own x)) x (.ins C dx [])) (fun v H2 => v = .non ∧ Q (.ref x) H2) E) :
    wpAny (model X.prog X.w) X.A (call (.ref C) us) (EP X pins σ Q) X.xe s := by
  have hq := h (s.heap.objs.size + 1) s.heap.objs.size (I.hok.fresh (Nat.le_succ _)) (I.hok.fresh (Nat.le_refl _)) (Nat.ne_of_lt (Nat.lt_succ_self _))
  have I2 := Inv.made (C := C) I
  have r2 : Vals (V.ref (s.heap.objs.size + 1) :: vs) (Value.ref (s.heap.objs.size + 1) :: us) := .cons rfl r
  refine wpAny_call (make_map (f := f) I.kIn M.makes M.init (beq_iff_eq.mp M.fn) (codeAny_mono (F _ X.stack _ _ (Value.ref (s.heap.objs.size + 1) :: us) _ _ E (hr.make C us []) (I2.env0.make C us []) r2 hq) fun r s' hq' => ?_))
  cases r with
  | error e => exact hx pins _ _ e s' I2 hq'
  | ok fl =>
    cases fl with
    | ret u =>
      obtain ⟨v, H', I3, rv, ev, q3⟩ := I2.after hq'
      subst ev
      exact ⟨rv, ⟨V.ref (s.heap.objs.size + 1), H', I3, rfl, q3⟩⟩
    | next => exact False.elim hq'
    | brk => exact False.elim hq'
    | cont => exact False.elim hq'
def tMakeRS (C : Addr) (sp : Sp) (E : L2.St → XK) (t : TA) : TE := fun σ H Q => StX.tMakeR C sp (E σ) t σ H Q
theorem pe_makeRS (M : Mk X.K C f) (F : FnR X.prog X.w X.K X.mg X.base CX k f sp) (hr : Room (k + 1) X.A) (hg : Gl X x) (hm : X.mg x = some (.ref C)) (hx : ∀ σ, PassesAt CX X σ (E σ)) (ha : PA X (e :: es) t) (hdb : (x == ("__debug__" : Str)) = false := by decide)
    (he : starEach (e :: es) X.env = (false, eval e X.env) :: starEach es X.env := by rfl) (hpl : (backTo pos (starEach es X.env)).any (·.1) = false := by rfl) : PE X (.Call (.Name x p) (e :: es) [] pos) (tMakeRS C sp E t) := by
  refine ⟨fun pins s σ H Q I h => ?_⟩
  refine wpAny_Call_Name_kw (ld_glob I hg hm ?_ hdb)
  refine PySem.W.callWith_K (h₀ := X.base) I.ok.mod.kin M.kp (thn (ha.run pos pins s σ H _ I h) fun us s1 ⟨vs, H1, I1, r, q⟩ => ⟨I1.kIn, ?_⟩) he hpl
  exact run_makeRS M F hr (hx σ) I1 r q
theorem run_fnRS {pins : List (Addr × Obj)} {σ : L2.St} {H : Hp} {s : Shared} {E : XK} {Q : VK} {us : List Value} {vs : List V} (F : FnR X.prog X.w X.K X.mg X.base CX k f sp) (hr : Room k X.A) (hx : PassesAt CX X σ E) (I : Inv X pins σ H s) (r : Vals vs us) (h : sp vs H Q E) :
    codeAny (model X.prog X.w) X.A (.call (.ref f) ⟨us, []⟩) (fun r s' => match r with | .ok (.ret v) => EP X pins σ Q v s' | .ok _ => False | .error e => X.xe e s') s := by
  refine codeAny_mono (F X.A X.stack s H us vs Q E hr I.env0 r h) fun r s' hq => ?_
  cases r with
  | error e => exact hx pins H s e s' I hq
  | ok fl =>
    cases fl with
    | ret u => exact I.after hq
    | next => exact hq.elim
    | brk => exact hq.elim
    | cont => exact hq.elim
def tMethRS (C : Addr) (m : Str) (sp : Sp) (E : L2.St → XK) (ta : TE) (t : TA) : TE := fun σ H Q => tMethR C m sp (E σ) ta t σ H Q
theorem pe_methRS {m : Str} {o : Expr} {ta : TE} {apos : Pos} {pl : Sem Bool} (he : PE X o ta) (c : Cls X.K C) (hm : Meth X.K C m f)
    (F : FnR X.prog X.w X.K X.mg X.base CX k f sp) (hr : Room k X.A) (hx : ∀ σ, PassesAt CX X σ (E σ)) (ha : PA X (e :: es) t)
    (hst : starEach (e :: es) X.env = (false, eval e X.env) :: starEach es X.env := by rfl) (hpl : (backTo pos (starEach es X.env)).any (·.1) = false := by rfl)
    (ht : eval (.Call (.Attribute o m apos) (e :: es) [] pos) X.env = (do
      let ov ← eval o X.env
      standAt apos.atName
      let (f, first) ← holding [ov] (getMethod ov m pl)
      callWith pos f first (backTo pos (starEach (e :: es) X.env)) (backToKw pos (keywordEach [] X.env))) := by rfl) :
    PE X (.Call (.Attribute o m apos) (e :: es) [] pos) (tMethRS C m sp E ta t) := by
  refine ⟨fun pins s σ H Q I h => ?_⟩
  refine PySem.W.methodCall_KW (pl := pl) (thn (he.run pins s σ H _ I h) fun u s1 ⟨x, H1, I1, rx, a, dx, fs, ex, ea, l, q⟩ => ?_) ht
  subst ex
  obtain rfl : u = Value.ref a := rx
  refine getmeth_ok I1 ea c hm l ?_
  refine PySem.W.callWith_K (first := [.ref a]) (h₀ := X.base) I.ok.mod.kin hm.kp (thn (ha.run pos pins s1 σ H1 _ I1 q) fun us s2 ⟨vs, H2, I2, r, q2⟩ => ⟨I2.kIn, ?_⟩) hst hpl
  exact wpAny_call (run_fnRS (us := .ref a :: us) (vs := .ref a :: vs) F hr (hx σ) I2 (.cons rfl r) q2)
/-! ### the same rules with the written part by name (in a try) -/
theorem ixk_tup {X : Cx} (K : PySem.W.Frag) (h : X.K = K := by rfl) : IxR X (rIxT K) := by subst h; exact ix_tup
theorem ixk_list {X : Cx} (K : PySem.W.Frag) (h : X.K = K := by rfl) : IxR X (rIxL K) := by subst h; exact ix_list
theorem callk_isi {X : Cx} (K : PySem.W.Frag) (h : X.K = K := by rfl) : CallR X (.builtin "isinstance") (rIsi K) := by subst h; exact call_isi
theorem pek_fld {X : Cx} (K : PySem.W.Frag) {e : Expr} {ta : TE} {f : Str} {pos : Pos} (ha : PE X e ta) (hb : attributeBase e f X.env (eval e X.env) = eval e X.env) (h : X.K = K := by rfl) : PE X (.Attribute e f pos) (tFld K ta f) := by subst h; exact pe_fld ha hb
/-- a suite that is read under a condition -/
theorem pss_given {p : Prop} {st : List Stmt} {t : TS} (h : p → PSs X st t) : PSs X st (fun D σ H => p ∧ t D σ H) := ⟨fun pins s σ H D I hw => (h hw.1).run pins s σ H D I hw.2⟩
/-- isinstance(e, (c1, ..)), e the exception that the suite holds -/
def rIsET (K : PySem.W.Frag) (D a : Addr) : List V → Hp → VK → Prop := fun xs H Q => ∃ (tp : Addr) (cs : List V) (us : List Value) (b : Bool), xs = [.ref a, .ref tp] ∧ H tp = some (.tup cs) ∧ Paired ClsV cs us ∧ PySem.W.kitAny K (.ref D) us = some b ∧ Q (.bl b) H
theorem call_isET {a D : Addr} {oe : Obj} {pn : List (Addr × Obj)} (C : ExcC X.K D) (hz : Zc (.ref D) none oe) (hf : ∃ vs, oe.data = .fields vs) : CallR (X.suite a ((a, oe) :: pn)) (.builtin "isinstance") (rIsET X.K D a) := by
  intro pins s σ H xs us Q I r h
  obtain ⟨tp, cs, ws, b, rfl, hT, k, e, q⟩ := h
  obtain ⟨u1, u2, rfl, r1, r2⟩ := vals2 r
  cases (show u1 = Value.ref a from r1)
  cases (show u2 = Value.ref tp from r2)
  obtain ⟨_, its, rv, o, h1, h2, n, h3⟩ := (show ObjOk X.prog X.w H s.heap tp (.tup cs) from I.hok tp _ hT)
  have e3 := ClsV.all k rv
  subst e3
  obtain ⟨oc, od, dt, sl⟩ := o
  simp only at h2 h3
  subst h2 h3
  obtain ⟨hget, _⟩ := I.pin (a, oe) (List.mem_append.mpr (.inl List.mem_cons_self))
  obtain ⟨vs, hv⟩ := hf
  have J : PySem.W.InstAt s.heap a oe D none := by
    obtain ⟨oc, od, oda, osl⟩ := oe
    obtain ⟨h1, h2⟩ := hz
    dsimp only at h1 h2 hv
    subst h1 h2 hv
    exact ⟨hget, rfl, rfl, trivial⟩
  exact PySem.W.kia_tup (PySem.W.handS_kitx_exc C.hg C.hk C.hs C.hd C.ha C.hn C.ht C.hm) I.kIn J h1 e (fun z => nomatch z) fun tk => ⟨.bl b, H, I.kept (t' := tk) fun _ _ z => z, rfl, q⟩
theorem callk_isE (K : PySem.W.Frag) {a D : Addr} {oe : Obj} {pn : List (Addr × Obj)} (C : ExcC K D) (hz : Zc (.ref D) none oe) (hf : ∃ vs, oe.data = .fields vs) (h : X.K = K := by rfl) : CallR (X.suite a ((a, oe) :: pn)) (.builtin "isinstance") (rIsE K D a) := by subst h; exact call_isE C hz hf
theorem callk_isET (K : PySem.W.Frag) {a D : Addr} {oe : Obj} {pn : List (Addr × Obj)} (C : ExcC K D) (hz : Zc (.ref D) none oe) (hf : ∃ vs, oe.data = .fields vs) (h : X.K = K := by rfl) : CallR (X.suite a ((a, oe) :: pn)) (.builtin "isinstance") (rIsET K D a) := by subst h; exact call_isET C hz hf
end
end LL
namespace LL
open PySem PySem.Spec PyProof.Rows L2 He Evl
section
variable {P : Program} {w : World} {K : PySem.W.Frag} {mg : Str → Option Value} {base : Heap}
/-- _law_refused, where BadRatio is raised -/
def spRefused (K : PySem.W.Frag) : Sp := fun vs H Q _ => ∃ (x y : V) (n d : Int), vs = [x, y] ∧ PairAt H x n d ∧ ((y = .non ∧ d < 1) ∨ (0 < d ∧ Sm 900 n d ∧ ∃ e, PairAt H y 0 e ∧ Sm 900 0 e)) ∧ ∀ H', Ex H H' → Q (.bl true) H'
theorem sz_mk {n d : Int} {k : Nat} (h : Sm k n d) : Sz k (mkRat n d.toNat) := by
  obtain ⟨h0, h1, h2⟩ := h
  have e : (if d.toNat = 0 then 0 else n / ↑(d.toNat.gcd n.natAbs)) = n / ↑(d.toNat.gcd n.natAbs) := if_neg (by omega)
  have e2 : (if d.toNat = 0 then 1 else d.toNat / d.toNat.gcd n.natAbs) = d.toNat / d.toNat.gcd n.natAbs := if_neg (by omega)
  constructor
  · rw [Rat.num_mkRat, e]
    exact Nat.lt_of_le_of_lt (Int.natAbs_ediv_le_natAbs _ _) h1
  · rw [Rat.den_mkRat, e2]
    exact Nat.lt_of_le_of_lt (Nat.div_le_self _ _) (by omega)
theorem mk_ratio' {H : Hp} {n d : Int} {R : VK} {E : XK} {x dx : Addr} (hd : 0 < d) (hz : d.natAbs < 2 ^ 9000) (nx : H x = none) (ndx : H dx = none) (k : ∀ H', Same H H' → RatAt K H' (.ref x) (mkRat n d.toNat) → R .non H') :
    spRI K [.ref x, .int n, .int d] (upd (upd H dx (.own x)) x (.ins (cR K) dx [])) R E := by
  refine ⟨x, dx, n, d, rfl, upd_same, fun h => by omega, fun _ => ⟨hz, k _ (fun b o e => ?_) ⟨x, dx, rfl, upd_same⟩⟩⟩
  rw [upd_ne (ne_of_none e nx), upd_ne (ne_of_none e nx), upd_ne (ne_of_none e ndx)]
  exact e
theorem fn_l_refused (T : Txt K mg) : Fn P w K mg base 4 (ga K "_law_refused") (spRefused K) := by
  refine fn_def T.d_l_refused sc_l_refused (fun _ _ _ _ _ _ us hl => match us, hl with | [_, _], _ => rfl) (fun vs H Q E h => ?_) (fun cdv A outer s H vs Q E hr h => ?_)
  · obtain ⟨x, y, n, d, rfl, _⟩ := h
    rfl
  · obtain ⟨x, y, n, d, rfl, ⟨a, rfl, ha⟩, hy, k⟩ := h
    have nd := sc_l_refused.nd
    refine ⟨_, pss_cons (ps_try_as (i := 2) (Wout := fun cls d _ H => E cls d H) rfl rfl nd rfl rfl ⟨rfl, by decide, Or.inl T.g_LossError⟩ (takes_of rfl rfl rfl rfl) (fun W pn xe tk _ => pss_one (ps_if (pt_cmpR op_isN (pv 1) (pe_non) (nomark _)) (pss_one (ps_expr (pe_makeRS T.m_Ratio (fn_RI2 T) (hr.mono (by decide)) rfl T.g_Ratio (fun σ => passAt tk σ) (pa_cons (pe_ix (ixk_tup K) (pv 0) (pe_int) (fun _ _ => rfl)) (pa_cons (pe_ix (ixk_tup K) (pv 0) (pe_int) (fun _ _ => rfl)) pa_nil))))) (pss_one (ps_expr (pe_methRS (pe_makeRS T.m_Ratio (fn_RI2 T) (hr.mono (by decide)) rfl T.g_Ratio (fun σ => passAt tk σ) (pa_cons (pe_ix (ixk_tup K) (pv 0) (pe_int) (fun _ _ => rfl)) (pa_cons (pe_ix (ixk_tup K) (pv 0) (pe_int) (fun _ _ => rfl)) pa_nil))) T.c_Ratio T.t_Ratio_over (fn_Ratio_over T) (hr.mono (by decide)) (fun σ => passAt tk σ) (pa_cons (pe_makeRS T.m_Ratio (fn_RI2 T) (hr.mono (by decide)) rfl T.g_Ratio (fun σ => passAt tk σ) (pa_cons (pe_ix (ixk_tup K) (pv 1) (pe_int) (fun _ _ => rfl)) (pa_cons (pe_ix (ixk_tup K) (pv 1) (pe_int) (fun _ _ => rfl)) pa_nil))) pa_nil)))))) (fun a oe cls d pn hz hf => pss_given (p := cls = .ref (ga K "BadRatio") ∧ d = none) (fun hp => by obtain ⟨rfl, rfl⟩ := hp; exact (pss_one (ps_ret (pe_and (pe_callB (callk_isE K T.xc_BadRatio hz hf) (by rfl) T.f_isinstance (by decide +kernel) (pa_cons (pv 2) (pa_cons (pe_gr T.g_BadRatio) pa_nil))) (pe_and (pe_not (pe_callB (callk_isET K T.xc_BadRatio hz hf) (by rfl) T.f_isinstance (by decide +kernel) (pa_cons (pv 2) (pa_cons (pe_tup (pa_cons (pe_gr T.g_BadPaper) (pa_cons (pe_gr T.g_BadPlan) (pa_cons (pe_gr T.g_BadText) (pa_cons (pe_gr T.g_NoPlan) (pa_cons (pe_gr T.g_NoShare) (pa_cons (pe_gr T.g_TooLarge) pa_nil))))))) pa_nil)))) (pe_one (pe_callB (callk_isE K T.xc_BadRatio hz hf) (by rfl) T.f_isinstance (by decide +kernel) (pa_cons (pv 2) (pa_cons (pe_bltn (v := .ty "ValueError") rfl T.f_ValueError (by decide +kernel) rfl) pa_nil)))))))))))
      (pss_one (ps_ret (pe_bl))), ?_⟩
    have suite : ∀ (D : Ends) (H1 : Hp) (e : Addr) (σ0 σ1 : Option V), Ex H H1 → (∀ v H', D.rt v H' = Q v H') →
        wAs K (.ref (ga K "LossError")) 2 (fun a cls d D σ H => (cls = .ref (ga K "BadRatio") ∧ d = none) ∧ tRet (tAndV (tCB (rIsE K (ga K "BadRatio") a) (tCons (tVar 2) (tCons (tC (.ref (ga K "BadRatio"))) tNil)))
          (tAndV (tNotV (tCB (rIsET K (ga K "BadRatio") a) (tCons (tVar 2) (tCons (tTup (tCons (tC (.ref (ga K "BadPaper"))) (tCons (tC (.ref (ga K "BadPlan"))) (tCons (tC (.ref (ga K "BadText"))) (tCons (tC (.ref (ga K "NoPlan"))) (tCons (tC (.ref (ga K "NoShare"))) (tCons (tC (.ref (ga K "TooLarge"))) tNil))))))) tNil))))
          (tCB (rIsE K (ga K "BadRatio") a) (tCons (tVar 2) (tCons (tC (.ty "ValueError")) tNil))))) D σ H) (fun cls d _ H => E cls d H) D (.ref (ga K "BadRatio")) none [σ0, σ1, none] H1 := by
      intro D H1 e σ0 σ1 e1 hD
      refine ⟨true, T.em_BadRatio_LossError, fun _ e he => ?_, fun z => nomatch z⟩
      refine ⟨⟨rfl, rfl⟩, _, rfl, _, _, true, rfl, fun u h => h, T.ki_BadRatio_BadRatio, true, rfl, iteT ?_⟩
      refine ⟨_, rfl, (by show 6 ≤ sizeLine; decide), fun tp ntp => ?_⟩
      refine ⟨tp, _, _, false, rfl, upd_same, .cons (.own _) (.cons (.own _) (.cons (.own _) (.cons (.own _) (.cons (.own _) (.cons (.own _) .nil))))), ?_, false, rfl, true, rfl, iteT ?_⟩
      · exact kitAny_cons T.ki_BadRatio_BadPaper (fun _ => kitAny_cons T.ki_BadRatio_BadPlan (fun _ => kitAny_cons T.ki_BadRatio_BadText (fun _ => kitAny_cons T.ki_BadRatio_NoPlan (fun _ => kitAny_cons T.ki_BadRatio_NoShare (fun _ => kitAny_cons T.ki_BadRatio_TooLarge (fun _ => rfl) (fun z => nomatch z)) (fun z => nomatch z)) (fun z => nomatch z)) (fun z => nomatch z)) (fun z => nomatch z)) (fun z => nomatch z)
      · refine ⟨_, rfl, _, _, true, rfl, fun u h => h, T.kv_BadRatio, ?_⟩
        show D.rt _ _
        rw [hD]
        exact k _ (e1.trans (Ex.new ntp))
    rcases hy with ⟨rfl, hd⟩ | ⟨hd, hs, e, ⟨b, rfl, hb⟩, hs2⟩
    · refine ⟨_, rfl, rfl, _, rfl, iteT ?_⟩
      refine ⟨_, rfl, a, _, _, _, rfl, rfl, SqT.of ha, rfl, _, rfl, a, _, _, _, rfl, rfl, SqT.of ha, rfl, fun x dx nx ndx ne => ⟨x, dx, n, d, rfl, upd_same, fun _ => ?_, fun z => by omega⟩⟩
      refine suite _ _ x _ _ ?_ (fun _ _ => rfl)
      intro c o h
      rw [upd_ne (ne_of_none h nx), upd_ne (ne_of_none h ndx)]
      exact h
    · refine ⟨_, rfl, rfl, _, rfl, iteF ?_⟩
      refine ⟨_, rfl, a, _, _, _, rfl, rfl, SqT.of ha, rfl, _, rfl, a, _, _, _, rfl, rfl, SqT.of ha, rfl, ?_⟩
      intro x1 dx0 nx1 ndx1 ne1
      refine mk_ratio' hd (Nat.lt_of_lt_of_le hs.2.2 (Nat.pow_le_pow_right (by decide) (by decide))) nx1 ndx1 fun H1 s1 r1 => ⟨rfl, ?_⟩
      obtain ⟨a1, dx1, ea1, h1⟩ := id r1
      cases ea1
      have hb1 := s1 _ _ hb
      refine ⟨x1, dx1, _, rfl, h1, rf_no _ _ (by decide +kernel) (by decide +kernel), ?_⟩
      refine ⟨_, rfl, b, _, _, _, rfl, rfl, SqT.of hb1, rfl, _, rfl, b, _, _, _, rfl, rfl, SqT.of hb1, rfl, ?_⟩
      intro x2 dx2 nx2 ndx2 ne2
      refine mk_ratio' hs2.1 (Nat.lt_of_lt_of_le hs2.2.2 (Nat.pow_le_pow_right (by decide) (by decide))) nx2 ndx2 fun H2 s2 r2 => ⟨rfl, ?_⟩
      refine ⟨_, _, _, _, rfl, r1.mono s2, r2, (sz_mk hs).mono (by decide), (sz_mk hs2).mono (by decide), fun _ => ?_, fun z => absurd (Rat.zero_mkRat _) z⟩
      exact suite _ _ 0 _ _ (Ex.trans s1 s2) (fun _ _ => rfl)
end
end LL
namespace LL
open PySem PySem.Spec PyProof.Rows L2 He Evl
section
variable {P : Program} {w : World} {K : PySem.W.Frag} {mg : Str → Option Value} {base : Heap}
theorem draw_k {H : Hp} {p : Addr} {P : Pl} {n : Int} {Q : VK} {E : XK} (hP : PoolAt H p P) (h0 : 0 < n) (h1 : n < 1073741824) (k : ∀ (r : Int) (P' : Pl) (H' : Hp), 0 ≤ r → r < n → But p H H' → PoolAt H' p P' → P'.bud = P.bud → Q (.int r) H') :
    spDraw [.ref p, .int n] H Q E :=
  ⟨p, n, P, rfl, hP, h0, h1, fun r P' a b e1 e2 e3 => k r P' _ a b .upd (hP.put ⟨e1, e2⟩) e3⟩
theorem at3 {a b c : V} {r : Int} (h0 : 0 ≤ r) (h1 : r < 3) : ∃ v, atI [a, b, c] r = some v ∧ (v = a ∨ v = b ∨ v = c) := by
  rcases (show r = 0 ∨ r = 1 ∨ r = 2 by omega) with rfl | rfl | rfl
  · exact ⟨_, rfl, .inl rfl⟩
  · exact ⟨_, rfl, .inr (.inl rfl)⟩
  · exact ⟨_, rfl, .inr (.inr rfl)⟩
theorem at2 {a b : V} {r : Int} (h0 : 0 ≤ r) (h1 : r < 2) : ∃ v, atI [a, b] r = some v ∧ (v = a ∨ v = b) := by
  rcases (show r = 0 ∨ r = 1 by omega) with rfl | rfl
  · exact ⟨_, rfl, .inl rfl⟩
  · exact ⟨_, rfl, .inr rfl⟩
theorem PoolAt.step {H : Hp} {p : Addr} {P P' : Pl} (h : PoolAt H p P) (e1 : P'.at_ = P.at_) (e2 : P'.cells = P.cells) : PoolAt (upd H p (.lst P'.l)) p P' ∧ But p H (upd H p (.lst P'.l)) := ⟨h.put ⟨e1, e2⟩, .upd⟩
/-- _law_pair(pool): a pair, its second positive -/
def spPairD : Sp := fun vs H Q _ => ∃ (p : Addr) (P : Pl), vs = [.ref p] ∧ PoolAt H p P ∧ ∀ v H' P' n d, But p H H' → PoolAt H' p P' → PairAt H' v n d → Sm 300 n d → Q v H'
theorem fn_l_pair (T : Txt K mg) : Fn P w K mg base 2 (ga K "_law_pair") (spPairD) := by
  refine fn_def T.d_l_pair sc_l_pair (fun _ _ _ _ _ _ us hl => match us, hl with | [_], _ => rfl) (fun vs H Q E h => ?_) (fun cdv A outer s H vs Q E hr h => ?_)
  · obtain ⟨p, P, rfl, _⟩ := h
    rfl
  · obtain ⟨p, P, rfl, hP, k⟩ := h
    have nd := sc_l_pair.nd
    refine ⟨_, pss_cons (ps_if (pt_cmpR op_eq (pe_fn T.d_l_draw (fn_l_draw T) (hr.mono (by decide)) T.g_l_draw pc (pa_cons (pv 0) (pa_cons (pe_int) pa_nil))) (pe_int) (nomark _)) (pss_cons (ps_set (i := 1) nd rfl (by first | exact Or.inl rfl | exact Or.inr rfl) (pe_int))
      (pss_cons (ps_set (i := 2) nd rfl (by first | exact Or.inl rfl | exact Or.inr rfl) (pe_int))
      (pss_cons (ps_for (passes_of rfl) rfl (pi_range1 rfl T.f_range (pa_cons (pe_fn T.d_l_draw (fn_l_draw T) (hr.mono (by decide)) T.g_l_draw pc (pa_cons (pv 0) (pa_cons (pe_int) pa_nil))) pa_nil)) (pg_name (i := 3) nd rfl (by first | exact Or.inl rfl | exact Or.inr rfl)) (pss_one (ps_par (i := 1) (j := 2) (by rfl) nd rfl rfl (by decide) rfl rfl (pa_cons (pv 2) (pa_cons (pe_op op_add (pv 1) (pv 2)) pa_nil)) (by rfl))))
      (pss_one (ps_ret (pe_tup (pa_cons (pe_ix ix_tup (pe_tup (pa_cons (pv 1) (pa_cons (pe_op op_sub (pe_int) (pv 1)) (pa_cons (pe_op op_mul (pv 2) (pe_int)) pa_nil)))) (pe_fn T.d_l_draw (fn_l_draw T) (hr.mono (by decide)) T.g_l_draw pc (pa_cons (pv 0) (pa_cons (pe_int) pa_nil))) (fun _ _ => rfl)) (pa_cons (pv 2) pa_nil)))))))) (pss_nil))
      (pss_cons (ps_set (i := 4) nd rfl (by first | exact Or.inl rfl | exact Or.inr rfl) (pe_op op_sub (pe_fn T.d_l_draw (fn_l_draw T) (hr.mono (by decide)) T.g_l_draw pc (pa_cons (pv 0) (pa_cons (pe_int) pa_nil))) (pe_int)))
      (pss_one (ps_ret (pe_tup (pa_cons (pe_ix ix_tup (pe_tup (pa_cons (pv 4) (pa_cons (pe_op op_sub (pe_fn T.d_l_draw (fn_l_draw T) (hr.mono (by decide)) T.g_l_draw pc (pa_cons (pv 0) (pa_cons (pe_int) pa_nil))) (pe_int)) (pa_cons (pe_int) pa_nil)))) (pe_fn T.d_l_draw (fn_l_draw T) (hr.mono (by decide)) T.g_l_draw pc (pa_cons (pv 0) (pa_cons (pe_int) pa_nil))) (fun _ _ => rfl)) (pa_cons (pe_op op_add (pe_int) (pe_ix ix_tup (pe_tup (pa_cons (pe_fn T.d_l_draw (fn_l_draw T) (hr.mono (by decide)) T.g_l_draw pc (pa_cons (pv 0) (pa_cons (pe_int) pa_nil))) (pa_cons (pe_fn T.d_l_draw (fn_l_draw T) (hr.mono (by decide)) T.g_l_draw pc (pa_cons (pv 0) (pa_cons (pe_int) pa_nil))) pa_nil))) (pe_fn T.d_l_draw (fn_l_draw T) (hr.mono (by decide)) T.g_l_draw pc (pa_cons (pv 0) (pa_cons (pe_int) pa_nil))) (fun _ _ => rfl))) pa_nil)))))), ?_⟩
    refine ⟨_, rfl, ?_⟩
    refine ⟨p, 12, _, rfl, hP, (by decide), (by decide), fun r P1 g0 g1 q1 q2 _ => ?_⟩
    obtain ⟨hP1, b1⟩ := hP.step q1 q2
    clear q1 q2
    refine ⟨rfl, _, rfl, ite2 (fun c => ?_) fun c => ?_⟩
    · -- Fibonacci's row
      refine ⟨_, rfl, ?_⟩
      refine ⟨p, 284, _, rfl, hP1, (by decide), (by decide), fun r2 P2 g2 g3 q1 q2 _ => ?_⟩
      obtain ⟨hP2, b2⟩ := hP1.step q1 q2
      clear q1 q2
      refine ⟨r2, rfl, by omega, by omega, for_range (lo := 0) (n := r2.toNat) (fun i σ H' => (PoolAt H' p P2 ∧ But p H H') ∧ ∃ (a b : Nat) (v : Option V), σ = [some (.ref p), some (.int (a : Int)), some (.int (b : Int)), v, none] ∧ 0 < b ∧ a < 2 ^ (i + 1) ∧ b < 2 ^ (i + 1))
        ⟨⟨hP2, b1.trans b2⟩, 1, 1, none, rfl, by decide, by decide, by decide⟩ ?_ ?_⟩
      · rintro i σ H' hi ⟨hh, a, b, v, rfl, hb, ha1, hb1⟩
        refine ⟨_, rfl, _, rfl, _, rfl, _, _, rfl, rfl, _, _, rfl, ?_⟩
        refine ⟨hh, b, a + b, some (.int (0 + (i : Int))), rfl, by omega, ?_, ?_⟩
        · rw [Nat.pow_succ]; omega
        · rw [Nat.pow_succ]; omega
      · rintro σ H' ⟨⟨hP2, b12⟩, a, b, v, rfl, hb, ha1, hb1⟩
        have hlim : (2 : Nat) ^ (r2.toNat + 1) ≤ 2 ^ 290 := Nat.pow_le_pow_right (by decide) (by omega)
        refine ⟨_, rfl, _, rfl, _, _, rfl, rfl, _, rfl, _, _, rfl, rfl, .inr ⟨by decide, by decide⟩, (by show 3 ≤ sizeLine; decide), fun t nt => ?_⟩
        have hP3 := hP2.mono (Ex.new (o := .tup [.int (a : Int), .int (0 - (a : Int)), .int ((b : Int) * 7)]) nt)
        refine ⟨_, rfl, ?_⟩
        refine ⟨p, 3, _, rfl, hP3, (by decide), (by decide), fun r3 P4 g4 g5 q1 q2 _ => ?_⟩
        obtain ⟨hP4, b4⟩ := hP3.step q1 q2
        clear q1 q2
        have htp : t ≠ p := (ne_of_none hP2.l nt).symm
        obtain ⟨v1, e1, e2⟩ := at3 (a := .int (a : Int)) (b := .int (0 - (a : Int))) (c := .int ((b : Int) * 7)) g4 g5
        refine ⟨t, _, _, v1, rfl, rfl, SqT.of (b4 _ _ htp upd_same), e1, _, rfl, (by show 2 ≤ sizeLine; decide), fun u nu => ?_⟩
        obtain ⟨n, rfl, hn⟩ : ∃ n : Int, v1 = .int n ∧ n.natAbs < 2 ^ 300 := by
          have h3 : (2 : Nat) ^ 300 = 2 ^ 290 * 1024 := by decide +kernel
          rcases e2 with rfl | rfl | rfl
          · exact ⟨_, rfl, by omega⟩
          · exact ⟨_, rfl, by omega⟩
          · exact ⟨_, rfl, by omega⟩
        refine k _ _ P4 n b ((b12.trans (But.same (Ex.new nt))).trans (b4.trans (But.same (Ex.new nu)))) (hP4.mono (Ex.new nu)) ⟨u, rfl, upd_same⟩ ⟨by omega, hn, ?_⟩
        have h3 : (2 : Nat) ^ 300 = 2 ^ 290 * 1024 := by decide +kernel
        omega
    · refine ⟨_, rfl, ?_⟩
      refine ⟨p, 2000001, _, rfl, hP1, (by decide), (by decide), fun r2 P2 g2 g3 q1 q2 _ => ?_⟩
      obtain ⟨hP2, b2⟩ := hP1.step q1 q2
      clear q1 q2
      refine ⟨_, _, rfl, rfl, _, rfl, _, rfl, ?_⟩
      refine ⟨p, 9, _, rfl, hP2, (by decide), (by decide), fun r3 P3 g4 g5 q1 q2 _ => ?_⟩
      obtain ⟨hP3, b3⟩ := hP2.step q1 q2
      clear q1 q2
      refine ⟨_, _, rfl, rfl, (by show 3 ≤ sizeLine; decide), fun t nt => ?_⟩
      have hP3' := hP3.mono (Ex.new (o := .tup [.int (r2 - 1000000), .int (r3 - 4), .int 0]) nt)
      refine ⟨_, rfl, ?_⟩
      refine ⟨p, 3, _, rfl, hP3', (by decide), (by decide), fun r4 P4 g6 g7 q1 q2 _ => ?_⟩
      obtain ⟨hP4, b4⟩ := hP3'.step q1 q2
      clear q1 q2
      have htp : t ≠ p := (ne_of_none hP3.l nt).symm
      obtain ⟨v1, e1, e2⟩ := at3 (a := .int (r2 - 1000000)) (b := .int (r3 - 4)) (c := .int 0) g6 g7
      refine ⟨t, _, _, v1, rfl, rfl, SqT.of (b4 _ _ htp upd_same), e1, _, rfl, ?_⟩
      refine ⟨p, 1000, _, rfl, hP4, (by decide), (by decide), fun r5 P5 g8 g9 q1 q2 _ => ?_⟩
      obtain ⟨hP5, b5⟩ := hP4.step q1 q2
      clear q1 q2
      refine ⟨_, rfl, ?_⟩
      refine ⟨p, 6, _, rfl, hP5, (by decide), (by decide), fun r6 P6 g10 g11 q1 q2 _ => ?_⟩
      obtain ⟨hP6, b6⟩ := hP5.step q1 q2
      clear q1 q2
      refine ⟨(by show 2 ≤ sizeLine; decide), fun t2 nt2 => ?_⟩
      have hP6' := hP6.mono (Ex.new (o := .tup [.int r5, .int r6]) nt2)
      refine ⟨_, rfl, ?_⟩
      refine ⟨p, 2, _, rfl, hP6', (by decide), (by decide), fun r7 P7 g12 g13 q1 q2 _ => ?_⟩
      obtain ⟨hP7, b7⟩ := hP6'.step q1 q2
      clear q1 q2
      have htp2 : t2 ≠ p := (ne_of_none hP6.l nt2).symm
      obtain ⟨v2, e3, e4⟩ := at2 (a := .int r5) (b := .int r6) g12 g13
      refine ⟨t2, _, _, v2, rfl, rfl, SqT.of (b7 _ _ htp2 upd_same), e3, ?_⟩
      obtain ⟨n, rfl, hn⟩ : ∃ n : Int, v1 = .int n ∧ n.natAbs < 2000000 := by
        rcases e2 with rfl | rfl | rfl
        · exact ⟨_, rfl, by omega⟩
        · exact ⟨_, rfl, by omega⟩
        · exact ⟨_, rfl, by omega⟩
      obtain ⟨d, rfl, hd0, hd⟩ : ∃ d : Int, v2 = .int d ∧ 0 ≤ d ∧ d < 1000 := by
        rcases e4 with rfl | rfl
        · exact ⟨_, rfl, by omega, by omega⟩
        · exact ⟨_, rfl, by omega, by omega⟩
      refine ⟨_, _, rfl, rfl, (by show 2 ≤ sizeLine; decide), fun u nu => ?_⟩
      have h3 : 2000000 < (2 : Nat) ^ 300 := by decide +kernel
      refine k _ _ P7 n (1 + d) ?_ (hP7.mono (Ex.new nu)) ⟨u, rfl, upd_same⟩ ⟨by omega, by omega, by omega⟩
      exact b1.trans (b2.trans (b3.trans ((But.same (Ex.new nt)).trans (b4.trans (b5.trans (b6.trans ((But.same (Ex.new nt2)).trans (b7.trans (But.same (Ex.new nu))))))))))
end
end LL
namespace LL
open PySem PySem.Spec PyProof.Rows L2 He Evl
/-! ### readings that give some value of which a thing is true -/
abbrev VP := V → Hp → Prop
def Mono (P : VP) : Prop := ∀ v H H', Ex H H' → P v H → P v H'
def EvP (te : TE) (σ : L2.St) (H : Hp) (R : VP) : Prop := ∀ H1, Ex H H1 → ∀ Q : VK, (∀ v H2, Ex H1 H2 → R v H2 → Q v H2) → te σ H1 Q
def SpP (sp : Sp) (vs : List V) (H : Hp) (R : VP) : Prop := ∀ (Q : VK) (E : XK), (∀ v H2, Ex H H2 → R v H2 → Q v H2) → sp vs H Q E
section
variable {σ : L2.St} {H H' : Hp} {te ta tb : TE} {R R1 R2 : VP} {D : Ends} {i : Nat} {v : V} {sp : Sp} {E : XK}
theorem EvP.mono (e : Ex H H') (h : EvP te σ H R) : EvP te σ H' R := fun H1 a Q q => h H1 (e.trans a) Q q
theorem ev_p (h : Ev te σ H v) : EvP te σ H (fun w _ => w = v) := fun H1 e Q q => h H1 e Q fun H2 e2 => q v H2 e2 rfl
theorem EvP.ev (h : EvP te σ H (fun w _ => w = v)) : Ev te σ H v := fun H1 e Q q => h H1 e Q fun w H2 e2 z => by subst z; exact q H2 e2
theorem EvP.imp (h : EvP te σ H R) (f : ∀ v H1, Ex H H1 → R v H1 → R1 v H1) : EvP te σ H R1 := fun H1 e Q q => h H1 e Q fun w H2 e2 z => q w H2 e2 (f w H2 (e.trans e2) z)
theorem evp_var (h : σ[i]? = some (some v)) (m : Mono R) (r : R v H) : EvP (tVar i) σ H R := fun H1 e _ q => ⟨v, h, q v H1 (Ex.refl H1) (m _ _ _ e r)⟩
theorem s_asgP (h : EvP te σ H R) (k : ∀ v H1, Ex H H1 → R v H1 → D.nx (σ.set i (some v)) H1) : tAsg te (gName i) D σ H := h H (Ex.refl H) _ fun v H1 e r => k v H1 e r
theorem s_retP (h : EvP te σ H R) (k : ∀ v H1, Ex H H1 → R v H1 → D.rt v H1) : tRet te D σ H := h H (Ex.refl H) _ fun v H1 e r => k v H1 e r
theorem evp_fn1 (h1 : EvP ta σ H R1) (hs : ∀ x H1, Ex H H1 → R1 x H1 → SpP sp [x] H1 R) : EvP (fun σ H Q => tCons ta tNil σ H fun vs H1 => sp vs H1 Q E) σ H R := fun H1 e Q q =>
  h1 H1 e _ fun x H2 e2 r1 => hs x H2 (e.trans e2) r1 Q E fun v H3 e3 r => q v H3 (e2.trans e3) r
theorem evp_fn2 (h1 : EvP ta σ H R1) (m1 : Mono R1) (h2 : EvP tb σ H R2) (hs : ∀ x y H1, Ex H H1 → R1 x H1 → R2 y H1 → SpP sp [x, y] H1 R) : EvP (fun σ H Q => tCons ta (tCons tb tNil) σ H fun vs H1 => sp vs H1 Q E) σ H R := fun H1 e Q q =>
  h1 H1 e _ fun x H2 e2 r1 => h2 H2 (e.trans e2) _ fun y H3 e3 r2 => hs x y H3 ((e.trans e2).trans e3) (m1 _ _ _ e3 r1) r2 Q E fun v H4 e4 r => q v H4 ((e2.trans e3).trans e4) r
theorem evp_op {r : L2.R2} (h1 : EvP ta σ H R1) (m1 : Mono R1) (h2 : EvP tb σ H R2) (hs : ∀ x y H1, Ex H H1 → R1 x H1 → R2 y H1 → ∀ Q : VK, (∀ v H2, Ex H1 H2 → R v H2 → Q v H2) → r x y H1 Q) : EvP (tOp r ta tb) σ H R := fun H1 e Q q =>
  h1 H1 e _ fun x H2 e2 r1 => h2 H2 (e.trans e2) _ fun y H3 e3 r2 => hs x y H3 ((e.trans e2).trans e3) (m1 _ _ _ e3 r1) r2 Q fun v H4 e4 r => q v H4 ((e2.trans e3).trans e4) r
theorem mono_eq : Mono (fun w _ => w = v) := fun _ _ _ _ h => h
end
section
variable {K : PySem.W.Frag} {σ : L2.St} {H : Hp} {ta tb : TE} {p q : Rat} {E : XK} {n d : Int}
theorem mono_rat : Mono (fun v H => RatAt K H v p) := fun _ _ _ e h => h.mono e
theorem mono_pair : Mono (fun v H => PairAt H v n d) := fun _ _ _ e h => h.mono e
theorem evp_rat {f : Rat → Rat → Rat} (h1 : EvP ta σ H fun v H => RatAt K H v p) (h2 : EvP tb σ H fun v H => RatAt K H v q) (zp : Sz 4000 p) (zq : Sz 4000 q) : EvP (tOp (rOwnB (cR K) (spB K f) E) ta tb) σ H fun v H => RatAt K H v (f p q) :=
  evp_op h1 mono_rat h2 fun x y H1 _ r1 r2 Q k => by
    obtain ⟨a, dx, rfl, ha⟩ := id r1
    obtain ⟨b, dy, rfl, hb⟩ := id r2
    exact ⟨a, dx, _, b, dy, _, rfl, rfl, ha, hb, _, _, p, q, rfl, r1, r2, zp, zq, fun v H' e r => k v H' e r⟩
/-- one[i], one a pair -/
theorem ev_fst (h : EvP ta σ H fun v H => PairAt H v n d) : Ev (tOp (rIxT K) ta (tC (.int 0))) σ H (.int n) := fun H1 e Q k => h H1 e _ fun v H2 e2 ⟨a, ea, ha⟩ => ⟨a, _, _, _, ea, rfl, SqT.of ha, rfl, k H2 e2⟩
theorem ev_snd (h : EvP ta σ H fun v H => PairAt H v n d) : Ev (tOp (rIxT K) ta (tC (.int 1))) σ H (.int d) := fun H1 e Q k => h H1 e _ fun v H2 e2 ⟨a, ea, ha⟩ => ⟨a, _, _, _, ea, rfl, SqT.of ha, rfl, k H2 e2⟩
/-- Ratio(n, d) -/
theorem evp_make (h1 : Ev ta σ H (.int n)) (h2 : Ev tb σ H (.int d)) (hd : 0 < d) (hz : d.natAbs < 2 ^ 9000) : EvP (StX.tMakeR (cR K) (spRI K) E (tCons ta (tCons tb tNil))) σ H fun v H => RatAt K H v (mkRat n d.toNat) := fun H1 e Q k =>
  h1 H1 e _ fun H2 e2 => h2 H2 (e.trans e2) _ fun H3 e3 x dx nx ndx ne => mk_ratio' hd hz nx ndx fun H' s r => ⟨rfl, k _ _ ((e2.trans e3).trans s) r⟩
theorem evp_makeN (h1 : Ev ta σ H (.int n)) (h2 : Ev tb σ H (.int d)) (hd : 0 < d) (hz : d.natAbs < 2 ^ 9000) : EvP (tMakeN (cR K) 1 1 (spRI K) (fun vs zs => vs ++ zs) E (tCons ta tNil) (tCons tb tNil)) σ H fun v H => RatAt K H v (mkRat n d.toNat) := fun H1 e Q k =>
  h1 H1 e _ fun H2 e2 => h2 H2 (e.trans e2) _ fun H3 e3 => ⟨rfl, rfl, fun x dx nx ndx ne => mk_ratio' hd hz nx ndx fun H' s r => ⟨rfl, k _ _ ((e2.trans e3).trans s) r⟩⟩
theorem evp_makeK (h1 : Ev ta σ H (.int n)) (h2 : Ev tb σ H (.int d)) (hd : 0 < d) (hz : d.natAbs < 2 ^ 9000) : EvP (tMakeK (cR K) 0 2 (spRI K) (fun vs zs => vs ++ zs.reverse) E tNil (tCons tb (tCons ta tNil))) σ H fun v H => RatAt K H v (mkRat n d.toNat) := fun H1 e Q k =>
  h2 H1 e _ fun H2 e2 => h1 H2 (e.trans e2) _ fun H3 e3 => ⟨rfl, rfl, fun x dx nx ndx ne => mk_ratio' hd hz nx ndx fun H' s r => ⟨rfl, k _ _ ((e2.trans e3).trans s) r⟩⟩
theorem evp_low (h1 : Ev ta σ H (.int n)) (h2 : Ev tb σ H (.int d)) (hd : 0 < d) (hz : d.natAbs < 2 ^ 1900) : EvP (fun σ H Q => tCons ta (tCons tb tNil) σ H fun vs H1 => spLow K vs H1 Q E) σ H fun v H => PairAt H v (mkRat n d.toNat).num (mkRat n d.toNat).den :=
  evp_fn2 (ev_p h1) mono_eq (ev_p h2) fun x y H1 _ ex ey Q E k => by subst ex; subst ey; exact ⟨n, d, rfl, hd, hz, fun v H' e r => k v H' e r⟩
theorem ev_int1 {k : Bool} (h : Ev ta σ H (.bl k)) : Ev (tCB (fun xs H Q => (∃ i : Int, xs = [.int i] ∧ Q (.int i) H) ∨ ∃ k, xs = [.bl k] ∧ Q (.int (if k = true then 1 else 0)) H) (tCons ta tNil)) σ H (.int (if k = true then 1 else 0)) := fun H1 e Q q =>
  h H1 e _ fun H2 e2 => .inr ⟨k, rfl, q H2 e2⟩
theorem div_mk {n1 d1 n2 d2 s : Int} (h1 : 0 < d1) (h2 : 0 < d2) (hs : (0 < n2 ∧ s = 1) ∨ (n2 < 0 ∧ s = -1)) : mkRat n1 d1.toNat / mkRat n2 d2.toNat = mkRat (n1 * d2 * s) (d1 * n2 * s).toNat := by
  have c : ∀ z : Int, 0 < z → ((z.toNat : Nat) : Rat) = (z : Rat) := fun z hz => by
    obtain ⟨m, rfl⟩ : ∃ m : Nat, z = m := ⟨z.toNat, by omega⟩
    rfl
  have pos : 0 < d1 * n2 * s := by
    rcases hs with ⟨h, e⟩ | ⟨h, e⟩
    · rw [e, Int.mul_one]; exact Int.mul_pos h1 h
    · rw [e, Int.mul_neg_one, ← Int.mul_neg]; exact Int.mul_pos h1 (by omega)
  have p1 : (d1 : Rat) ≠ 0 := by have : d1 ≠ 0 := by omega
                                 exact_mod_cast this
  have p2 : (d2 : Rat) ≠ 0 := by have : d2 ≠ 0 := by omega
                                 exact_mod_cast this
  have p3 : (n2 : Rat) ≠ 0 := by have : n2 ≠ 0 := by omega
                                 exact_mod_cast this
  rw [Rat.mkRat_eq_div, Rat.mkRat_eq_div, Rat.mkRat_eq_div, c _ h1, c _ h2, c _ pos, Rat.intCast_mul, Rat.intCast_mul, Rat.intCast_mul, Rat.intCast_mul]
  have p4 : (s : Rat) ≠ 0 := by
    have : s ≠ 0 := by rcases hs with ⟨_, e⟩ | ⟨_, e⟩ <;> omega
    exact_mod_cast this
  grind
theorem evp_pairMk (h1 : Ev ta σ H (.int n)) (h2 : Ev tb σ H (.int d)) : EvP (tTup (tCons ta (tCons tb tNil))) σ H fun v H => PairAt H v n d := fun H1 e Q k =>
  h1 H1 e _ fun H2 e2 => h2 H2 (e.trans e2) _ fun H3 e3 => ⟨(by show 2 ≤ sizeLine; decide), fun t nt => k _ _ ((e2.trans e3).trans (Ex.new nt)) ⟨t, rfl, upd_same⟩⟩
theorem evp_make1 (h1 : Ev ta σ H (.int n)) : EvP (StX.tMakeR (cR K) (fun vs H Q E => spRI K (vs ++ [.int 1]) H Q E) E (tCons ta tNil)) σ H fun v H => RatAt K H v (mkRat n 1) := fun H1 e Q k =>
  h1 H1 e _ fun H2 e2 x dx nx ndx ne => mk_ratio' (d := 1) (by decide) (Nat.lt_of_lt_of_le (by decide : 1 < 2 ^ 1) (Nat.pow_le_pow_right (by decide) (by decide))) nx ndx fun H' s r => ⟨rfl, k _ _ (e2.trans s) r⟩
def rStrI : List V → Hp → VK → Prop := fun xs H Q => ∃ i : Int, xs = [.int i] ∧ i.natAbs.log2 < 1920 ∧ Q (.str (Str.ofString (toString i))) H
theorem ev_strI (h : Ev ta σ H (.int n)) (hz : n.natAbs < 2 ^ 1900) : Ev (tCB rStrI (tCons ta tNil)) σ H (.str (Str.ofString (toString n))) := fun H1 e Q q =>
  h H1 e _ fun H2 e2 => ⟨n, rfl, log_lt (Nat.lt_of_lt_of_le hz (Nat.pow_le_pow_right (by decide) (by decide))) (by decide), q H2 e2⟩
theorem ev_cat {x y : Str} (h1 : Ev ta σ H (.str x)) (h2 : Ev tb σ H (.str y)) (hz : x.length + y.length ≤ 100000) : Ev (tOp (fun x y H Q => ∃ i j, x = .str i ∧ y = .str j ∧ i.length + j.length ≤ sizeLine ∧ Q (.str (i ++ j)) H) ta tb) σ H (.str (x ++ y)) :=
  ev_op h1 h2 fun H1 _ Q q => ⟨x, y, rfl, rfl, sz_of hz, q H1 (Ex.refl H1)⟩
theorem ev_isR (h1 : EvP ta σ H fun v H => RatAt K H v q) (h2 : EvP tb σ H fun v H => PairAt H v q.num q.den) : Ev (fun σ H Q => tCons ta (tCons tb tNil) σ H fun vs H1 => spIs K vs H1 Q E) σ H (.bl true) :=
  EvP.ev (evp_fn2 h1 mono_rat h2 fun x y H1 _ rx ry Q E k => ⟨x, y, q, rfl, rx, ry, fun H' e => k _ H' e rfl⟩)
theorem ev_sameL {x : V} {dd : PyData} (h1 : Ev ta σ H x) (h2 : Ev tb σ H x) (hd : ∀ H, Dp K H x dd) (hn : Dep 2 dd) : Ev (fun σ H Q => tCons ta (tCons tb tNil) σ H fun vs H1 => spSame K 2 vs H1 Q E) σ H (.bl true) :=
  EvP.ev (evp_fn2 (ev_p h1) mono_eq (ev_p h2) fun x' y' H1 _ ex ey Q E k => by subst ex; subst ey; exact ⟨_, _, dd, dd, rfl, hd H1, hd H1, hn, fun H' e => k _ H' e (by rw [same_t rfl])⟩)
theorem evp_pp {f : Rat → Rat → Rat} {n1 d1 n2 d2 : Int} (h1 : EvP ta σ H fun v H => PairAt H v n1 d1) (h2 : EvP tb σ H fun v H => PairAt H v n2 d2) (z1 : Sm 900 n1 d1) (z2 : Sm 900 n2 d2) :
    EvP (fun σ H Q => tCons ta (tCons tb tNil) σ H fun vs H1 => spPP K f vs H1 Q E) σ H fun v H => PairAt H v (f (mkRat n1 d1.toNat) (mkRat n2 d2.toNat)).num (f (mkRat n1 d1.toNat) (mkRat n2 d2.toNat)).den :=
  evp_fn2 h1 mono_pair h2 fun x y H1 _ rx ry Q E k => ⟨x, y, n1, d1, n2, d2, rfl, rx, ry, z1, z2, fun v H' e r => k v H' e r⟩
theorem ev_below {n1 d1 n2 d2 : Int} (h1 : EvP ta σ H fun v H => PairAt H v n1 d1) (h2 : EvP tb σ H fun v H => PairAt H v n2 d2) (z1 : Sm 900 n1 d1) (z2 : Sm 900 n2 d2) :
    Ev (fun σ H Q => tCons ta (tCons tb tNil) σ H fun vs H1 => spBelow vs H1 Q E) σ H (.bl (decide (mkRat n1 d1.toNat < mkRat n2 d2.toNat))) :=
  EvP.ev (evp_fn2 h1 mono_pair h2 fun x y H1 _ rx ry Q E k => ⟨x, y, n1, d1, n2, d2, rfl, rx, ry, z1, z2, k _ H1 (Ex.refl H1) rfl⟩)
theorem ev_less (h1 : EvP ta σ H fun v H => RatAt K H v p) (h2 : EvP tb σ H fun v H => RatAt K H v q) (zp : Sz 4000 p) (zq : Sz 4000 q) : Ev (tMethR (cR K) "less" (spLess K) E ta (tCons tb tNil)) σ H (.bl (decide (p < q))) := fun H1 e Q k =>
  h1 H1 e _ fun x H2 e2 r1 => by
    obtain ⟨a, dx, rfl, ha⟩ := id r1
    exact ⟨a, dx, _, rfl, ha, rf_no _ _ (by decide +kernel) (by decide +kernel), h2 H2 (e.trans e2) _ fun y H3 e3 r2 => ⟨_, _, p, q, rfl, r1.mono e3, r2, zp, zq, k H3 (e2.trans e3)⟩⟩
theorem evp_over (h1 : EvP ta σ H fun v H => RatAt K H v p) (h2 : EvP tb σ H fun v H => RatAt K H v q) (zp : Sz 4000 p) (zq : Sz 4000 q) (hq : q ≠ 0) : EvP (tMethR (cR K) "over" (spOver K) E ta (tCons tb tNil)) σ H fun v H => RatAt K H v (p / q) := fun H1 e Q k =>
  h1 H1 e _ fun x H2 e2 r1 => by
    obtain ⟨a, dx, rfl, ha⟩ := id r1
    exact ⟨a, dx, _, rfl, ha, rf_no _ _ (by decide +kernel) (by decide +kernel), h2 H2 (e.trans e2) _ fun y H3 e3 r2 => ⟨_, _, p, q, rfl, r1.mono e3, r2, zp, zq, fun z => absurd z hq, fun _ v H' e4 r => k v H' ((e2.trans e3).trans e4) r⟩⟩
theorem ev_eqR (h1 : EvP ta σ H fun v H => RatAt K H v p) (h2 : EvP tb σ H fun v H => RatAt K H v q) : Ev (tOp (rOwnB (cR K) (spEqR K) E) ta tb) σ H (.bl (decide (p = q))) :=
  EvP.ev (evp_op h1 mono_rat h2 fun x y H1 _ r1 r2 Q k => by
    obtain ⟨a, dx, rfl, ha⟩ := id r1
    obtain ⟨b, dy, rfl, hb⟩ := id r2
    exact ⟨a, dx, _, b, dy, _, rfl, rfl, ha, hb, _, _, p, q, rfl, r1, r2, fun H' e => k _ H' e rfl⟩)
theorem ev_pairEq {n1 d1 n2 d2 : Int} (h1 : EvP ta σ H fun v H => PairAt H v n1 d1) (h2 : EvP tb σ H fun v H => PairAt H v n2 d2) : Ev (tOp (rEqD K) ta tb) σ H (.bl (decide (n1 = n2 ∧ d1 = d2))) :=
  EvP.ev (evp_op h1 mono_pair h2 fun x y H1 _ r1 r2 Q k => by
    obtain ⟨a, rfl, ha⟩ := id r1
    obtain ⟨b, rfl, hb⟩ := id r2
    refine ⟨_, _, Dp.tup (SqT.of ha) (.cons (.int _) (.cons (.int _) .nil)), Dp.tup (SqT.of hb) (.cons (.int _) (.cons (.int _) .nil)), rfl, rfl, ?_⟩
    rw [eqv_pair]
    exact k _ H1 (Ex.refl H1) rfl)
theorem ev_strR {n : Nat} (h1 : EvP ta σ H fun v H => RatAt K H v p) (zp : Sz 1900 p) : Ev (tCB (rStrOwn (cR K) (spStrR K) E) (tCons ta tNil)) σ H (.str (ratStr p)) := fun H1 e Q k =>
  h1 H1 e _ fun x H2 e2 r1 => by
    obtain ⟨a, dx, rfl, ha⟩ := id r1
    exact ⟨a, dx, _, rfl, ha, _, p, rfl, r1, zp, _, rfl, k H2 e2⟩
end
end LL
namespace LL
open PySem PySem.Spec PyProof.Rows L2 He Evl
section
variable {P : Program} {w : World} {K : PySem.W.Frag} {mg : Str → Option Value} {base : Heap}
def spLaw (K : PySem.W.Frag) : Sp := fun vs H Q _ => ∃ (a : Addr) (ns : List Int), vs = [.ref a] ∧ SqL K H a (ns.map V.int) ∧ ns.length ≤ 63 ∧ ∀ H', Q (.bl true) H'
def Tw (p : Addr) (H : Hp) (one oth : V) (n1 d1 n2 d2 : Int) : Prop := (∃ P, PoolAt H p P) ∧ PairAt H one n1 d1 ∧ PairAt H oth n2 d2 ∧ Sm 300 n1 d1 ∧ Sm 300 n2 d2
theorem Tw.mono {p : Addr} {H H' : Hp} {one oth : V} {n1 d1 n2 d2 : Int} (e : Ex H H') (h : Tw p H one oth n1 d1 n2 d2) : Tw p H' one oth n1 d1 n2 d2 :=
  ⟨h.1.imp fun _ z => z.mono e, h.2.1.mono e, h.2.2.1.mono e, h.2.2.2⟩
theorem Sm.mono {j k : Nat} {n d : Int} (h : Sm j n d) (l : j ≤ k) : Sm k n d := ⟨h.1, Nat.lt_of_lt_of_le h.2.1 (Nat.pow_le_pow_right (by decide) l), Nat.lt_of_lt_of_le h.2.2 (Nat.pow_le_pow_right (by decide) l)⟩
theorem PairAt.but {p : Addr} {H H' : Hp} {P : Pl} {v : V} {n d : Int} (b : But p H H') (hP : PoolAt H p P) (h : PairAt H v n d) : PairAt H' v n d := by
  obtain ⟨a, e, ha⟩ := h
  refine ⟨a, e, b _ _ (fun z => ?_) ha⟩
  subst z
  rw [hP.l] at ha
  cases ha
theorem kb1 {fd : FuncData} (F : FunD K "__init__" "Ratio.__init__" (defArgs s_Ratio_init) (defBody s_Ratio_init) (defScope s_Ratio_init) (List.map (He.Dv.v K) [.int 1]) [] (ma K (cR K) "__init__") fd) :
    ∃ its : List Value, KBn K fd ["self", "num", "den"] 2 ["den"] (fun us ws => us ++ ws) (fun vs zs => vs ++ zs) :=
  F.kbindsD 2 ["den"] (fun us _ ws => us ++ ws) (by simp) (fun r1 _ r3 => r1.append r3) (fun _ _ _ _ _ _ _ us its ws hl hi hw => match us, hl, its, hi, ws, hw with | [_, _], _, [_], _, [_], _ => ⟨_, rfl, rfl⟩)
theorem vals_rev : ∀ {xs : List V} {us : List Value}, Vals xs us → Vals xs.reverse us.reverse
  | _, _, .nil => .nil
  | _, _, .cons r t => by
    rw [List.reverse_cons, List.reverse_cons]
    exact (vals_rev t).append (.cons r .nil)
theorem kb2 {fd : FuncData} (F : FunD K "__init__" "Ratio.__init__" (defArgs s_Ratio_init) (defBody s_Ratio_init) (defScope s_Ratio_init) (List.map (He.Dv.v K) [.int 1]) [] (ma K (cR K) "__init__") fd) :
    ∃ its : List Value, KBn K fd ["self", "num", "den"] 1 ["den", "num"] (fun us ws => us ++ ws.reverse) (fun vs zs => vs ++ zs.reverse) :=
  F.kbindsD 1 ["den", "num"] (fun us _ ws => us ++ ws.reverse) (by simp) (fun r1 _ r3 => r1.append (vals_rev r3)) (fun _ _ _ _ _ _ _ us its ws hl hi hw => match us, hl, its, hi, ws, hw with | [_], _, [_], _, [_, _], _ => ⟨_, rfl, rfl⟩)
theorem ok_law (T : Txt K mg) {fd : FuncData} (F : FunD K "law" "law" (defArgs s_law) (defBody s_law) (defScope s_law) (List.map (He.Dv.v K) []) [] (ga K "law") fd) : FnOk P w K mg base (L2.CX P w) 5 (ga K "law") fd ["_law_script"] (spLaw K) := by
  refine F.ok sc_law (fun vs H Q E h => ?_) (fun cdv A outer s H vs Q E hr h => ?_)
  · obtain ⟨a, ns, rfl, _⟩ := h
    rfl
  · obtain ⟨a, ns, rfl, hS, hz, k⟩ := h
    have nd := sc_law.nd
    obtain ⟨fdR, FR, GRatio⟩ := ok_RI (P := P) (w := w) (base := base) T
    obtain ⟨_, kb_den⟩ := kb1 FR
    obtain ⟨_, kb_den_num⟩ := kb2 FR
    refine ⟨_, pss_cons (ps_set (i := 1) nd rfl (by first | exact Or.inl rfl | exact Or.inr rfl) (pe_fn T.d_l_pool (fn_l_pool T) (hr.mono (by decide)) T.g_l_pool pc (pa_cons (pv 0) (pa_cons (pe_int) pa_nil))))
      (pss_cons (ps_for (passes_of rfl) rfl (pi_range1 rfl T.f_range (pa_cons (pe_int) pa_nil)) (pg_name (i := 2) nd rfl (by first | exact Or.inl rfl | exact Or.inr rfl)) (pss_cons (ps_set (i := 3) nd rfl (by first | exact Or.inl rfl | exact Or.inr rfl) (pe_fn T.d_l_pair (fn_l_pair T) (hr.mono (by decide)) T.g_l_pair pc (pa_cons (pv 1) pa_nil)))
      (Evl.pss_cut (ps_set (i := 4) nd rfl (by first | exact Or.inl rfl | exact Or.inr rfl) (pe_ix ix_tup (pe_tup (pa_cons (pe_fn T.d_l_pair (fn_l_pair T) (hr.mono (by decide)) T.g_l_pair pc (pa_cons (pv 1) pa_nil)) (pa_cons (pv 3) pa_nil))) (pe_callTy call_int1 (by rfl) T.f_int (by decide +kernel) (pa_cons (pe_cmpR op_eq (pe_fn T.d_l_draw (fn_l_draw T) (hr.mono (by decide)) T.g_l_draw pc (pa_cons (pv 1) (pa_cons (pe_int) pa_nil))) (pe_int) (nomark _)) pa_nil)) (fun _ _ => rfl)))
      (pss_cons (ps_set (i := 5) nd rfl (by first | exact Or.inl rfl | exact Or.inr rfl) (StX.pe_makeR T.m_Ratio (fn_RI2 T) (hr.mono (by decide)) rfl T.g_Ratio pc (pa_cons (pe_ix ix_tup (pv 3) (pe_int) (fun _ _ => rfl)) (pa_cons (pe_ix ix_tup (pv 3) (pe_int) (fun _ _ => rfl)) pa_nil))))
      (Evl.pss_cut (ps_if (pt_cmpR op_eq (pv 2) (pe_int) (nomark _)) (pss_one (ps_set (i := 5) nd rfl (by first | exact Or.inl rfl | exact Or.inr rfl) (pe_makeN T.m_Ratio GRatio (hr.mono (by decide)) rfl T.g_Ratio kb_den pc (pa_cons (pe_ix ix_tup (pv 3) (pe_int) (fun _ _ => rfl)) pa_nil) (pk_cons (pe_ix ix_tup (pv 3) (pe_int) (fun _ _ => rfl)) pk_nil)))) (pss_nil))
      (Evl.pss_cut (ps_if (pt_cmpR op_eq (pv 2) (pe_int) (nomark _)) (pss_one (ps_set (i := 5) nd rfl (by first | exact Or.inl rfl | exact Or.inr rfl) (pe_makeK0 T.m_Ratio GRatio (hr.mono (by decide)) rfl T.g_Ratio kb_den_num pc (pk_cons (pe_ix ix_tup (pv 3) (pe_int) (fun _ _ => rfl)) (pk_cons (pe_ix ix_tup (pv 3) (pe_int) (fun _ _ => rfl)) pk_nil))))) (pss_nil))
      (pss_cons (ps_set (i := 6) nd rfl (by first | exact Or.inl rfl | exact Or.inr rfl) (StX.pe_makeR T.m_Ratio (fn_RI2 T) (hr.mono (by decide)) rfl T.g_Ratio pc (pa_cons (pe_ix ix_tup (pv 4) (pe_int) (fun _ _ => rfl)) (pa_cons (pe_ix ix_tup (pv 4) (pe_int) (fun _ _ => rfl)) pa_nil))))
      (pss_cons (ps_set (i := 7) nd rfl (by first | exact Or.inl rfl | exact Or.inr rfl) (pe_fn T.d_l_less (fn_l_less T) (hr.mono (by decide)) T.g_l_less pc (pa_cons (pe_ix ix_tup (pv 3) (pe_int) (fun _ _ => rfl)) (pa_cons (pe_ix ix_tup (pv 3) (pe_int) (fun _ _ => rfl)) pa_nil))))
      (pss_cons (ps_set (i := 8) nd rfl (by first | exact Or.inl rfl | exact Or.inr rfl) (pe_callTy call_str_int (by rfl) T.f_str (by decide +kernel) (pa_cons (pe_ix ix_tup (pv 7) (pe_int) (fun _ _ => rfl)) pa_nil)))
      (Evl.pss_cut (ps_if (pt_cmpR op_gt (pe_ix ix_tup (pv 7) (pe_int) (fun _ _ => rfl)) (pe_int) (nomark _)) (pss_one (ps_set (i := 8) nd rfl (by first | exact Or.inl rfl | exact Or.inr rfl) (pe_op op_add_str (pe_op op_add_str (pv 8) (pe_str)) (pe_callTy call_str_int (by rfl) T.f_str (by decide +kernel) (pa_cons (pe_ix ix_tup (pv 7) (pe_int) (fun _ _ => rfl)) pa_nil))))) (pss_nil))
      (pss_cons (ps_if (PW.pt (pw_or (pt_not (pt_val (pe_fn T.d_l_is (fn_l_is T) (hr.mono (by decide)) T.g_l_is pc (pa_cons (pv 5) (pa_cons (pv 7) pa_nil))))) (pw_or (pt_not (pt_val (pe_fn T.d_l_same (fn_l_same T 2) (hr.mono (by decide)) T.g_l_same pc (pa_cons (pe_callTy (call_strOwn T.t_Ratio_str.at_ T.t_Ratio_str.fn (fn_Ratio_str T) (hr.mono (by decide)) pc) (by rfl) T.f_str (by decide +kernel) (pa_cons (pv 5) pa_nil)) (pa_cons (pv 8) pa_nil))))) (pw_or1 (pt_not (pt_val (pe_fn T.d_l_is (fn_l_is T) (hr.mono (by decide)) T.g_l_is pc (pa_cons (pe_op (op_ownB T.sf_Ratio T.t_Ratio_add.at_ T.t_Ratio_add.fn (fn_Ratio_add T) (hr.mono (by decide)) pc) (pv 5) (pv 6)) (pa_cons (pe_fn T.d_l_plus (fn_l_plus T) (hr.mono (by decide)) T.g_l_plus pc (pa_cons (pv 3) (pa_cons (pv 4) pa_nil))) pa_nil))))))))) (pss_one (ps_ret (pe_bl))) (pss_nil))
      (pss_cons (ps_if (PW.pt (pw_or (pt_not (pt_val (pe_fn T.d_l_is (fn_l_is T) (hr.mono (by decide)) T.g_l_is pc (pa_cons (pe_op (op_ownB T.sf_Ratio T.t_Ratio_sub.at_ T.t_Ratio_sub.fn (fn_Ratio_sub T) (hr.mono (by decide)) pc) (pv 5) (pv 6)) (pa_cons (pe_fn T.d_l_minus (fn_l_minus T) (hr.mono (by decide)) T.g_l_minus pc (pa_cons (pv 3) (pa_cons (pv 4) pa_nil))) pa_nil))))) (pw_or1 (pt_not (pt_val (pe_fn T.d_l_is (fn_l_is T) (hr.mono (by decide)) T.g_l_is pc (pa_cons (pe_op (op_ownB T.sf_Ratio T.t_Ratio_mul.at_ T.t_Ratio_mul.fn (fn_Ratio_mul T) (hr.mono (by decide)) pc) (pv 5) (pv 6)) (pa_cons (pe_fn T.d_l_times (fn_l_times T) (hr.mono (by decide)) T.g_l_times pc (pa_cons (pv 3) (pa_cons (pv 4) pa_nil))) pa_nil)))))))) (pss_one (ps_ret (pe_bl))) (pss_nil))
      (pss_cons (ps_if (PW.pt (pw_or (pt_not (pt_val (pe_fn T.d_l_same (fn_l_same T 2) (hr.mono (by decide)) T.g_l_same pc (pa_cons (pe_methR (pv 5) T.c_Ratio T.t_Ratio_less (fn_Ratio_less T) (hr.mono (by decide)) pc (pa_cons (pv 6) pa_nil)) (pa_cons (pe_fn T.d_l_below (fn_l_below T) (hr.mono (by decide)) T.g_l_below pc (pa_cons (pv 3) (pa_cons (pv 4) pa_nil))) pa_nil))))) (pw_or1 (pt_not (pt_val (pe_fn T.d_l_same (fn_l_same T 2) (hr.mono (by decide)) T.g_l_same pc (pa_cons (pe_cmpR (op_ownC (op := .Eq) (fun _ _ => rfl) T.nf_Ratio T.t_Ratio_eq.at_ T.t_Ratio_eq.fn (fn_Ratio_eq T) (hr.mono (by decide)) pc) (pv 5) (pv 6) (nomark _)) (pa_cons (pe_cmpR (op_eqD hr.units) (pe_fn T.d_l_less (fn_l_less T) (hr.mono (by decide)) T.g_l_less pc (pa_cons (pe_ix ix_tup (pv 4) (pe_int) (fun _ _ => rfl)) (pa_cons (pe_ix ix_tup (pv 4) (pe_int) (fun _ _ => rfl)) pa_nil))) (pv 7) (nomark _)) pa_nil)))))))) (pss_one (ps_ret (pe_bl))) (pss_nil))
      (pss_cons (ps_set (i := 9) nd rfl (by first | exact Or.inl rfl | exact Or.inr rfl) (pe_op op_sub (pe_int) (pe_op op_mulW (pe_int) (pe_callTy call_int1 (by rfl) T.f_int (by decide +kernel) (pa_cons (pe_cmpR op_lt (pe_ix ix_tup (pv 4) (pe_int) (fun _ _ => rfl)) (pe_int) (nomark _)) pa_nil)))))
      (Evl.pss_cut (ps_if (pt_cmpR op_eq (pe_ix ix_tup (pv 4) (pe_int) (fun _ _ => rfl)) (pe_int) (nomark _)) (pss_one (ps_if (pt_not (pt_val (pe_fn T.d_l_refused (fn_l_refused T) (hr.mono (by decide)) T.g_l_refused pc (pa_cons (pv 3) (pa_cons (pv 4) pa_nil))))) (pss_one (ps_ret (pe_bl))) (pss_nil))) (pss_one (ps_if (pt_not (pt_val (pe_fn T.d_l_is (fn_l_is T) (hr.mono (by decide)) T.g_l_is pc (pa_cons (pe_methR (pv 5) T.c_Ratio T.t_Ratio_over (fn_Ratio_over T) (hr.mono (by decide)) pc (pa_cons (pv 6) pa_nil)) (pa_cons (pe_fn T.d_l_less (fn_l_less T) (hr.mono (by decide)) T.g_l_less pc (pa_cons (pe_op op_mulW (pe_op op_mulW (pe_ix ix_tup (pv 3) (pe_int) (fun _ _ => rfl)) (pe_ix ix_tup (pv 4) (pe_int) (fun _ _ => rfl))) (pv 9)) (pa_cons (pe_op op_mulW (pe_op op_mulW (pe_ix ix_tup (pv 3) (pe_int) (fun _ _ => rfl)) (pe_ix ix_tup (pv 4) (pe_int) (fun _ _ => rfl))) (pv 9)) pa_nil))) pa_nil))))) (pss_one (ps_ret (pe_bl))) (pss_nil))))
      (pss_one (ps_if (PW.pt (pw_or (pt_not (pt_val (pe_fn T.d_l_is (fn_l_is T) (hr.mono (by decide)) T.g_l_is pc (pa_cons (pv 5) (pa_cons (pv 7) pa_nil))))) (pw_or (pt_not (pt_val (pe_fn T.d_l_is (fn_l_is T) (hr.mono (by decide)) T.g_l_is pc (pa_cons (pv 6) (pa_cons (pe_fn T.d_l_less (fn_l_less T) (hr.mono (by decide)) T.g_l_less pc (pa_cons (pe_ix ix_tup (pv 4) (pe_int) (fun _ _ => rfl)) (pa_cons (pe_ix ix_tup (pv 4) (pe_int) (fun _ _ => rfl)) pa_nil))) pa_nil))))) (pw_or1 (pt_not (pt_val (pe_fn T.d_l_same (fn_l_same T 2) (hr.mono (by decide)) T.g_l_same pc (pa_cons (pe_methR (pv 5) T.c_Ratio T.t_Ratio_less (fn_Ratio_less T) (hr.mono (by decide)) pc (pa_cons (pv 6) pa_nil)) (pa_cons (pe_fn T.d_l_below (fn_l_below T) (hr.mono (by decide)) T.g_l_below pc (pa_cons (pv 3) (pa_cons (pv 4) pa_nil))) pa_nil))))))))) (pss_one (ps_ret (pe_bl))) (pss_nil))))))))))))))))))
      (pss_cons (ps_for (passes_of rfl) rfl (pi_range1 rfl T.f_range (pa_cons (pe_int) pa_nil)) (pg_name (i := 2) nd rfl (by first | exact Or.inl rfl | exact Or.inr rfl)) (Evl.pss_cut (ps_set (i := 10) nd rfl (by first | exact Or.inl rfl | exact Or.inr rfl) (pe_ix ix_tup (pe_tup (pa_cons (pe_op op_sub (pe_fn T.d_l_draw (fn_l_draw T) (hr.mono (by decide)) T.g_l_draw pc (pa_cons (pv 1) (pa_cons (pe_int) pa_nil))) (pe_int)) (pa_cons (pe_ix ix_tup (pe_fn T.d_l_pair (fn_l_pair T) (hr.mono (by decide)) T.g_l_pair pc (pa_cons (pv 1) pa_nil)) (pe_int) (fun _ _ => rfl)) pa_nil))) (pe_fn T.d_l_draw (fn_l_draw T) (hr.mono (by decide)) T.g_l_draw pc (pa_cons (pv 1) (pa_cons (pe_int) pa_nil))) (fun _ _ => rfl)))
      (Evl.pss_cut (ps_set (i := 11) nd rfl (by first | exact Or.inl rfl | exact Or.inr rfl) (pe_ix ix_tup (pe_tup (pa_cons (pe_fn T.d_l_draw (fn_l_draw T) (hr.mono (by decide)) T.g_l_draw pc (pa_cons (pv 1) (pa_cons (pe_int) pa_nil))) (pa_cons (pe_fn T.d_l_draw (fn_l_draw T) (hr.mono (by decide)) T.g_l_draw pc (pa_cons (pv 1) (pa_cons (pe_int) pa_nil))) (pa_cons (pe_op op_pow (pe_int) (pe_int)) pa_nil)))) (pe_op op_add (pv 2) (pe_callTy call_int1 (by rfl) T.f_int (by decide +kernel) (pa_cons (pe_and (pe_cmpR op_eq (pe_fn T.d_l_draw (fn_l_draw T) (hr.mono (by decide)) T.g_l_draw pc (pa_cons (pv 1) (pa_cons (pe_int) pa_nil))) (pe_int) (nomark _)) (pe_one (pe_cmpR op_eq (pv 2) (pe_int) (nomark _)))) pa_nil))) (fun _ _ => rfl)))
      (pss_one (ps_if (pt_not (pt_val (pe_fn T.d_l_refused (fn_l_refused T) (hr.mono (by decide)) T.g_l_refused pc (pa_cons (pe_tup (pa_cons (pv 10) (pa_cons (pe_op op_sub (pe_int) (pv 11)) pa_nil))) (pa_cons (pe_non) pa_nil))))) (pss_one (ps_ret (pe_bl))) (pss_nil))))))
      (pss_one (ps_ret (pe_fn T.d_l_is (fn_l_is T) (hr.mono (by decide)) T.g_l_is pc (pa_cons (StX.pe_makeR T.m_Ratio (fn_RI1 T) (hr.mono (by decide)) rfl T.g_Ratio pc (pa_cons (pe_int) pa_nil)) (pa_cons (pe_tup (pa_cons (pe_int) (pa_cons (pe_int) pa_nil))) pa_nil))))))), ?_⟩
    refine ⟨_, rfl, a, ns, 0, rfl, hS, hz, fun p H1 P1 s1 np _ hP1 _ => ?_⟩
    refine ⟨4, rfl, by decide, by decide, for_range (lo := 0) (n := 4) (fun i σ H' => (∃ P, PoolAt H' p P) ∧ ∃ v2 v3 v4 v5 v6 v7 v8 v9 v10 v11, σ = [some (.ref a), some (.ref p), v2, v3, v4, v5, v6, v7, v8, v9, v10, v11])
      ⟨⟨_, hP1⟩, none, none, none, none, none, none, none, none, none, none, rfl⟩ ?_ ?_⟩
    · rintro i σ H2 hi ⟨⟨P2, hP2⟩, v2, v3, v4, v5, v6, v7, v8, v9, v10, v11, rfl⟩
      refine ⟨_, rfl, p, P2, rfl, hP2, fun one H3 P3 n1 d1 b3 hP3 hp1 hs1 => ?_⟩
      refine ⟨fun σ H' => ∃ oth n2 d2, Tw p H' one oth n1 d1 n2 d2 ∧ σ = [some (.ref a), some (.ref p), some (.int (0 + (i : Int))), some one, some oth, v5, v6, v7, v8, v9, v10, v11], ?_, ?_⟩
      · refine ⟨_, rfl, p, P3, rfl, hP3, fun vo H4 P4 n2 d2 b4 hP4 hp2 hs2 => ?_⟩
        refine ⟨_, rfl, (by show 2 ≤ sizeLine; decide), fun t nt => ?_⟩
        have hp14 := hp1.but b4 hP3
        have x4 : Ex H4 (upd H4 t (.tup [vo, one])) := Ex.new nt
        have hP5 := hP4.mono x4
        have htp : t ≠ p := (ne_of_none hP4.l nt).symm
        refine ⟨_, rfl, p, 5, _, rfl, hP5, (by decide), (by decide), fun r P6 g0 g1 q1 q2 _ => ?_⟩
        obtain ⟨hP6, b6⟩ := hP5.step q1 q2
        have ht := b6 _ _ htp upd_same
        refine ⟨rfl, .inr ⟨_, rfl, ?_⟩⟩
        by_cases hr0 : r = 0
        · subst hr0
          refine ⟨t, _, _, one, rfl, rfl, SqT.of ht, rfl, ?_⟩
          exact ⟨one, n1, d1, ⟨⟨_, hP6⟩, (hp14.mono x4).but b6 hP5, (hp14.mono x4).but b6 hP5, hs1, hs1⟩, rfl⟩
        · refine ⟨t, _, _, vo, rfl, rfl, SqT.of ht, ?_, ?_⟩
          · have e : decide (V.int r = V.int 0) = false := decide_eq_false (by simpa using hr0)
            rw [e]
            rfl
          · exact ⟨vo, n2, d2, ⟨⟨_, hP6⟩, (hp14.mono x4).but b6 hP5, (hp2.mono x4).but b6 hP5, hs1, hs2⟩, rfl⟩
      · rintro σ H' ⟨oth, n2, d2, hT, rfl⟩
        have hs2 := hT.2.2.2.2
        have hz1 : d1.natAbs < 2 ^ 9000 := Nat.lt_of_lt_of_le hs1.2.2 (Nat.pow_le_pow_right (by decide) (by decide))
        have hz2 : d2.natAbs < 2 ^ 9000 := Nat.lt_of_lt_of_le hs2.2.2 (Nat.pow_le_pow_right (by decide) (by decide))
        have S1 : Sm 900 n1 d1 := hs1.mono (by decide)
        have S2 : Sm 900 n2 d2 := hs2.mono (by decide)
        obtain ⟨q1, eq1⟩ : ∃ q1, q1 = mkRat n1 d1.toNat := ⟨_, rfl⟩
        obtain ⟨q2, eq2⟩ : ∃ q2, q2 = mkRat n2 d2.toNat := ⟨_, rfl⟩
        have Z1 : Sz 300 q1 := by rw [eq1]; exact sz_mk hs1
        have Z2 : Sz 300 q2 := by rw [eq2]; exact sz_mk hs2
        refine s_asgP (evp_make (ev_fst (evp_var rfl mono_pair hT.2.1)) (ev_snd (evp_var rfl mono_pair hT.2.1)) hs1.1 hz1) fun va H5 e5 ra => ?_
        rw [← eq1] at ra
        refine ⟨fun σ H' => ∃ va, Tw p H' one oth n1 d1 n2 d2 ∧ RatAt K H' va q1 ∧ σ = [some (.ref a), some (.ref p), some (.int (0 + (i : Int))), some one, some oth, some va, v6, v7, v8, v9, v10, v11], ?_, ?_⟩
        · have hT5 := hT.mono e5
          refine s_if (et_test (ev_op (ev_var rfl) ev_c (rv_eq rfl))) (fun _ H6 e6 => ?_) (fun _ H6 e6 => ⟨va, hT5.mono e6, ra.mono e6, rfl⟩)
          have hT6 := hT5.mono e6
          refine s_asgP (evp_makeN (ev_fst (evp_var rfl mono_pair hT6.2.1)) (ev_snd (evp_var rfl mono_pair hT6.2.1)) hs1.1 hz1) fun va2 H7 e7 ra2 => ⟨va2, hT6.mono e7, by rw [eq1]; exact ra2, rfl⟩
        rintro σ H6 ⟨vb, hT6, ra6, rfl⟩
        refine ⟨fun σ H' => ∃ va, Tw p H' one oth n1 d1 n2 d2 ∧ RatAt K H' va q1 ∧ σ = [some (.ref a), some (.ref p), some (.int (0 + (i : Int))), some one, some oth, some va, v6, v7, v8, v9, v10, v11], ?_, ?_⟩
        · refine s_if (et_test (ev_op (ev_var rfl) ev_c (rv_eq rfl))) (fun _ H7 e7 => ?_) (fun _ H7 e7 => ⟨vb, hT6.mono e7, ra6.mono e7, rfl⟩)
          have hT7 := hT6.mono e7
          refine s_asgP (evp_makeK (ev_fst (evp_var rfl mono_pair hT7.2.1)) (ev_snd (evp_var rfl mono_pair hT7.2.1)) hs1.1 hz1) fun va2 H8 e8 ra2 => ⟨va2, hT7.mono e8, by rw [eq1]; exact ra2, rfl⟩
        rintro σ H7 ⟨vc, hT7, ra7, rfl⟩
        refine s_asgP (evp_make (ev_fst (evp_var rfl mono_pair hT7.2.2.1)) (ev_snd (evp_var rfl mono_pair hT7.2.2.1)) hs2.1 hz2) fun vd H8 e8 rb8 => ?_
        rw [← eq2] at rb8
        have hT8 := hT7.mono e8
        have ra8 := ra7.mono e8
        refine s_asgP (evp_low (ev_fst (evp_var rfl mono_pair hT8.2.1)) (ev_snd (evp_var rfl mono_pair hT8.2.1)) hs1.1 (Nat.lt_of_lt_of_le hs1.2.2 (Nat.pow_le_pow_right (by decide) (by decide)))) fun due H9 e9 rd9 => ?_
        rw [← eq1] at rd9
        have l1 : q1.num.natAbs < 2 ^ 1900 := Nat.lt_of_lt_of_le Z1.1 (Nat.pow_le_pow_right (by decide) (by decide))
        have l2 : ((q1.den : Int)).natAbs < 2 ^ 1900 := by rw [Int.natAbs_natCast]; exact Nat.lt_of_lt_of_le Z1.2 (Nat.pow_le_pow_right (by decide) (by decide))
        have hT9 := hT8.mono e9
        have ra9 := ra8.mono e9
        have rb9 := rb8.mono e9
        refine s_asg (ev_strI (ev_fst (evp_var rfl mono_pair rd9)) l1) fun H10 e10 => ?_
        refine ⟨fun σ H' => Tw p H' one oth n1 d1 n2 d2 ∧ RatAt K H' vc q1 ∧ RatAt K H' vd q2 ∧ PairAt H' due q1.num q1.den ∧ σ = [some (.ref a), some (.ref p), some (.int (0 + (i : Int))), some one, some oth, some vc, some vd, some due, some (.str (ratStr q1)), v9, v10, v11], ?_, ?_⟩
        · have rd10 := rd9.mono e10
          have z1 := int_text_len_1921 (log_lt (Nat.lt_of_lt_of_le l1 (Nat.pow_le_pow_right (by decide) (by decide) : 2 ^ 1900 ≤ 2 ^ 1920)) (by decide))
          have z2 := int_text_len_1921 (log_lt (Nat.lt_of_lt_of_le l2 (Nat.pow_le_pow_right (by decide) (by decide) : 2 ^ 1900 ≤ 2 ^ 1920)) (by decide))
          have sl : (Str.ofString "/").length = 1 := by decide +kernel
          have dp := q1.den_pos
          refine s_if (et_test (ev_op (ev_snd (evp_var rfl mono_pair rd10)) ev_c rv_I0)) (fun hc H11 e11 => ?_) (fun hc H11 e11 => ?_)
          · have hd : ¬ q1.den = 1 := by
              have hc' : (1 : Int) < (q1.den : Int) := of_decide_eq_true hc
              omega
            have es : ratStr q1 = Str.ofString (toString q1.num) ++ Str.ofString "/" ++ Str.ofString (toString (q1.den : Int)) := by unfold ratStr; rw [if_neg hd]
            refine s_asg (ev_cat (ev_cat (ev_var rfl) ev_c ?_) (ev_strI (ev_snd (evp_var rfl mono_pair (rd10.mono e11))) l2) ?_) fun H12 e12 => ⟨hT9.mono ((e10.trans e11).trans e12), ra9.mono ((e10.trans e11).trans e12), rb9.mono ((e10.trans e11).trans e12), rd10.mono (e11.trans e12), by rw [es]; rfl⟩
            · omega
            · rw [PySem.strLen_append]; omega
          · have hd : q1.den = 1 := by
              have hc' : ¬ (1 : Int) < (q1.den : Int) := of_decide_eq_false hc
              omega
            have es : ratStr q1 = Str.ofString (toString q1.num) := by unfold ratStr; rw [if_pos hd]
            exact ⟨hT9.mono (e10.trans e11), ra9.mono (e10.trans e11), rb9.mono (e10.trans e11), rd10.mono e11, by rw [es]; rfl⟩
        rintro σ H ⟨hT, ra, rb, rd, rfl⟩
        have Z1' := Z1.mono (by decide : 300 ≤ 4000)
        have Z2' := Z2.mono (by decide : 300 ≤ 4000)
        have vone : ∀ u H', Ex H H' → EvP (tVar 3) [some (.ref a), some (.ref p), some (.int (0 + (i : Int))), some one, some oth, some vc, some vd, some due, some (.str (ratStr q1)), u, v10, v11] H' (fun v H => PairAt H v n1 d1) := fun u H' e => evp_var rfl mono_pair (hT.2.1.mono e)
        have voth : ∀ u H', Ex H H' → EvP (tVar 4) [some (.ref a), some (.ref p), some (.int (0 + (i : Int))), some one, some oth, some vc, some vd, some due, some (.str (ratStr q1)), u, v10, v11] H' (fun v H => PairAt H v n2 d2) := fun u H' e => evp_var rfl mono_pair (hT.2.2.1.mono e)
        have vra : ∀ u H', Ex H H' → EvP (tVar 5) [some (.ref a), some (.ref p), some (.int (0 + (i : Int))), some one, some oth, some vc, some vd, some due, some (.str (ratStr q1)), u, v10, v11] H' (fun v H => RatAt K H v q1) := fun u H' e => evp_var rfl mono_rat (ra.mono e)
        have vrb : ∀ u H', Ex H H' → EvP (tVar 6) [some (.ref a), some (.ref p), some (.int (0 + (i : Int))), some one, some oth, some vc, some vd, some due, some (.str (ratStr q1)), u, v10, v11] H' (fun v H => RatAt K H v q2) := fun u H' e => evp_var rfl mono_rat (rb.mono e)
        have vdu : ∀ u H', Ex H H' → EvP (tVar 7) [some (.ref a), some (.ref p), some (.int (0 + (i : Int))), some one, some oth, some vc, some vd, some due, some (.str (ratStr q1)), u, v10, v11] H' (fun v H => PairAt H v q1.num q1.den) := fun u H' e => evp_var rfl mono_pair (rd.mono e)
        have pp : ∀ u (f : Rat → Rat → Rat) H' (E : XK), Ex H H' → EvP (fun σ H Q => tCons (tVar 3) (tCons (tVar 4) tNil) σ H fun vs H1 => spPP K f vs H1 Q E) [some (.ref a), some (.ref p), some (.int (0 + (i : Int))), some one, some oth, some vc, some vd, some due, some (.str (ratStr q1)), u, v10, v11] H' fun v H => PairAt H v (f q1 q2).num (f q1 q2).den := fun u f H' E e => by
          rw [eq1, eq2]; exact evp_pp (by rw [← eq1]; exact vone u H' e) (by rw [← eq1]; exact voth u H' e) S1 S2
        have lo2 : ∀ u H' (E : XK), Ex H H' → EvP (fun σ H Q => tCons (tOp (rIxT K) (tVar 4) (tC (.int 0))) (tCons (tOp (rIxT K) (tVar 4) (tC (.int 1))) tNil) σ H fun vs H1 => spLow K vs H1 Q E) [some (.ref a), some (.ref p), some (.int (0 + (i : Int))), some one, some oth, some vc, some vd, some due, some (.str (ratStr q1)), u, v10, v11] H' fun v H => PairAt H v q2.num q2.den := fun u H' E e => by
          rw [eq2]; exact evp_low (ev_fst (voth u H' e)) (ev_snd (voth u H' e)) hs2.1 (Nat.lt_of_lt_of_le hs2.2.2 (Nat.pow_le_pow_right (by decide) (by decide)))
        have be : ∀ u H' (E : XK), Ex H H' → Ev (fun σ H Q => tCons (tVar 3) (tCons (tVar 4) tNil) σ H fun vs H1 => spBelow vs H1 Q E) [some (.ref a), some (.ref p), some (.int (0 + (i : Int))), some one, some oth, some vc, some vd, some due, some (.str (ratStr q1)), u, v10, v11] H' (.bl (decide (q1 < q2))) := fun u H' E e => by
          have z := ev_below (E := E) (vone u H' e) (voth u H' e) S1 S2
          rw [← eq1, ← eq2] at z
          exact z
        have eqq : decide (q2.num = q1.num ∧ (q2.den : Int) = q1.den) = decide (q1 = q2) := by
          have z : (q2.num = q1.num ∧ (q2.den : Int) = q1.den) ↔ q1 = q2 := ⟨fun h => Rat.ext h.1.symm (Int.ofNat.inj h.2.symm), fun h => by subst h; exact ⟨rfl, rfl⟩⟩
          simp only [z]
        -- the three rows of checks
        refine s_if (et_or (et_not (et_B (ev_isR (vra _ _ (Ex.refl _)) (vdu _ _ (Ex.refl _))))) fun _ => et_or (et_not (et_B (ev_sameL (ev_strR (n := 0) (vra _ _ (Ex.refl _)) (Z1.mono (by decide))) (ev_var rfl) (fun _ => .str _) trivial))) fun _ =>
          et_not (et_B (ev_isR (evp_rat (vra _ _ (Ex.refl _)) (vrb _ _ (Ex.refl _)) Z1' Z2') (pp _ _ _ _ (Ex.refl _))))) (fun hc => absurd hc (by decide)) (fun _ H1 e1 => ?_)
        refine s_if (et_or (et_not (et_B (ev_isR (evp_rat (vra _ _ e1) (vrb _ _ e1) Z1' Z2') (pp _ _ _ _ e1)))) fun _ => et_not (et_B (ev_isR (evp_rat (vra _ _ e1) (vrb _ _ e1) Z1' Z2') (pp _ _ _ _ e1)))) (fun hc => absurd hc (by decide)) (fun _ H2 e2 => ?_)
        have e12 := e1.trans e2
        refine s_if (et_or (et_not (et_B (ev_sameL (ev_less (vra _ _ e12) (vrb _ _ e12) Z1' Z2') (be _ _ _ e12) (fun _ => .bl _) trivial))) fun _ => et_not (et_B (ev_sameL (ev_eqR (vra _ _ e12) (vrb _ _ e12)) (ev_is (ev_pairEq (lo2 _ _ _ e12) (vdu _ _ e12)) (by rw [eqq])) (fun _ => .bl _) trivial))) (fun hc => absurd hc (by decide)) (fun _ H3 e3 => ?_)
        have e13 := e12.trans e3
        obtain ⟨sg, hsg⟩ : ∃ sg : Int, sg = 1 - 2 * (if decide (n2 < 0) = true then 1 else 0) := ⟨_, rfl⟩
        refine s_asg (v := .int sg) (ev_is (ev_op ev_c (ev_op ev_c (ev_int1 (ev_op (ev_fst (voth _ _ e13)) ev_c rv_I0)) (rv_I ?_)) rv_I0) (by rw [hsg])) fun H4 e4 => ?_
        · refine wide_mul (a := 3) (b := 3) (by decide) ?_ (by decide) (by decide) (by decide)
          split <;> decide
        have e14 := e13.trans e4
        refine ⟨fun σ H' => Ex H H' ∧ σ = [some (.ref a), some (.ref p), some (.int (0 + (i : Int))), some one, some oth, some vc, some vd, some due, some (.str (ratStr q1)), some (.int sg), v10, v11], ?_, ?_⟩
        · refine s_if (et_test (ev_op (ev_fst (voth _ _ e14)) ev_c (rv_eq rfl))) (fun hc H5 e5 => ?_) (fun hc H5 e5 => ?_)
          · have hn : n2 = 0 := by simpa using hc
            refine s_if (et_not (et_B (EvP.ev (v := .bl true) (evp_fn2 (vone _ _ (e14.trans e5)) mono_pair (voth _ _ (e14.trans e5)) fun x y H' _ rx ry Q E k => ⟨x, y, n1, d1, rfl, rx, .inr ⟨hs1.1, S1, d2, by rw [hn] at ry; exact ry, by rw [hn] at S2; exact S2⟩, fun H2 e2 => k _ H2 e2 rfl⟩)))) (fun hc => absurd hc (by decide)) (fun _ H6 e6 => ⟨(e14.trans e5).trans e6, rfl⟩)
          · have hn : n2 ≠ 0 := by
              intro z; subst z; exact absurd hc (by decide)
            have e15 := e14.trans e5
            have hq : q2 ≠ 0 := by
              intro z
              rw [eq2] at z
              exact hn ((Rat.mkRat_eq_zero (by have := hs2.1; omega)).mp z)
            have hss : (0 < n2 ∧ sg = 1) ∨ (n2 < 0 ∧ sg = -1) := by
              by_cases h : n2 < 0
              · right; refine ⟨h, ?_⟩; rw [hsg, decide_eq_true h]; rfl
              · left; refine ⟨by omega, ?_⟩; rw [hsg, decide_eq_false h]; rfl
            have hdv := div_mk (n1 := n1) hs1.1 hs2.1 hss
            rw [← eq1, ← eq2] at hdv
            have b1 : (n1 * d2).natAbs < 2 ^ 600 := wide_lt hs1.2.1 hs2.2.2
            have b2 : (d1 * n2).natAbs < 2 ^ 600 := wide_lt hs1.2.2 hs2.2.1
            have b3 : sg.natAbs < 2 ^ 2 := by rcases hss with ⟨_, h⟩ | ⟨_, h⟩ <;> rw [h] <;> decide
            have pos : 0 < d1 * n2 * sg := by
              rcases hss with ⟨h1, h⟩ | ⟨h1, h⟩
              · rw [h, Int.mul_one]; exact Int.mul_pos hs1.1 h1
              · rw [h, Int.mul_neg_one, ← Int.mul_neg]; exact Int.mul_pos hs1.1 (by omega)
            refine s_if (et_not (et_B (ev_isR (evp_over (vra _ _ e15) (vrb _ _ e15) Z1' Z2' hq) (by
              rw [hdv]
              exact evp_low (ev_op (ev_op (ev_fst (vone _ _ e15)) (ev_snd (voth _ _ e15)) (rv_I (cm9 S1.2.1 S2.2.2))) (ev_var rfl) (rv_I (wide_mul b1 b3 (by decide) (by decide) (by decide))))
                (ev_op (ev_op (ev_snd (vone _ _ e15)) (ev_fst (voth _ _ e15)) (rv_I (cm9 S1.2.2 S2.2.1))) (ev_var rfl) (rv_I (wide_mul b2 b3 (by decide) (by decide) (by decide)))) pos (Nat.lt_of_lt_of_le (wide_lt b2 b3) (Nat.pow_le_pow_right (by decide) (by decide))))))) (fun hc => absurd hc (by decide)) (fun _ H6 e6 => ⟨e15.trans e6, rfl⟩)
        rintro σ H5 ⟨e5, rfl⟩
        refine s_if (et_or (et_not (et_B (ev_isR (vra _ _ e5) (vdu _ _ e5)))) fun _ => et_or (et_not (et_B (ev_isR (vrb _ _ e5) (lo2 _ _ _ e5)))) fun _ => et_not (et_B (ev_sameL (ev_less (vra _ _ e5) (vrb _ _ e5) Z1' Z2') (be _ _ _ e5) (fun _ => .bl _) trivial))) (fun hc => absurd hc (by decide)) (fun _ H6 e6 => ?_)
        exact ⟨(hT.mono (e5.trans e6)).1, _, _, _, _, _, _, _, _, _, _, rfl⟩
    · rintro σ H2 ⟨⟨P2, hP2⟩, v2, v3, v4, v5, v6, v7, v8, v9, v10, v11, rfl⟩
      refine ⟨2, rfl, by decide, by decide, for_range (lo := 0) (n := 2) (fun i σ H' => (∃ P, PoolAt H' p P) ∧ ∃ v2 v3 v4 v5 v6 v7 v8 v9 v10 v11, σ = [some (.ref a), some (.ref p), v2, v3, v4, v5, v6, v7, v8, v9, v10, v11])
        ⟨⟨_, hP2⟩, _, _, _, _, _, _, _, _, _, _, rfl⟩ ?_ ?_⟩
      · rintro i σ H2 hi ⟨⟨P2, hP2⟩, v2, v3, v4, v5, v6, v7, v8, v9, v10, v11, rfl⟩
        refine ⟨fun σ H' => (∃ P, PoolAt H' p P) ∧ ∃ num : Int, σ = [some (.ref a), some (.ref p), some (.int (0 + (i : Int))), v3, v4, v5, v6, v7, v8, v9, some (.int num), v11], ?_, ?_⟩
        · refine ⟨_, rfl, p, 9, _, rfl, hP2, (by decide), (by decide), fun r1 P3 a0 a1 q1 q2 _ => ?_⟩
          obtain ⟨hP3, b3⟩ := hP2.step q1 q2
          clear q1 q2
          refine ⟨_, _, rfl, rfl, _, rfl, p, P3, rfl, hP3, fun vp H4 P4 n d b4 hP4 hpr hs => ?_⟩
          obtain ⟨ap, eap, hap⟩ := hpr
          refine ⟨ap, _, _, _, eap, rfl, SqT.of hap, rfl, (by show 2 ≤ sizeLine; decide), fun t nt => ?_⟩
          have hP5 := hP4.mono (Ex.new (o := .tup [.int (r1 - 4), .int n]) nt)
          have htp : t ≠ p := (ne_of_none hP4.l nt).symm
          refine ⟨_, rfl, p, 2, _, rfl, hP5, (by decide), (by decide), fun r2 P6 a2 a3 q1 q2 _ => ?_⟩
          obtain ⟨hP6, b6⟩ := hP5.step q1 q2
          clear q1 q2
          obtain ⟨v, e1, e2⟩ := at2 (a := .int (r1 - 4)) (b := .int n) a2 a3
          refine ⟨t, _, _, v, rfl, rfl, SqT.of (b6 _ _ htp upd_same), e1, ?_⟩
          rcases e2 with rfl | rfl
          · exact ⟨⟨_, hP6⟩, _, rfl⟩
          · exact ⟨⟨_, hP6⟩, _, rfl⟩
        rintro σ H3 ⟨⟨P3, hP3⟩, num, rfl⟩
        refine ⟨fun σ H' => (∃ P, PoolAt H' p P) ∧ ∃ den : Int, 0 ≤ den ∧ σ = [some (.ref a), some (.ref p), some (.int (0 + (i : Int))), v3, v4, v5, v6, v7, v8, v9, some (.int num), some (.int den)], ?_, ?_⟩
        · refine ⟨_, rfl, p, 3, _, rfl, hP3, (by decide), (by decide), fun r1 P4 a0 a1 q1 q2 _ => ?_⟩
          obtain ⟨hP4, b4⟩ := hP3.step q1 q2
          clear q1 q2
          refine ⟨_, rfl, p, 1001, _, rfl, hP4, (by decide), (by decide), fun r2 P5 a2 a3 q1 q2 _ => ?_⟩
          obtain ⟨hP5, b5⟩ := hP4.step q1 q2
          clear q1 q2
          refine ⟨_, _, rfl, rfl, ⟨by decide, by decide, by decide⟩, (by show 3 ≤ sizeLine; decide), fun t nt => ?_⟩
          have hP6 := hP5.mono (Ex.new (o := .tup [.int r1, .int r2, .int (10 ^ (Int.toNat 20))]) nt)
          have htp : t ≠ p := (ne_of_none hP5.l nt).symm
          have fin : ∀ (z : Int) (H' : Hp) (P' : Pl), 0 ≤ z → z < 3 → H' t = some (.tup [.int r1, .int r2, .int (10 ^ (Int.toNat 20))]) → PoolAt H' p P' →
              ∃ v : V, atI [V.int r1, V.int r2, V.int (10 ^ (Int.toNat 20))] z = some v ∧ ∃ den : Int, v = .int den ∧ 0 ≤ den := by
            intro z H' P' z0 z1 _ _
            obtain ⟨v, e1, e2⟩ := at3 (a := .int r1) (b := .int r2) (c := .int (10 ^ (Int.toNat 20))) z0 z1
            rcases e2 with rfl | rfl | rfl
            · exact ⟨_, e1, _, rfl, a0⟩
            · exact ⟨_, e1, _, rfl, a2⟩
            · exact ⟨_, e1, _, rfl, by decide⟩
          refine ⟨_, rfl, _, rfl, p, 6, _, rfl, hP6, (by decide), (by decide), fun r6 P7 a6 a7 q1 q2 _ => ?_⟩
          obtain ⟨hP7, b7⟩ := hP6.step q1 q2
          clear q1 q2
          have ht := b7 _ _ htp upd_same
          refine ⟨rfl, _, rfl, ite2 (fun c => ?_) fun c => ?_⟩
          · refine ⟨_, rfl, rfl, .inr ⟨_, rfl, _, _, rfl, rfl, ?_⟩⟩
            obtain ⟨v, e1, den, rfl, hd⟩ := fin (0 + (i : Int) + (if decide (V.int (0 + (i : Int)) = V.int 1) = true then 1 else 0)) _ _ (by split <;> omega) (by split <;> omega) ht hP7
            exact ⟨t, _, _, _, rfl, rfl, SqT.of ht, e1, ⟨_, hP7⟩, den, hd, rfl⟩
          · refine .inr ⟨_, rfl, _, _, rfl, rfl, ?_⟩
            obtain ⟨v, e1, den, rfl, hd⟩ := fin (0 + (i : Int) + (if false = true then 1 else 0)) _ _ (by split <;> omega) (by split <;> omega) ht hP7
            exact ⟨t, _, _, _, rfl, rfl, SqT.of ht, e1, ⟨_, hP7⟩, den, hd, rfl⟩
        rintro σ H4 ⟨⟨P4, hP4⟩, den, hd, rfl⟩
        refine s_if (et_not (et_B (EvP.ev (v := .bl true) (evp_fn2 (evp_pairMk (ev_var rfl) (ev_op ev_c (ev_var rfl) rv_I0)) mono_pair (ev_p ev_c) fun x y H' _ rx ry Q E k => ⟨x, y, _, _, rfl, rx, .inl ⟨ry, by omega⟩, fun H2 e2 => k _ H2 e2 rfl⟩)))) (fun hc => absurd hc (by decide)) (fun _ H6 e6 => ?_)
        exact ⟨⟨_, hP4.mono e6⟩, _, _, _, _, _, _, _, _, _, _, rfl⟩
      · rintro σ H2 ⟨⟨P2, hP2⟩, v2, v3, v4, v5, v6, v7, v8, v9, v10, v11, rfl⟩
        dsimp only
        refine s_ret (ev_isR (q := mkRat 7 1) (evp_make1 ev_c) (evp_pairMk ev_c ev_c)) fun H' _ => k H'
end
end LL
namespace LL
open PySem PySem.Spec PyProof.Rows L2 He Evl
/-- the end of a law whose defs may let errors out -/
theorem walk_ofX {l : PySem.W.OpenLaw} {n k : Nat} {q : Program} {loose : List Str} {XP : (Str → Option Value) → Heap → Prop} {YP : World → Heap → Prop} {d : DefRec} {CX : World → CXT} {x : Str}
    (hn : l.most = some n) (hn2 : n ≤ sizeLine) (hdf : d.params.defaults = []) (hr : Room k callerA)
    (F : ∀ (w : World) (mg : Str → Option Value) (fa : Addr) (h : Heap), YP w h → h.Ns mainGlobals mg → mg d.name = some (.ref fa) →
      ∃ (K : PySem.W.Frag) (fd : FuncData) (sp : Sp), K.In h ∧ (∀ (s : Shared) (u : Value), BindsTo s fd ⟨[u], []⟩ [(x, u)]) ∧
        (∀ (H : Hp) (a : Addr) (ns : List Int), ns.length ≤ n → Only H → SqL K H a (ns.map V.int) → sp [.ref a] H (fun v _ => v = .bl true) fun _ _ _ => False) ∧
        ∀ base : Heap, K.In base → base.Ns mainGlobals mg → FnOk l.prog w K mg base (CX w) k fa fd [x] sp)
    (hCX : ∀ (w : World) (H : Hp) (s : Shared) (e : Value) (s' : Shared), CX w [] H s (fun _ _ _ => False) e s' → False) :
    PySem.W.WalkO q loose XP YP l.row.toRowW d [] (fun f vs => PySem.call f vs) := by
  refine Att.attach_call hn hdf fun w s₀ s₁ mg mb fa o pm cd doc a vs ns G Y ho hd hcd hmg hobj hints hlen hg => ?_
  obtain ⟨K, fd, sp, KX, hb, hsp, hF⟩ := F w mg fa _ Y G.T.g hmg
  exact law_call KX G.T.g G.T.b G.T.builtins G.T.nolimit hg hobj hints (Nat.le_trans hlen hn2) hr hF hb (fun H hO hS => hsp H a ns hlen hO hS) fun H e s' => hCX w H s₁ e s'
theorem cx_end {P : Program} {w : World} {H : Hp} {s : Shared} {e : Value} {s' : Shared} (h : L2.CX P w [] H s (fun _ _ _ => False) e s') : False := by
  obtain ⟨a, B, H', cls, d, _, _, _, _, _, _, _, q⟩ := h
  exact q
theorem law_facts {P : Program} {w : World} {K : PySem.W.Frag} {h : Heap} {mg : Str → Option Value} {f : Addr} (X : K.In h) (G : h.Ns mainGlobals mg) (hfa : mg ("law" : Str) = some (.ref f)) (T : Txt K mg) :
    ∃ fd : FuncData, (∀ (s : Shared) (v : Value), BindsTo s fd ⟨[v], []⟩ [("_law_script", v)]) ∧ ∀ base : Heap, K.In base → base.Ns mainGlobals mg → FnOk P w K mg base (L2.CX P w) 5 f fd ["_law_script"] (spLaw K) := by
  obtain ⟨fd, F⟩ := T.d_law
  have e := hfa.symm.trans T.g_law
  cases e
  have b := FunD.bindsA (ps := ["_law_script"]) F fun _ _ _ _ _ _ us hl => match us, hl with | [_], _ => rfl
  exact ⟨fd, fun s v => b s [v] rfl, fun base _ _ => ok_law T F⟩
end LL
open PySem PySem.W PySem.Calls PyProof.Rows
set_option maxRecDepth 100000 in
set_option maxHeartbeats 0 in
theorem PySem.Challenge.cw_lostleast_k00_fractions_holds : PySem.Challenge.rw_lostleast_k00_fractions.Holds := by
  w_on; o_law
  refine HandSHeadRun.head_any (r := LL.R) (q := view LL.R.prog [LL.lawAt]) (H := LL.hk) (ob := LL.ob) (M := 60000) (loose := LL.names) (d := HandSHeadRun.topDef LL.R.prog LL.lawAt) (kwd := []) LL.ob_eq
    (by kernel_rfl) (fun s => by kernel_rfl) LL.run (by kernel_rfl) (by kernel_rfl) (by kernel_rfl) (by rfl) (by first | assumption | decide +kernel) (by decide +kernel) ⟨rfl, rfl, rfl, rfl, rfl, by decide +kernel⟩ ?hw ?hc
  case hw => w_witness2
  case hc =>
    refine LL.walk_ofX (l := PySem.Challenge.rw_lostleast_k00_fractions) (n := 63) (k := 5) (x := "_law_script") (CX := fun w => L2.CX (PySem.Challenge.rw_lostleast_k00_fractions).prog w) rfl (by decide) (by kernel_rfl) ⟨rfl, by decide, by decide⟩ ?F (fun _ _ _ _ _ z => LL.cx_end z)
    intro w mg fa h Y G hmg0
    obtain ⟨K, KX, c⟩ := Y
    have hmg : mg ("law" : PySem.Str) = some (.ref fa) := by
      have e : (HandSHeadRun.topDef LL.R.prog LL.lawAt).name = ("law" : PySem.Str) := by kernel_rfl
      rw [← e]
      exact hmg0
    obtain ⟨fd, hb, hF⟩ := LL.law_facts (P := (PySem.Challenge.rw_lostleast_k00_fractions).prog) (w := w) KX G hmg (LL.txt_of KX G c)
    exact ⟨K, fd, LL.spLaw K, KX, hb, fun H a ns hl _ hS => ⟨a, ns, rfl, hS, hl, fun _ => rfl⟩, hF⟩
#print axioms PySem.Challenge.cw_lostleast_k00_fractions_holds
