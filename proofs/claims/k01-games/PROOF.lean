import PyProof.Rows.All
import Wide.All
import OpenK.AllK
import Wide.FinOn
import KE.KStateDown
import Lean
import HandS.ForMost
import HandS.Exc
import HandS.ExcOwn
import HandS.ExcSuper
import HandS.ExcIs
import HandS.TryOnly
import HandS.WordsExc
import HandS.Defaults
import HandS.MakeKw
import HandS.MakeKwOnly
import HandS.More
import HandS.Star
import HandS.IsInst
import HandS.FStr
import HandS.Wide
import HandS.OwnEq
import HandS.SlotsOwn
import HandS.Evl
import HandS.Head0
import HandS.Head1
import HandS.Head2
import HandS.HeadEnd
import HandS.HeadHook1
import HandS.HeadHook2
import HandS.HeadHook3
import HandS.HeadHook4
import HandS.RaiseMore
import HandS.Walk
import HandS.Codes
import HandS.TupAny
import PySem.Challenge.RW_lostleast_k01_games_read_and_written
set_option Elab.async false
set_option linter.all false
set_option maxRecDepth 100000
set_option maxHeartbeats 0
set_option exponentiation.threshold 20000
namespace LL
open PySem PySem.Spec PyProof.Rows L2 He
/-! ### the row's places (printed by gen.py) -/
def top (i : Nat) : Stmt := PySem.Challenge.pw_lostleast_k01_games_read_and_written.main.body.getD i (.Pass ⟨0, 0, 0, 0⟩)
abbrev s_is_name : Stmt := top 14
abbrev n_is_name : List Str := ["word", "char"]
theorem sc_is_name : FnScope n_is_name ["word"] (defScope s_is_name) := ⟨rfl, rfl, rfl, by decide +kernel, rfl, by decide +kernel, by decide +kernel⟩
abbrev s_number_of : Stmt := top 15
abbrev n_number_of : List Str := ["word", "char"]
theorem sc_number_of : FnScope n_number_of ["word"] (defScope s_number_of) := ⟨rfl, rfl, rfl, by decide +kernel, rfl, by decide +kernel, by decide +kernel⟩
abbrev s_Game_init : Stmt := inClass (top 16) 0
abbrev n_Game_init : List Str := ["self", "variables", "block"]
theorem sc_Game_init : FnScope n_Game_init ["self", "variables", "block"] (defScope s_Game_init) := ⟨rfl, rfl, rfl, by decide +kernel, rfl, by decide +kernel, by decide +kernel⟩
abbrev s_Game_eq : Stmt := inClass (top 16) 1
abbrev n_Game_eq : List Str := ["self", "other"]
theorem sc_Game_eq : FnScope n_Game_eq ["self", "other"] (defScope s_Game_eq) := ⟨rfl, rfl, rfl, by decide +kernel, rfl, by decide +kernel, by decide +kernel⟩
abbrev s_Reader_init : Stmt := inClass (top 17) 0
abbrev n_Reader_init : List Str := ["self", "text"]
theorem sc_Reader_init : FnScope n_Reader_init ["self", "text"] (defScope s_Reader_init) := ⟨rfl, rfl, rfl, by decide +kernel, rfl, by decide +kernel, by decide +kernel⟩
abbrev s_Reader_word : Stmt := inClass (top 17) 1
abbrev n_Reader_word : List Str := ["self"]
theorem sc_Reader_word : FnScope n_Reader_word ["self"] (defScope s_Reader_word) := ⟨rfl, rfl, rfl, by decide +kernel, rfl, by decide +kernel, by decide +kernel⟩
abbrev s_Reader_take : Stmt := inClass (top 17) 2
abbrev n_Reader_take : List Str := ["self", "allowed", "word"]
theorem sc_Reader_take : FnScope n_Reader_take ["self", "allowed"] (defScope s_Reader_take) := ⟨rfl, rfl, rfl, by decide +kernel, rfl, by decide +kernel, by decide +kernel⟩
abbrev s_Reader_take_number : Stmt := inClass (top 17) 3
abbrev n_Reader_take_number : List Str := ["self", "least", "most", "number"]
theorem sc_Reader_take_number : FnScope n_Reader_take_number ["self", "least", "most"] (defScope s_Reader_take_number) := ⟨rfl, rfl, rfl, by decide +kernel, rfl, by decide +kernel, by decide +kernel⟩
abbrev s_Reader_game : Stmt := inClass (top 17) 4
abbrev n_Reader_game : List Str := ["self", "variables", "name", "block"]
theorem sc_Reader_game : FnScope n_Reader_game ["self"] (defScope s_Reader_game) := ⟨rfl, rfl, rfl, by decide +kernel, rfl, by decide +kernel, by decide +kernel⟩
abbrev s_Reader_block : Stmt := inClass (top 17) 5
abbrev n_Reader_block : List Str := ["self", "room", "rows", "statement"]
theorem sc_Reader_block : FnScope n_Reader_block ["self", "room"] (defScope s_Reader_block) := ⟨rfl, rfl, rfl, by decide +kernel, rfl, by decide +kernel, by decide +kernel⟩
abbrev s_Reader_statement : Stmt := inClass (top 17) 6
abbrev n_Reader_statement : List Str := ["self", "room", "word"]
theorem sc_Reader_statement : FnScope n_Reader_statement ["self", "room"] (defScope s_Reader_statement) := ⟨rfl, rfl, rfl, by decide +kernel, rfl, by decide +kernel, by decide +kernel⟩
abbrev s_Reader_branching : Stmt := inClass (top 17) 7
abbrev n_Reader_branching : List Str := ["self", "word", "name", "count"]
theorem sc_Reader_branching : FnScope n_Reader_branching ["self", "word"] (defScope s_Reader_branching) := ⟨rfl, rfl, rfl, by decide +kernel, rfl, by decide +kernel, by decide +kernel⟩
abbrev s_Reader_choice : Stmt := inClass (top 17) 8
abbrev n_Reader_choice : List Str := ["self", "room", "test", "then", "other"]
theorem sc_Reader_choice : FnScope n_Reader_choice ["self", "room"] (defScope s_Reader_choice) := ⟨rfl, rfl, rfl, by decide +kernel, rfl, by decide +kernel, by decide +kernel⟩
abbrev s_Reader_expression : Stmt := inClass (top 17) 9
abbrev n_Reader_expression : List Str := ["self", "room", "word", "left"]
theorem sc_Reader_expression : FnScope n_Reader_expression ["self", "room"] (defScope s_Reader_expression) := ⟨rfl, rfl, rfl, by decide +kernel, rfl, by decide +kernel, by decide +kernel⟩
abbrev s_read_game : Stmt := top 18
abbrev n_read_game : List Str := ["text"]
theorem sc_read_game : FnScope n_read_game ["text"] (defScope s_read_game) := ⟨rfl, rfl, rfl, by decide +kernel, rfl, by decide +kernel, by decide +kernel⟩
abbrev s_expression_words : Stmt := top 19
abbrev n_expression_words : List Str := ["expression"]
theorem sc_expression_words : FnScope n_expression_words ["expression"] (defScope s_expression_words) := ⟨rfl, rfl, rfl, by decide +kernel, rfl, by decide +kernel, by decide +kernel⟩
abbrev s_block_words : Stmt := top 20
abbrev n_block_words : List Str := ["block", "words", "row"]
theorem sc_block_words : FnScope n_block_words ["block"] (defScope s_block_words) := ⟨rfl, rfl, rfl, by decide +kernel, rfl, by decide +kernel, by decide +kernel⟩
abbrev s_game_text : Stmt := top 21
abbrev n_game_text : List Str := ["game", "words", "name", "size"]
theorem sc_game_text : FnScope n_game_text ["game"] (defScope s_game_text) := ⟨rfl, rfl, rfl, by decide +kernel, rfl, by decide +kernel, by decide +kernel⟩
abbrev s_l_pool : Stmt := top 23
abbrev n_l_pool : List Str := ["_law_script", "_law_budget"]
theorem sc_l_pool : FnScope n_l_pool ["_law_script", "_law_budget"] (defScope s_l_pool) := ⟨rfl, rfl, rfl, by decide +kernel, rfl, by decide +kernel, by decide +kernel⟩
abbrev s_l_draw : Stmt := top 24
abbrev n_l_draw : List Str := ["_law_pool_here", "_law_size", "_law_cell", "_law_value_here"]
theorem sc_l_draw : FnScope n_l_draw ["_law_pool_here", "_law_size"] (defScope s_l_draw) := ⟨rfl, rfl, rfl, by decide +kernel, rfl, by decide +kernel, by decide +kernel⟩
abbrev s_l_spend : Stmt := top 25
abbrev n_l_spend : List Str := ["_law_pool_here"]
theorem sc_l_spend : FnScope n_l_spend ["_law_pool_here"] (defScope s_l_spend) := ⟨rfl, rfl, rfl, by decide +kernel, rfl, by decide +kernel, by decide +kernel⟩
abbrev s_l_number : Stmt := top 26
abbrev n_l_number : List Str := ["_law_pool_here"]
theorem sc_l_number : FnScope n_l_number ["_law_pool_here"] (defScope s_l_number) := ⟨rfl, rfl, rfl, by decide +kernel, rfl, by decide +kernel, by decide +kernel⟩
abbrev s_l_same : Stmt := top 27
abbrev n_l_same : List Str := ["_law_actual", "_law_due", "_law_k"]
theorem sc_l_same : FnScope n_l_same ["_law_actual", "_law_due"] (defScope s_l_same) := ⟨rfl, rfl, rfl, by decide +kernel, rfl, by decide +kernel, by decide +kernel⟩
abbrev s_l_value : Stmt := top 28
abbrev n_l_value : List Str := ["_law_pool_here", "_law_names_here", "_law_deep", "_law_kind", "_law_sign", "_law_left"]
theorem sc_l_value : FnScope n_l_value ["_law_pool_here", "_law_names_here", "_law_deep"] (defScope s_l_value) := ⟨rfl, rfl, rfl, by decide +kernel, rfl, by decide +kernel, by decide +kernel⟩
abbrev s_l_statement : Stmt := top 29
abbrev n_l_statement : List Str := ["_law_pool_here", "_law_scope", "_law_room", "_law_kind", "_law_names_here", "_law_word", "_law_row", "_law_test", "_law_then"]
theorem sc_l_statement : FnScope n_l_statement ["_law_pool_here", "_law_scope", "_law_room"] (defScope s_l_statement) := ⟨rfl, rfl, rfl, by decide +kernel, rfl, by decide +kernel, by decide +kernel⟩
abbrev s_l_block : Stmt := top 30
abbrev n_l_block : List Str := ["_law_pool_here", "_law_scope", "_law_room", "_law_most", "_law_block_here", "_law_k"]
theorem sc_l_block : FnScope n_l_block ["_law_pool_here", "_law_scope", "_law_room", "_law_most"] (defScope s_l_block) := ⟨rfl, rfl, rfl, by decide +kernel, rfl, by decide +kernel, by decide +kernel⟩
abbrev s_l_names : Stmt := top 31
abbrev n_l_names : List Str := ["_law_pool_here", "_law_count", "_law_names_here", "_law_k", "_law_name", "_law_turn", "_law_other"]
theorem sc_l_names : FnScope n_l_names ["_law_pool_here", "_law_count"] (defScope s_l_names) := ⟨rfl, rfl, rfl, by decide +kernel, rfl, by decide +kernel, by decide +kernel⟩
abbrev s_l_game : Stmt := top 32
abbrev n_l_game : List Str := ["_law_pool_here", "_law_moves", "_law_most", "_law_names_here", "_law_k", "_law_variables", "_law_row", "_law_scope"]
theorem sc_l_game : FnScope n_l_game ["_law_pool_here", "_law_moves", "_law_most"] (defScope s_l_game) := ⟨rfl, rfl, rfl, by decide +kernel, rfl, by decide +kernel, by decide +kernel⟩
abbrev s_l_value_words : Stmt := top 33
abbrev n_l_value_words : List Str := ["_law_due"]
theorem sc_l_value_words : FnScope n_l_value_words ["_law_due"] (defScope s_l_value_words) := ⟨rfl, rfl, rfl, by decide +kernel, rfl, by decide +kernel, by decide +kernel⟩
abbrev s_l_block_words : Stmt := top 34
abbrev n_l_block_words : List Str := ["_law_block_here", "_law_words_here", "_law_due"]
theorem sc_l_block_words : FnScope n_l_block_words ["_law_block_here"] (defScope s_l_block_words) := ⟨rfl, rfl, rfl, by decide +kernel, rfl, by decide +kernel, by decide +kernel⟩
abbrev s_l_words : Stmt := top 35
abbrev n_l_words : List Str := ["_law_game_here", "_law_words_here", "_law_name", "_law_size"]
theorem sc_l_words : FnScope n_l_words ["_law_game_here"] (defScope s_l_words) := ⟨rfl, rfl, rfl, by decide +kernel, rfl, by decide +kernel, by decide +kernel⟩
abbrev s_law : Stmt := top 36
abbrev n_law : List Str := ["_law_script", "_law_pool_here", "_law_game_here", "_law_text", "_law_actual", "_law_made", "_law_other", "_law_lists", "_law_kept", "_law_more", "_law_variables", "_law_name", "_law_size"]
theorem sc_law : FnScope n_law ["_law_script"] (defScope s_law) := ⟨rfl, rfl, rfl, by decide +kernel, rfl, by decide +kernel, by decide +kernel⟩
def d_is_name : He.DefD := ⟨("is_name", none), "is_name", "is_name", defArgs s_is_name, defBody s_is_name, defScope s_is_name, [], []⟩
def d_number_of : He.DefD := ⟨("number_of", none), "number_of", "number_of", defArgs s_number_of, defBody s_number_of, defScope s_number_of, [], []⟩
def d_Game_init : He.DefD := ⟨("Game", some "__init__"), "__init__", "Game.__init__", defArgs s_Game_init, defBody s_Game_init, defScope s_Game_init, [], []⟩
def d_Game_eq : He.DefD := ⟨("Game", some "__eq__"), "__eq__", "Game.__eq__", defArgs s_Game_eq, defBody s_Game_eq, defScope s_Game_eq, [], []⟩
def d_Reader_init : He.DefD := ⟨("Reader", some "__init__"), "__init__", "Reader.__init__", defArgs s_Reader_init, defBody s_Reader_init, defScope s_Reader_init, [], []⟩
def d_Reader_word : He.DefD := ⟨("Reader", some "word"), "word", "Reader.word", defArgs s_Reader_word, defBody s_Reader_word, defScope s_Reader_word, [], []⟩
def d_Reader_take : He.DefD := ⟨("Reader", some "take"), "take", "Reader.take", defArgs s_Reader_take, defBody s_Reader_take, defScope s_Reader_take, [], []⟩
def d_Reader_take_number : He.DefD := ⟨("Reader", some "take_number"), "take_number", "Reader.take_number", defArgs s_Reader_take_number, defBody s_Reader_take_number, defScope s_Reader_take_number, [], []⟩
def d_Reader_game : He.DefD := ⟨("Reader", some "game"), "game", "Reader.game", defArgs s_Reader_game, defBody s_Reader_game, defScope s_Reader_game, [], []⟩
def d_Reader_block : He.DefD := ⟨("Reader", some "block"), "block", "Reader.block", defArgs s_Reader_block, defBody s_Reader_block, defScope s_Reader_block, [], []⟩
def d_Reader_statement : He.DefD := ⟨("Reader", some "statement"), "statement", "Reader.statement", defArgs s_Reader_statement, defBody s_Reader_statement, defScope s_Reader_statement, [], []⟩
def d_Reader_branching : He.DefD := ⟨("Reader", some "branching"), "branching", "Reader.branching", defArgs s_Reader_branching, defBody s_Reader_branching, defScope s_Reader_branching, [], []⟩
def d_Reader_choice : He.DefD := ⟨("Reader", some "choice"), "choice", "Reader.choice", defArgs s_Reader_choice, defBody s_Reader_choice, defScope s_Reader_choice, [], []⟩
def d_Reader_expression : He.DefD := ⟨("Reader", some "expression"), "expression", "Reader.expression", defArgs s_Reader_expression, defBody s_Reader_expression, defScope s_Reader_expression, [], []⟩
def d_read_game : He.DefD := ⟨("read_game", none), "read_game", "read_game", defArgs s_read_game, defBody s_read_game, defScope s_read_game, [], []⟩
def d_expression_words : He.DefD := ⟨("expression_words", none), "expression_words", "expression_words", defArgs s_expression_words, defBody s_expression_words, defScope s_expression_words, [], []⟩
def d_block_words : He.DefD := ⟨("block_words", none), "block_words", "block_words", defArgs s_block_words, defBody s_block_words, defScope s_block_words, [], []⟩
def d_game_text : He.DefD := ⟨("game_text", none), "game_text", "game_text", defArgs s_game_text, defBody s_game_text, defScope s_game_text, [], []⟩
def d_l_pool : He.DefD := ⟨("_law_pool", none), "_law_pool", "_law_pool", defArgs s_l_pool, defBody s_l_pool, defScope s_l_pool, [], []⟩
def d_l_draw : He.DefD := ⟨("_law_draw", none), "_law_draw", "_law_draw", defArgs s_l_draw, defBody s_l_draw, defScope s_l_draw, [], []⟩
def d_l_spend : He.DefD := ⟨("_law_spend", none), "_law_spend", "_law_spend", defArgs s_l_spend, defBody s_l_spend, defScope s_l_spend, [], []⟩
def d_l_number : He.DefD := ⟨("_law_number", none), "_law_number", "_law_number", defArgs s_l_number, defBody s_l_number, defScope s_l_number, [], []⟩
def d_l_same : He.DefD := ⟨("_law_same", none), "_law_same", "_law_same", defArgs s_l_same, defBody s_l_same, defScope s_l_same, [], []⟩
def d_l_value : He.DefD := ⟨("_law_value", none), "_law_value", "_law_value", defArgs s_l_value, defBody s_l_value, defScope s_l_value, [], []⟩
def d_l_statement : He.DefD := ⟨("_law_statement", none), "_law_statement", "_law_statement", defArgs s_l_statement, defBody s_l_statement, defScope s_l_statement, [], []⟩
def d_l_block : He.DefD := ⟨("_law_block", none), "_law_block", "_law_block", defArgs s_l_block, defBody s_l_block, defScope s_l_block, [], []⟩
def d_l_names : He.DefD := ⟨("_law_names", none), "_law_names", "_law_names", defArgs s_l_names, defBody s_l_names, defScope s_l_names, [], []⟩
def d_l_game : He.DefD := ⟨("_law_game", none), "_law_game", "_law_game", defArgs s_l_game, defBody s_l_game, defScope s_l_game, [], []⟩
def d_l_value_words : He.DefD := ⟨("_law_value_words", none), "_law_value_words", "_law_value_words", defArgs s_l_value_words, defBody s_l_value_words, defScope s_l_value_words, [], []⟩
def d_l_block_words : He.DefD := ⟨("_law_block_words", none), "_law_block_words", "_law_block_words", defArgs s_l_block_words, defBody s_l_block_words, defScope s_l_block_words, [], []⟩
def d_l_words : He.DefD := ⟨("_law_words", none), "_law_words", "_law_words", defArgs s_l_words, defBody s_l_words, defScope s_l_words, [], []⟩
def d_law : He.DefD := ⟨("law", none), "law", "law", defArgs s_law, defBody s_law, defScope s_law, [], []⟩
def excB (K : PySem.W.Frag) (D : Addr) : Bool := eqO (PySem.W.findIn K (.ref D) "__getattribute__") (some (some (.builtin "BaseException.__getattribute__"))) && (eqO (PySem.W.findIn K (.ref D) "__getattr__") (some none) && (decide (PySem.W.subIn K (.ref D) (.type "BaseException") = some true) && (PySem.W.hasDictIn K D && (eqO (PySem.W.findIn K (.ref D) "__class__") (some (some (.builtin "object.__class__"))) && (eqO (PySem.W.specialIn K (.builtin "object.__class__") "__get__") (some (some (.builtin "getset_descriptor.__get__"))) && (decide (PySem.W.takesIn K (.builtin "object.__class__") = some true) && decide (PySem.W.mroIn K D (.type "object") = some true)))))))
theorem excB_ok {K : PySem.W.Frag} {D : Addr} (h : excB K D = true) : ExcC K D := by
  simp only [excB, Bool.and_eq_true] at h
  obtain ⟨h1, h2, h3, h4, h5, h6, h7, h8⟩ := h
  exact ⟨eqO_ok h1, eqO_ok h2, of_decide_eq_true h3, h4, eqO_ok h5, eqO_ok h6, of_decide_eq_true h7, of_decide_eq_true h8⟩
def fn : List He.DefD := [d_is_name, d_number_of, d_Game_init, d_Game_eq, d_Reader_init, d_Reader_word, d_Reader_take, d_Reader_take_number, d_Reader_game, d_Reader_block, d_Reader_statement, d_Reader_branching, d_Reader_choice, d_Reader_expression, d_read_game, d_expression_words, d_block_words, d_game_text, d_l_pool, d_l_draw, d_l_spend, d_l_number, d_l_same, d_l_value, d_l_statement, d_l_block, d_l_names, d_l_game, d_l_value_words, d_l_block_words, d_l_words, d_law]
def fa : List He.Fa := [
  .glo "is_name",
  .glo "number_of",
  .glo "read_game",
  .glo "expression_words",
  .glo "block_words",
  .glo "game_text",
  .glo "_law_pool",
  .glo "_law_draw",
  .glo "_law_spend",
  .glo "_law_number",
  .glo "_law_same",
  .glo "_law_value",
  .glo "_law_statement",
  .glo "_law_block",
  .glo "_law_names",
  .glo "_law_game",
  .glo "_law_value_words",
  .glo "_law_block_words",
  .glo "_law_words",
  .glo "law",
  .glo "LossError",
  .exc "LossError",
  .glo "BadText",
  .glo "Game",
  .cls "Game",
  .mkr "Game",
  .noat "Game" "variables",
  .noat "Game" "block",
  .meth "Game" "__eq__",
  .glo "Reader",
  .cls "Reader",
  .mkr "Reader",
  .noat "Reader" "words",
  .noat "Reader" "at",
  .noat "Reader" "names",
  .noat "Reader" "branches",
  .noat "Reader" "moves",
  .meth "Reader" "word",
  .meth "Reader" "take",
  .meth "Reader" "take_number",
  .meth "Reader" "game",
  .meth "Reader" "block",
  .meth "Reader" "statement",
  .meth "Reader" "branching",
  .meth "Reader" "choice",
  .meth "Reader" "expression",
  .free "ValueError",
  .free "int",
  .free "isinstance",
  .free "range",
  .free "tuple",
  .free "all",
  .free "len",
  .free "list",
  .free "bool",
  .free "str",
  .free "super",
  .glo "KEYS",
  .glo "SIGNS",
  .glo "SEATS",
  .str "LETTERS" "abcdefghijklmnopqrstuvwxyz",
  .int "GREATEST" 65535,
  .int "MOST_NAMES" 5,
  .int "MOST_PARTS" 8,
  .int "MOST_BRANCHES" 10,
  .int "DEEPEST" 6,
  .int "DEEPEST_IF" 4]
def exs : List (PySem.W.Frag → Bool) := [
  fun K => eqO (PySem.W.findIn K (.ref (ga K "Game")) "__class__") (some (some (.builtin "object.__class__"))),
  fun K => PySem.W.notFirst K (ga K "Game") (.ref (ga K "Game")),
  fun K => decide (PySem.W.mroIn K (ga K "Game") (.type "object") = some true),
  fun K => decide (PySem.W.kitOne K (.ref (ga K "Game")) (.type "tuple") = some false),
  fun K => decide (PySem.W.kitOne K (.ref (ga K "Game")) (.type "list") = some false),
  fun K => decide (PySem.W.kitOne K (.ref (ga K "Game")) (.type "bool") = some false),
  fun K => decide (PySem.W.kitOne K (.ref (ga K "Game")) (.type "int") = some false),
  fun K => decide (PySem.W.kitOne K (.ref (ga K "Game")) (.type "str") = some false),
  fun K => decide (PySem.W.kitOne K (.ref (ga K "Game")) (.ref (ga K "Game")) = some true),
  fun K => decide (PySem.W.kitOne K (.ref (ga K "Game")) (.ref (ga K "Reader")) = some false),
  fun K => eqO (PySem.W.findIn K (.ref (ga K "Reader")) "__class__") (some (some (.builtin "object.__class__"))),
  fun K => decide (PySem.W.mroIn K (ga K "Reader") (.type "object") = some true),
  fun K => decide (PySem.W.kitOne K (.ref (ga K "Reader")) (.type "tuple") = some false),
  fun K => decide (PySem.W.kitOne K (.ref (ga K "Reader")) (.type "list") = some false),
  fun K => decide (PySem.W.kitOne K (.ref (ga K "Reader")) (.type "bool") = some false),
  fun K => decide (PySem.W.kitOne K (.ref (ga K "Reader")) (.type "int") = some false),
  fun K => decide (PySem.W.kitOne K (.ref (ga K "Reader")) (.type "str") = some false),
  fun K => decide (PySem.W.kitOne K (.ref (ga K "Reader")) (.ref (ga K "Game")) = some false),
  fun K => decide (PySem.W.kitOne K (.ref (ga K "Reader")) (.ref (ga K "Reader")) = some true),
  fun K => eqO (PySem.W.specialIn K (.builtin "object.__class__") "__get__") (some (some (.builtin "getset_descriptor.__get__"))),
  fun K => decide (PySem.W.takesIn K (.builtin "object.__class__") = some true),
  fun K => He.tupB K "KEYS" [.str "var", .str "set", .str "draw", .str "choose", .str "come", .str "show", .str "chooser", .str "comer", .str "pay", .str "take", .str "if", .str "else", .str "end", .str "mod"],
  fun K => He.tupB K "SIGNS" [.str "+", .str "-", .str "*", .str "/", .str "mod", .str "<", .str "="],
  fun K => He.tupB K "SEATS" [.str "chooser", .str "comer"],
  fun K => excB K (ga K "LossError"),
  fun K => decide (PySem.W.exmOne K (.ref (ga K "LossError")) (.ref (ga K "LossError")) = some true),
  fun K => decide (PySem.W.kitOne K (.ref (ga K "LossError")) (.ref (ga K "LossError")) = some true),
  fun K => decide (PySem.W.exmOne K (.ref (ga K "LossError")) (.ref (ga K "BadText")) = some false),
  fun K => decide (PySem.W.kitOne K (.ref (ga K "LossError")) (.ref (ga K "BadText")) = some false),
  fun K => decide (PySem.W.kitOne K (.ref (ga K "LossError")) (.type "ValueError") = some true),
  fun K => excB K (ga K "BadText"),
  fun K => decide (PySem.W.exmOne K (.ref (ga K "BadText")) (.ref (ga K "LossError")) = some true),
  fun K => decide (PySem.W.kitOne K (.ref (ga K "BadText")) (.ref (ga K "LossError")) = some true),
  fun K => decide (PySem.W.exmOne K (.ref (ga K "BadText")) (.ref (ga K "BadText")) = some true),
  fun K => decide (PySem.W.kitOne K (.ref (ga K "BadText")) (.ref (ga K "BadText")) = some true),
  fun K => decide (PySem.W.kitOne K (.ref (ga K "BadText")) (.type "ValueError") = some true)]
def exB (K : PySem.W.Frag) : Bool := exs.all fun f => f K
theorem exB_at {K : PySem.W.Frag} (h : exB K = true) (i : Nat) {f : PySem.W.Frag → Bool} (e : exs[i]? = some f) : f K = true := List.all_eq_true.mp h f (List.mem_of_getElem? e)
def tabs : List He.Tab := []
/-- what the walk asks of the top -/
structure Txt (K : PySem.W.Frag) (mg : Str → Option Value) : Prop where
  d_is_name : ∃ fd, FunD K "is_name" "is_name" (defArgs s_is_name) (defBody s_is_name) (defScope s_is_name) (List.map (He.Dv.v K) []) [] (ga K "is_name") fd
  d_number_of : ∃ fd, FunD K "number_of" "number_of" (defArgs s_number_of) (defBody s_number_of) (defScope s_number_of) (List.map (He.Dv.v K) []) [] (ga K "number_of") fd
  d_Game_init : ∃ fd, FunD K "__init__" "Game.__init__" (defArgs s_Game_init) (defBody s_Game_init) (defScope s_Game_init) (List.map (He.Dv.v K) []) [] (ma K (ga K "Game") "__init__") fd
  d_Game_eq : ∃ fd, FunD K "__eq__" "Game.__eq__" (defArgs s_Game_eq) (defBody s_Game_eq) (defScope s_Game_eq) (List.map (He.Dv.v K) []) [] (ma K (ga K "Game") "__eq__") fd
  d_Reader_init : ∃ fd, FunD K "__init__" "Reader.__init__" (defArgs s_Reader_init) (defBody s_Reader_init) (defScope s_Reader_init) (List.map (He.Dv.v K) []) [] (ma K (ga K "Reader") "__init__") fd
  d_Reader_word : ∃ fd, FunD K "word" "Reader.word" (defArgs s_Reader_word) (defBody s_Reader_word) (defScope s_Reader_word) (List.map (He.Dv.v K) []) [] (ma K (ga K "Reader") "word") fd
  d_Reader_take : ∃ fd, FunD K "take" "Reader.take" (defArgs s_Reader_take) (defBody s_Reader_take) (defScope s_Reader_take) (List.map (He.Dv.v K) []) [] (ma K (ga K "Reader") "take") fd
  d_Reader_take_number : ∃ fd, FunD K "take_number" "Reader.take_number" (defArgs s_Reader_take_number) (defBody s_Reader_take_number) (defScope s_Reader_take_number) (List.map (He.Dv.v K) []) [] (ma K (ga K "Reader") "take_number") fd
  d_Reader_game : ∃ fd, FunD K "game" "Reader.game" (defArgs s_Reader_game) (defBody s_Reader_game) (defScope s_Reader_game) (List.map (He.Dv.v K) []) [] (ma K (ga K "Reader") "game") fd
  d_Reader_block : ∃ fd, FunD K "block" "Reader.block" (defArgs s_Reader_block) (defBody s_Reader_block) (defScope s_Reader_block) (List.map (He.Dv.v K) []) [] (ma K (ga K "Reader") "block") fd
  d_Reader_statement : ∃ fd, FunD K "statement" "Reader.statement" (defArgs s_Reader_statement) (defBody s_Reader_statement) (defScope s_Reader_statement) (List.map (He.Dv.v K) []) [] (ma K (ga K "Reader") "statement") fd
  d_Reader_branching : ∃ fd, FunD K "branching" "Reader.branching" (defArgs s_Reader_branching) (defBody s_Reader_branching) (defScope s_Reader_branching) (List.map (He.Dv.v K) []) [] (ma K (ga K "Reader") "branching") fd
  d_Reader_choice : ∃ fd, FunD K "choice" "Reader.choice" (defArgs s_Reader_choice) (defBody s_Reader_choice) (defScope s_Reader_choice) (List.map (He.Dv.v K) []) [] (ma K (ga K "Reader") "choice") fd
  d_Reader_expression : ∃ fd, FunD K "expression" "Reader.expression" (defArgs s_Reader_expression) (defBody s_Reader_expression) (defScope s_Reader_expression) (List.map (He.Dv.v K) []) [] (ma K (ga K "Reader") "expression") fd
  d_read_game : ∃ fd, FunD K "read_game" "read_game" (defArgs s_read_game) (defBody s_read_game) (defScope s_read_game) (List.map (He.Dv.v K) []) [] (ga K "read_game") fd
  d_expression_words : ∃ fd, FunD K "expression_words" "expression_words" (defArgs s_expression_words) (defBody s_expression_words) (defScope s_expression_words) (List.map (He.Dv.v K) []) [] (ga K "expression_words") fd
  d_block_words : ∃ fd, FunD K "block_words" "block_words" (defArgs s_block_words) (defBody s_block_words) (defScope s_block_words) (List.map (He.Dv.v K) []) [] (ga K "block_words") fd
  d_game_text : ∃ fd, FunD K "game_text" "game_text" (defArgs s_game_text) (defBody s_game_text) (defScope s_game_text) (List.map (He.Dv.v K) []) [] (ga K "game_text") fd
  d_l_pool : ∃ fd, FunD K "_law_pool" "_law_pool" (defArgs s_l_pool) (defBody s_l_pool) (defScope s_l_pool) (List.map (He.Dv.v K) []) [] (ga K "_law_pool") fd
  d_l_draw : ∃ fd, FunD K "_law_draw" "_law_draw" (defArgs s_l_draw) (defBody s_l_draw) (defScope s_l_draw) (List.map (He.Dv.v K) []) [] (ga K "_law_draw") fd
  d_l_spend : ∃ fd, FunD K "_law_spend" "_law_spend" (defArgs s_l_spend) (defBody s_l_spend) (defScope s_l_spend) (List.map (He.Dv.v K) []) [] (ga K "_law_spend") fd
  d_l_number : ∃ fd, FunD K "_law_number" "_law_number" (defArgs s_l_number) (defBody s_l_number) (defScope s_l_number) (List.map (He.Dv.v K) []) [] (ga K "_law_number") fd
  d_l_same : ∃ fd, FunD K "_law_same" "_law_same" (defArgs s_l_same) (defBody s_l_same) (defScope s_l_same) (List.map (He.Dv.v K) []) [] (ga K "_law_same") fd
  d_l_value : ∃ fd, FunD K "_law_value" "_law_value" (defArgs s_l_value) (defBody s_l_value) (defScope s_l_value) (List.map (He.Dv.v K) []) [] (ga K "_law_value") fd
  d_l_statement : ∃ fd, FunD K "_law_statement" "_law_statement" (defArgs s_l_statement) (defBody s_l_statement) (defScope s_l_statement) (List.map (He.Dv.v K) []) [] (ga K "_law_statement") fd
  d_l_block : ∃ fd, FunD K "_law_block" "_law_block" (defArgs s_l_block) (defBody s_l_block) (defScope s_l_block) (List.map (He.Dv.v K) []) [] (ga K "_law_block") fd
  d_l_names : ∃ fd, FunD K "_law_names" "_law_names" (defArgs s_l_names) (defBody s_l_names) (defScope s_l_names) (List.map (He.Dv.v K) []) [] (ga K "_law_names") fd
  d_l_game : ∃ fd, FunD K "_law_game" "_law_game" (defArgs s_l_game) (defBody s_l_game) (defScope s_l_game) (List.map (He.Dv.v K) []) [] (ga K "_law_game") fd
  d_l_value_words : ∃ fd, FunD K "_law_value_words" "_law_value_words" (defArgs s_l_value_words) (defBody s_l_value_words) (defScope s_l_value_words) (List.map (He.Dv.v K) []) [] (ga K "_law_value_words") fd
  d_l_block_words : ∃ fd, FunD K "_law_block_words" "_law_block_words" (defArgs s_l_block_words) (defBody s_l_block_words) (defScope s_l_block_words) (List.map (He.Dv.v K) []) [] (ga K "_law_block_words") fd
  d_l_words : ∃ fd, FunD K "_law_words" "_law_words" (defArgs s_l_words) (defBody s_l_words) (defScope s_l_words) (List.map (He.Dv.v K) []) [] (ga K "_law_words") fd
  d_law : ∃ fd, FunD K "law" "law" (defArgs s_law) (defBody s_law) (defScope s_law) (List.map (He.Dv.v K) []) [] (ga K "law") fd
  g_is_name : mg "is_name" = some (.ref (ga K "is_name"))
  g_number_of : mg "number_of" = some (.ref (ga K "number_of"))
  g_read_game : mg "read_game" = some (.ref (ga K "read_game"))
  g_expression_words : mg "expression_words" = some (.ref (ga K "expression_words"))
  g_block_words : mg "block_words" = some (.ref (ga K "block_words"))
  g_game_text : mg "game_text" = some (.ref (ga K "game_text"))
  g_l_pool : mg "_law_pool" = some (.ref (ga K "_law_pool"))
  g_l_draw : mg "_law_draw" = some (.ref (ga K "_law_draw"))
  g_l_spend : mg "_law_spend" = some (.ref (ga K "_law_spend"))
  g_l_number : mg "_law_number" = some (.ref (ga K "_law_number"))
  g_l_same : mg "_law_same" = some (.ref (ga K "_law_same"))
  g_l_value : mg "_law_value" = some (.ref (ga K "_law_value"))
  g_l_statement : mg "_law_statement" = some (.ref (ga K "_law_statement"))
  g_l_block : mg "_law_block" = some (.ref (ga K "_law_block"))
  g_l_names : mg "_law_names" = some (.ref (ga K "_law_names"))
  g_l_game : mg "_law_game" = some (.ref (ga K "_law_game"))
  g_l_value_words : mg "_law_value_words" = some (.ref (ga K "_law_value_words"))
  g_l_block_words : mg "_law_block_words" = some (.ref (ga K "_law_block_words"))
  g_l_words : mg "_law_words" = some (.ref (ga K "_law_words"))
  g_law : mg "law" = some (.ref (ga K "law"))
  g_LossError : mg "LossError" = some (.ref (ga K "LossError"))
  x_LossError : PySem.W.excIn K (ga K "LossError") He.veBase "ValueError.__new__" = true ∧ PySem.W.keepIn K (.ref (ga K "LossError")) = true ∧ PySem.W.subIn K (.ref (ga K "LossError")) (.type "BaseException") = some true ∧ PySem.W.typeIn K (.ref (ga K "LossError")) = some (.type "type")
  g_BadText : mg "BadText" = some (.ref (ga K "BadText"))
  g_Game : mg "Game" = some (.ref (ga K "Game"))
  c_Game : Cls K (ga K "Game")
  m_Game : Mk K (ga K "Game") (ma K (ga K "Game") "__init__")
  a_Game_variables : NoAttr K (ga K "Game") "variables"
  a_Game_block : NoAttr K (ga K "Game") "block"
  t_Game_eq : Meth K (ga K "Game") "__eq__" (ma K (ga K "Game") "__eq__")
  g_Reader : mg "Reader" = some (.ref (ga K "Reader"))
  c_Reader : Cls K (ga K "Reader")
  m_Reader : Mk K (ga K "Reader") (ma K (ga K "Reader") "__init__")
  a_Reader_words : NoAttr K (ga K "Reader") "words"
  a_Reader_at : NoAttr K (ga K "Reader") "at"
  a_Reader_names : NoAttr K (ga K "Reader") "names"
  a_Reader_branches : NoAttr K (ga K "Reader") "branches"
  a_Reader_moves : NoAttr K (ga K "Reader") "moves"
  t_Reader_word : Meth K (ga K "Reader") "word" (ma K (ga K "Reader") "word")
  t_Reader_take : Meth K (ga K "Reader") "take" (ma K (ga K "Reader") "take")
  t_Reader_take_number : Meth K (ga K "Reader") "take_number" (ma K (ga K "Reader") "take_number")
  t_Reader_game : Meth K (ga K "Reader") "game" (ma K (ga K "Reader") "game")
  t_Reader_block : Meth K (ga K "Reader") "block" (ma K (ga K "Reader") "block")
  t_Reader_statement : Meth K (ga K "Reader") "statement" (ma K (ga K "Reader") "statement")
  t_Reader_branching : Meth K (ga K "Reader") "branching" (ma K (ga K "Reader") "branching")
  t_Reader_choice : Meth K (ga K "Reader") "choice" (ma K (ga K "Reader") "choice")
  t_Reader_expression : Meth K (ga K "Reader") "expression" (ma K (ga K "Reader") "expression")
  f_ValueError : mg "ValueError" = none
  f_int : mg "int" = none
  f_isinstance : mg "isinstance" = none
  f_range : mg "range" = none
  f_tuple : mg "tuple" = none
  f_all : mg "all" = none
  f_len : mg "len" = none
  f_list : mg "list" = none
  f_bool : mg "bool" = none
  f_str : mg "str" = none
  f_super : mg "super" = none
  g_KEYS : mg "KEYS" = some (.ref (ga K "KEYS"))
  g_SIGNS : mg "SIGNS" = some (.ref (ga K "SIGNS"))
  g_SEATS : mg "SEATS" = some (.ref (ga K "SEATS"))
  i_LETTERS : ∃ t, mg "LETTERS" = some (.str "abcdefghijklmnopqrstuvwxyz" t)
  i_GREATEST : ∃ t, mg "GREATEST" = some (.int 65535 t)
  i_MOST_NAMES : ∃ t, mg "MOST_NAMES" = some (.int 5 t)
  i_MOST_PARTS : ∃ t, mg "MOST_PARTS" = some (.int 8 t)
  i_MOST_BRANCHES : ∃ t, mg "MOST_BRANCHES" = some (.int 10 t)
  i_DEEPEST : ∃ t, mg "DEEPEST" = some (.int 6 t)
  i_DEEPEST_IF : ∃ t, mg "DEEPEST_IF" = some (.int 4 t)
  oc_Game : PySem.W.findIn K (.ref (ga K "Game")) "__class__" = some (some (.builtin "object.__class__"))
  nf_Game : PySem.W.notFirst K (ga K "Game") (.ref (ga K "Game")) = true
  om_Game : PySem.W.mroIn K (ga K "Game") (.type "object") = some true
  ki_Game_tuple : PySem.W.kitOne K (.ref (ga K "Game")) (.type "tuple") = some false
  ki_Game_list : PySem.W.kitOne K (.ref (ga K "Game")) (.type "list") = some false
  ki_Game_bool : PySem.W.kitOne K (.ref (ga K "Game")) (.type "bool") = some false
  ki_Game_int : PySem.W.kitOne K (.ref (ga K "Game")) (.type "int") = some false
  ki_Game_str : PySem.W.kitOne K (.ref (ga K "Game")) (.type "str") = some false
  ki_Game_Game : PySem.W.kitOne K (.ref (ga K "Game")) (.ref (ga K "Game")) = some true
  ki_Game_Reader : PySem.W.kitOne K (.ref (ga K "Game")) (.ref (ga K "Reader")) = some false
  oc_Reader : PySem.W.findIn K (.ref (ga K "Reader")) "__class__" = some (some (.builtin "object.__class__"))
  om_Reader : PySem.W.mroIn K (ga K "Reader") (.type "object") = some true
  ki_Reader_tuple : PySem.W.kitOne K (.ref (ga K "Reader")) (.type "tuple") = some false
  ki_Reader_list : PySem.W.kitOne K (.ref (ga K "Reader")) (.type "list") = some false
  ki_Reader_bool : PySem.W.kitOne K (.ref (ga K "Reader")) (.type "bool") = some false
  ki_Reader_int : PySem.W.kitOne K (.ref (ga K "Reader")) (.type "int") = some false
  ki_Reader_str : PySem.W.kitOne K (.ref (ga K "Reader")) (.type "str") = some false
  ki_Reader_Game : PySem.W.kitOne K (.ref (ga K "Reader")) (.ref (ga K "Game")) = some false
  ki_Reader_Reader : PySem.W.kitOne K (.ref (ga K "Reader")) (.ref (ga K "Reader")) = some true
  og : PySem.W.specialIn K (.builtin "object.__class__") "__get__" = some (some (.builtin "getset_descriptor.__get__"))
  ot : PySem.W.takesIn K (.builtin "object.__class__") = some true
  p_KEYS : He.tupB K "KEYS" [.str "var", .str "set", .str "draw", .str "choose", .str "come", .str "show", .str "chooser", .str "comer", .str "pay", .str "take", .str "if", .str "else", .str "end", .str "mod"] = true
  p_SIGNS : He.tupB K "SIGNS" [.str "+", .str "-", .str "*", .str "/", .str "mod", .str "<", .str "="] = true
  p_SEATS : He.tupB K "SEATS" [.str "chooser", .str "comer"] = true
  xc_LossError : ExcC K (ga K "LossError")
  em_LossError_LossError : PySem.W.exmOne K (.ref (ga K "LossError")) (.ref (ga K "LossError")) = some true
  ki_LossError_LossError : PySem.W.kitOne K (.ref (ga K "LossError")) (.ref (ga K "LossError")) = some true
  em_LossError_BadText : PySem.W.exmOne K (.ref (ga K "LossError")) (.ref (ga K "BadText")) = some false
  ki_LossError_BadText : PySem.W.kitOne K (.ref (ga K "LossError")) (.ref (ga K "BadText")) = some false
  kv_LossError : PySem.W.kitOne K (.ref (ga K "LossError")) (.type "ValueError") = some true
  xc_BadText : ExcC K (ga K "BadText")
  em_BadText_LossError : PySem.W.exmOne K (.ref (ga K "BadText")) (.ref (ga K "LossError")) = some true
  ki_BadText_LossError : PySem.W.kitOne K (.ref (ga K "BadText")) (.ref (ga K "LossError")) = some true
  em_BadText_BadText : PySem.W.exmOne K (.ref (ga K "BadText")) (.ref (ga K "BadText")) = some true
  ki_BadText_BadText : PySem.W.kitOne K (.ref (ga K "BadText")) (.ref (ga K "BadText")) = some true
  kv_BadText : PySem.W.kitOne K (.ref (ga K "BadText")) (.type "ValueError") = some true
theorem txt_of {w : World} {K : PySem.W.Frag} {h : Heap} {mg : Str → Option Value} (X : K.In h) (G : h.Ns mainGlobals mg) (c : He.SaysX fa fn tabs [] exB w h K) : Txt K mg where
  d_is_name := He.SaysD.def_ c.t.d 0 (d := d_is_name) rfl
  d_number_of := He.SaysD.def_ c.t.d 1 (d := d_number_of) rfl
  d_Game_init := He.SaysD.def_ c.t.d 2 (d := d_Game_init) rfl
  d_Game_eq := He.SaysD.def_ c.t.d 3 (d := d_Game_eq) rfl
  d_Reader_init := He.SaysD.def_ c.t.d 4 (d := d_Reader_init) rfl
  d_Reader_word := He.SaysD.def_ c.t.d 5 (d := d_Reader_word) rfl
  d_Reader_take := He.SaysD.def_ c.t.d 6 (d := d_Reader_take) rfl
  d_Reader_take_number := He.SaysD.def_ c.t.d 7 (d := d_Reader_take_number) rfl
  d_Reader_game := He.SaysD.def_ c.t.d 8 (d := d_Reader_game) rfl
  d_Reader_block := He.SaysD.def_ c.t.d 9 (d := d_Reader_block) rfl
  d_Reader_statement := He.SaysD.def_ c.t.d 10 (d := d_Reader_statement) rfl
  d_Reader_branching := He.SaysD.def_ c.t.d 11 (d := d_Reader_branching) rfl
  d_Reader_choice := He.SaysD.def_ c.t.d 12 (d := d_Reader_choice) rfl
  d_Reader_expression := He.SaysD.def_ c.t.d 13 (d := d_Reader_expression) rfl
  d_read_game := He.SaysD.def_ c.t.d 14 (d := d_read_game) rfl
  d_expression_words := He.SaysD.def_ c.t.d 15 (d := d_expression_words) rfl
  d_block_words := He.SaysD.def_ c.t.d 16 (d := d_block_words) rfl
  d_game_text := He.SaysD.def_ c.t.d 17 (d := d_game_text) rfl
  d_l_pool := He.SaysD.def_ c.t.d 18 (d := d_l_pool) rfl
  d_l_draw := He.SaysD.def_ c.t.d 19 (d := d_l_draw) rfl
  d_l_spend := He.SaysD.def_ c.t.d 20 (d := d_l_spend) rfl
  d_l_number := He.SaysD.def_ c.t.d 21 (d := d_l_number) rfl
  d_l_same := He.SaysD.def_ c.t.d 22 (d := d_l_same) rfl
  d_l_value := He.SaysD.def_ c.t.d 23 (d := d_l_value) rfl
  d_l_statement := He.SaysD.def_ c.t.d 24 (d := d_l_statement) rfl
  d_l_block := He.SaysD.def_ c.t.d 25 (d := d_l_block) rfl
  d_l_names := He.SaysD.def_ c.t.d 26 (d := d_l_names) rfl
  d_l_game := He.SaysD.def_ c.t.d 27 (d := d_l_game) rfl
  d_l_value_words := He.SaysD.def_ c.t.d 28 (d := d_l_value_words) rfl
  d_l_block_words := He.SaysD.def_ c.t.d 29 (d := d_l_block_words) rfl
  d_l_words := He.SaysD.def_ c.t.d 30 (d := d_l_words) rfl
  d_law := He.SaysD.def_ c.t.d 31 (d := d_law) rfl
  g_is_name := He.glo_ok X G (He.SaysD.fact c.t.d 0 (f := .glo "is_name") rfl)
  g_number_of := He.glo_ok X G (He.SaysD.fact c.t.d 1 (f := .glo "number_of") rfl)
  g_read_game := He.glo_ok X G (He.SaysD.fact c.t.d 2 (f := .glo "read_game") rfl)
  g_expression_words := He.glo_ok X G (He.SaysD.fact c.t.d 3 (f := .glo "expression_words") rfl)
  g_block_words := He.glo_ok X G (He.SaysD.fact c.t.d 4 (f := .glo "block_words") rfl)
  g_game_text := He.glo_ok X G (He.SaysD.fact c.t.d 5 (f := .glo "game_text") rfl)
  g_l_pool := He.glo_ok X G (He.SaysD.fact c.t.d 6 (f := .glo "_law_pool") rfl)
  g_l_draw := He.glo_ok X G (He.SaysD.fact c.t.d 7 (f := .glo "_law_draw") rfl)
  g_l_spend := He.glo_ok X G (He.SaysD.fact c.t.d 8 (f := .glo "_law_spend") rfl)
  g_l_number := He.glo_ok X G (He.SaysD.fact c.t.d 9 (f := .glo "_law_number") rfl)
  g_l_same := He.glo_ok X G (He.SaysD.fact c.t.d 10 (f := .glo "_law_same") rfl)
  g_l_value := He.glo_ok X G (He.SaysD.fact c.t.d 11 (f := .glo "_law_value") rfl)
  g_l_statement := He.glo_ok X G (He.SaysD.fact c.t.d 12 (f := .glo "_law_statement") rfl)
  g_l_block := He.glo_ok X G (He.SaysD.fact c.t.d 13 (f := .glo "_law_block") rfl)
  g_l_names := He.glo_ok X G (He.SaysD.fact c.t.d 14 (f := .glo "_law_names") rfl)
  g_l_game := He.glo_ok X G (He.SaysD.fact c.t.d 15 (f := .glo "_law_game") rfl)
  g_l_value_words := He.glo_ok X G (He.SaysD.fact c.t.d 16 (f := .glo "_law_value_words") rfl)
  g_l_block_words := He.glo_ok X G (He.SaysD.fact c.t.d 17 (f := .glo "_law_block_words") rfl)
  g_l_words := He.glo_ok X G (He.SaysD.fact c.t.d 18 (f := .glo "_law_words") rfl)
  g_law := He.glo_ok X G (He.SaysD.fact c.t.d 19 (f := .glo "law") rfl)
  g_LossError := He.glo_ok X G (He.SaysD.fact c.t.d 20 (f := .glo "LossError") rfl)
  x_LossError := He.exc_ok (He.SaysD.fact c.t.d 21 (f := .exc "LossError") rfl)
  g_BadText := He.glo_ok X G (He.SaysD.fact c.t.d 22 (f := .glo "BadText") rfl)
  g_Game := He.glo_ok X G (He.SaysD.fact c.t.d 23 (f := .glo "Game") rfl)
  c_Game := He.cls_ok (He.SaysD.fact c.t.d 24 (f := .cls "Game") rfl)
  m_Game := He.mkr_ok (He.SaysD.fact c.t.d 25 (f := .mkr "Game") rfl)
  a_Game_variables := He.noat_ok (He.SaysD.fact c.t.d 26 (f := .noat "Game" "variables") rfl)
  a_Game_block := He.noat_ok (He.SaysD.fact c.t.d 27 (f := .noat "Game" "block") rfl)
  t_Game_eq := He.meth_ok (He.SaysD.fact c.t.d 28 (f := .meth "Game" "__eq__") rfl)
  g_Reader := He.glo_ok X G (He.SaysD.fact c.t.d 29 (f := .glo "Reader") rfl)
  c_Reader := He.cls_ok (He.SaysD.fact c.t.d 30 (f := .cls "Reader") rfl)
  m_Reader := He.mkr_ok (He.SaysD.fact c.t.d 31 (f := .mkr "Reader") rfl)
  a_Reader_words := He.noat_ok (He.SaysD.fact c.t.d 32 (f := .noat "Reader" "words") rfl)
  a_Reader_at := He.noat_ok (He.SaysD.fact c.t.d 33 (f := .noat "Reader" "at") rfl)
  a_Reader_names := He.noat_ok (He.SaysD.fact c.t.d 34 (f := .noat "Reader" "names") rfl)
  a_Reader_branches := He.noat_ok (He.SaysD.fact c.t.d 35 (f := .noat "Reader" "branches") rfl)
  a_Reader_moves := He.noat_ok (He.SaysD.fact c.t.d 36 (f := .noat "Reader" "moves") rfl)
  t_Reader_word := He.meth_ok (He.SaysD.fact c.t.d 37 (f := .meth "Reader" "word") rfl)
  t_Reader_take := He.meth_ok (He.SaysD.fact c.t.d 38 (f := .meth "Reader" "take") rfl)
  t_Reader_take_number := He.meth_ok (He.SaysD.fact c.t.d 39 (f := .meth "Reader" "take_number") rfl)
  t_Reader_game := He.meth_ok (He.SaysD.fact c.t.d 40 (f := .meth "Reader" "game") rfl)
  t_Reader_block := He.meth_ok (He.SaysD.fact c.t.d 41 (f := .meth "Reader" "block") rfl)
  t_Reader_statement := He.meth_ok (He.SaysD.fact c.t.d 42 (f := .meth "Reader" "statement") rfl)
  t_Reader_branching := He.meth_ok (He.SaysD.fact c.t.d 43 (f := .meth "Reader" "branching") rfl)
  t_Reader_choice := He.meth_ok (He.SaysD.fact c.t.d 44 (f := .meth "Reader" "choice") rfl)
  t_Reader_expression := He.meth_ok (He.SaysD.fact c.t.d 45 (f := .meth "Reader" "expression") rfl)
  f_ValueError := He.free_ok X G (He.SaysD.fact c.t.d 46 (f := .free "ValueError") rfl)
  f_int := He.free_ok X G (He.SaysD.fact c.t.d 47 (f := .free "int") rfl)
  f_isinstance := He.free_ok X G (He.SaysD.fact c.t.d 48 (f := .free "isinstance") rfl)
  f_range := He.free_ok X G (He.SaysD.fact c.t.d 49 (f := .free "range") rfl)
  f_tuple := He.free_ok X G (He.SaysD.fact c.t.d 50 (f := .free "tuple") rfl)
  f_all := He.free_ok X G (He.SaysD.fact c.t.d 51 (f := .free "all") rfl)
  f_len := He.free_ok X G (He.SaysD.fact c.t.d 52 (f := .free "len") rfl)
  f_list := He.free_ok X G (He.SaysD.fact c.t.d 53 (f := .free "list") rfl)
  f_bool := He.free_ok X G (He.SaysD.fact c.t.d 54 (f := .free "bool") rfl)
  f_str := He.free_ok X G (He.SaysD.fact c.t.d 55 (f := .free "str") rfl)
  f_super := He.free_ok X G (He.SaysD.fact c.t.d 56 (f := .free "super") rfl)
  g_KEYS := He.glo_ok X G (He.SaysD.fact c.t.d 57 (f := .glo "KEYS") rfl)
  g_SIGNS := He.glo_ok X G (He.SaysD.fact c.t.d 58 (f := .glo "SIGNS") rfl)
  g_SEATS := He.glo_ok X G (He.SaysD.fact c.t.d 59 (f := .glo "SEATS") rfl)
  i_LETTERS := He.str_ok X G (He.SaysD.fact c.t.d 60 (f := .str "LETTERS" "abcdefghijklmnopqrstuvwxyz") rfl)
  i_GREATEST := He.int_ok X G (He.SaysD.fact c.t.d 61 (f := .int "GREATEST" 65535) rfl)
  i_MOST_NAMES := He.int_ok X G (He.SaysD.fact c.t.d 62 (f := .int "MOST_NAMES" 5) rfl)
  i_MOST_PARTS := He.int_ok X G (He.SaysD.fact c.t.d 63 (f := .int "MOST_PARTS" 8) rfl)
  i_MOST_BRANCHES := He.int_ok X G (He.SaysD.fact c.t.d 64 (f := .int "MOST_BRANCHES" 10) rfl)
  i_DEEPEST := He.int_ok X G (He.SaysD.fact c.t.d 65 (f := .int "DEEPEST" 6) rfl)
  i_DEEPEST_IF := He.int_ok X G (He.SaysD.fact c.t.d 66 (f := .int "DEEPEST_IF" 4) rfl)
  oc_Game := eqO_ok (exB_at c.more 0 rfl)
  nf_Game := (exB_at c.more 1 rfl)
  om_Game := of_decide_eq_true (exB_at c.more 2 rfl)
  ki_Game_tuple := of_decide_eq_true (exB_at c.more 3 rfl)
  ki_Game_list := of_decide_eq_true (exB_at c.more 4 rfl)
  ki_Game_bool := of_decide_eq_true (exB_at c.more 5 rfl)
  ki_Game_int := of_decide_eq_true (exB_at c.more 6 rfl)
  ki_Game_str := of_decide_eq_true (exB_at c.more 7 rfl)
  ki_Game_Game := of_decide_eq_true (exB_at c.more 8 rfl)
  ki_Game_Reader := of_decide_eq_true (exB_at c.more 9 rfl)
  oc_Reader := eqO_ok (exB_at c.more 10 rfl)
  om_Reader := of_decide_eq_true (exB_at c.more 11 rfl)
  ki_Reader_tuple := of_decide_eq_true (exB_at c.more 12 rfl)
  ki_Reader_list := of_decide_eq_true (exB_at c.more 13 rfl)
  ki_Reader_bool := of_decide_eq_true (exB_at c.more 14 rfl)
  ki_Reader_int := of_decide_eq_true (exB_at c.more 15 rfl)
  ki_Reader_str := of_decide_eq_true (exB_at c.more 16 rfl)
  ki_Reader_Game := of_decide_eq_true (exB_at c.more 17 rfl)
  ki_Reader_Reader := of_decide_eq_true (exB_at c.more 18 rfl)
  og := eqO_ok (exB_at c.more 19 rfl)
  ot := of_decide_eq_true (exB_at c.more 20 rfl)
  p_KEYS := (exB_at c.more 21 rfl)
  p_SIGNS := (exB_at c.more 22 rfl)
  p_SEATS := (exB_at c.more 23 rfl)
  xc_LossError := excB_ok (exB_at c.more 24 rfl)
  em_LossError_LossError := of_decide_eq_true (exB_at c.more 25 rfl)
  ki_LossError_LossError := of_decide_eq_true (exB_at c.more 26 rfl)
  em_LossError_BadText := of_decide_eq_true (exB_at c.more 27 rfl)
  ki_LossError_BadText := of_decide_eq_true (exB_at c.more 28 rfl)
  kv_LossError := of_decide_eq_true (exB_at c.more 29 rfl)
  xc_BadText := excB_ok (exB_at c.more 30 rfl)
  em_BadText_LossError := of_decide_eq_true (exB_at c.more 31 rfl)
  ki_BadText_LossError := of_decide_eq_true (exB_at c.more 32 rfl)
  em_BadText_BadText := of_decide_eq_true (exB_at c.more 33 rfl)
  ki_BadText_BadText := of_decide_eq_true (exB_at c.more 34 rfl)
  kv_BadText := of_decide_eq_true (exB_at c.more 35 rfl)
/-! ### the head's run -/
def names0 : List Str := ["LossError", "BadText", "KEYS", "SIGNS", "SEATS", "LETTERS", "GREATEST", "MOST_NAMES", "MOST_PARTS", "MOST_BRANCHES", "DEEPEST", "DEEPEST_IF", "is_name", "number_of", "Game", "Reader", "read_game", "expression_words", "block_words", "game_text", "_law_pool", "_law_draw", "_law_spend", "_law_number", "_law_same", "_law_value", "_law_statement", "_law_block", "_law_names", "_law_game"]
def names1 : List Str := ["_law_value_words", "_law_block_words", "_law_words"]
def names : List Str := names0 ++ names1
abbrev R : PySem.W.OpenRow := PySem.W.OpenLaw.row PySem.Challenge.rw_lostleast_k01_games_read_and_written
abbrev lawAt : Nat := 36
abbrev hk : PySem.W.Hook := He.hookX 4 fa fn tabs [] exB
def ob (s : PySem.W.SharedT) : He.AlX := He.obsX 4 fa fn tabs [] exB (HandSHeadRun.getT s)
theorem ob_eq (s : PySem.W.SharedT) : ob s = hk.obs s.abs := He.obsX_eq (HandSHeadRun.getT_eq s)
theorem run (w : World) : HandSHeadRun.RunEq R (PySem.W.view R.prog [lawAt]) hk ob 60000 names w := by
  refine PySem.W.byRow2 "special-get-raises" (P := fun w => HandSHeadRun.RunEq R (PySem.W.view R.prog [lawAt]) hk ob 60000 names w) (fun w => ?_) (fun w => ?_) w <;>
    (intro os
     kernel_rfl)
end LL
namespace LL
open PySem PySem.Spec PyProof.Rows L2 He Evl
/-! ### rules of own operators, own str -/
section
variable {X : Cx} {CX : CXT} {n : Nat} {C g : Addr} {sp : Sp} {E : XK}
def rOwnB (C : Addr) (sp : Sp) (E : XK) : R2 := fun x y H Q => ∃ a dx fs b dy gs, x = .ref a ∧ y = .ref b ∧ H a = some (.ins C dx fs) ∧ H b = some (.ins C dy gs) ∧ sp [x, y] H Q E
theorem op_ownB {op : Operator} (hc : PySem.W.selfFirst X.K C = true) (hs : PySem.W.findIn X.K (.ref C) (PySem.dunder op.info.2) = some (some (.ref g))) (hf : PySem.W.isFn X.K (.ref g) = true) (F : FnR X.prog X.w X.K X.mg X.base CX n g sp)
    (hr : Room n X.A) (hx : Passes CX X E) : OpR X (binaryOp op) (rOwnB C sp E) := by
  intro pins s σ H x y v u Q I rx ry h
  obtain ⟨a, dx, fs, b, dy, gs, rfl, rfl, ha, hb, q⟩ := h
  cases (show v = Value.ref a from rx)
  cases (show u = Value.ref b from ry)
  obtain ⟨mA, O, _⟩ := ins_get I.hok ha
  obtain ⟨od, J, _⟩ := O.look
  obtain ⟨mB, O2, _⟩ := ins_get I.hok hb
  obtain ⟨od2, J2, _⟩ := O2.look
  obtain ⟨m, hF⟩ := I.fr
  refine PySem.W.binop_K hF I.ok.mod.kin J J2.type hc hs hf ?_
  refine wpAny_mono (wpAny_call (run_fnR (us := [.ref a, .ref b]) (vs := [.ref a, .ref b]) F hr hx I (.cons rfl (.cons rfl .nil)) q)) (fun w s' z => ?_) fun _ _ x => x
  obtain ⟨z', H', I', rz, qz⟩ := z
  exact SlX.cmpback rz ⟨z', H', I', rz, qz⟩
theorem op_ownC {op : CmpOp} (hop : ∀ a b, compareOp op a b = richCompare op a b) (hn : PySem.W.notFirst X.K C (.ref C) = true) (hs : PySem.W.findIn X.K (.ref C) (cmpInfo op).2.1 = some (some (.ref g))) (hf : PySem.W.isFn X.K (.ref g) = true) (F : FnR X.prog X.w X.K X.mg X.base CX n g sp)
    (hr : Room n X.A) (hx : Passes CX X E) : OpR X (compareOp op) (rOwnB C sp E) := by
  intro pins s σ H x y v u Q I rx ry h
  obtain ⟨a, dx, fs, b, dy, gs, rfl, rfl, ha, hb, q⟩ := h
  cases (show v = Value.ref a from rx)
  cases (show u = Value.ref b from ry)
  obtain ⟨mA, O, _⟩ := ins_get I.hok ha
  obtain ⟨od, J, _⟩ := O.look
  obtain ⟨mB, O2, _⟩ := ins_get I.hok hb
  obtain ⟨od2, J2, _⟩ := O2.look
  obtain ⟨m, hF⟩ := I.fr
  rw [hop]
  refine PySem.W.cmp_K (op := op) (tb := .ref C) hr.units0 hF I.ok.mod.kin J J2.type hn hs hf ?_
  refine wpAny_mono (wpAny_call (run_fnR (us := [.ref a, .ref b]) (vs := [.ref a, .ref b]) F hr hx I (.cons rfl (.cons rfl .nil)) q)) (fun w s' z => ?_) fun _ _ x => x
  obtain ⟨z', H', I', rz, qz⟩ := z
  exact SlX.cmpback rz ⟨z', H', I', rz, qz⟩
def rStrOwn (C : Addr) (sp : Sp) (E : XK) : List V → Hp → VK → Prop := fun xs H Q => ∃ a dx fs, xs = [.ref a] ∧ H a = some (.ins C dx fs) ∧ sp [.ref a] H (fun z H' => ∃ y, z = .str y ∧ Q (.str y) H') E
open Builtin Builtin.Str PySem.W in
theorem call_strOwn (hs : PySem.W.findIn X.K (.ref C) "__str__" = some (some (.ref g))) (hf : PySem.W.isFn X.K (.ref g) = true) (F : FnR X.prog X.w X.K X.mg X.base CX n g sp) (hr : Room (n + 2) X.A) (hx : Passes CX X E) : CallR X (.type "str") (rStrOwn C sp E) := by
  intro pins s σ H xs us Q I r h
  obtain ⟨a, dx, fs, rfl, ha, q⟩ := h
  obtain ⟨u, rfl, ru⟩ := r.one
  cases (show u = Value.ref a from ru)
  obtain ⟨mA, O, _⟩ := ins_get I.hok ha
  obtain ⟨od, J, _⟩ := O.look
  have hr2 : Room n X.A.in1.in1 := (show Room (n + 1) X.A.in1 from Room.in1 hr).in1
  refine callType_codes (T := "str") (Bi := Builtin.«object.__init__») (Q₁ := fun r s₁ => ∃ y u, r = .str y u ∧ EP X pins σ Q r s₁) PySem.F.called_str (PySem.F.typeCall_str_1 _) PySem.F.entry_object_init ?_ ?_
  · refine codeAny_of_tree ?_
    show wpAny _ X.A.in1.in1 (do checkBuiltinCall "str.__new__" ⟨[.type "str", .ref a], []⟩; again (.builtin "str.__new__" ⟨[.type "str", .ref a], []⟩)) _ _ s
    refine wpAny_bind (wpAny_of_eq (PySem.F.newCall_str_1 _) (wpAny_pure ⟨plainId_quiet (by decide +kernel) _, codeAny_builtin PySem.F.entry_str_new ?_⟩))
    rw [Around.under_plainId (by decide +kernel) _]
    rw [str_new_tree]
    refine wpAny_bind (wpAny_pure ?_)
    refine wpAny_bind (wpAny_of_eq isSubtype_str_str ?_)
    have key : wpAny (model X.prog X.w) X.A.in1.in1 (PySem.Builtin.Str.strOf (.ref a)) (fun r s₁ => ∃ y u, r = .str y u ∧ EP X pins σ Q r s₁) X.xe s := by
      unfold PySem.Builtin.Str.strOf
      rw [show isExactStr (.ref a) = false from rfl]
      refine wpAny_bind (m := cRoomFor _ _) (wpAny_cRoomFor hr2.units0 ?_)
      refine wpAny_bind (m := callSpecial? (.ref a) (Str.ofString "__str__")) (special_fn I.kIn J hs (beq_iff_eq.mp hf) (wpAny_mono (wpAny_call (SlX.run_at (us := [.ref a]) (ws := [.ref a]) F hr2 I.env0.in1.in1 hx I (.cons rfl .nil) q)) (fun r s' z => ?_) fun _ _ y => y))
      obtain ⟨z', H', I', rz, y, ez, qz⟩ := z
      subst ez
      obtain ⟨t, e⟩ := (show ∃ t, r = Value.str y t from rz)
      cases e
      exact wpAny_pure ⟨_, _, rfl, .str y, H', I', ⟨t, rfl⟩, qz⟩
    exact wpAny_bind (wpAny_mono key (fun r s₁ hr => wpAny_pure hr) fun _ _ y => y)
  · rintro obj s₁ ⟨y, u, rfl, hq⟩
    exact ⟨typeIs_str _ _ _, PySem.F.args_object_init_2 _ _, object_init_meets PySem.F.called_str.init.lookup PySem.F.called_str.made (by decide) X.prog X.w X.A.in1 _ s₁ ⟨typeIs_str _ _ _, rfl, hq⟩⟩
end
section
variable {P : Program} {w : World} {K : PySem.W.Frag} {mg : Str → Option Value} {base : Heap}
abbrev Fn (P : Program) (w : World) (K : PySem.W.Frag) (mg : Str → Option Value) (base : Heap) (k : Nat) (f : Addr) (sp : Sp) : Prop := FnR P w K mg base (L2.CX P w) k f sp
/-- what a call lets out is what the def lets out -/
theorem pc {N : List Str} {qual : Str} {scope : Scope} {f : Addr} {cd : Value} {A : Around} {outer : List Env} {s : Shared} {H : Hp} {E : XK} (h : scope.kind = .function := by rfl) : Passes (L2.CX P w) (cxOf (L2.CX P w) P w K mg base N qual scope f cd A outer s H E) E :=
  passes_call (takes_of rfl rfl rfl rfl) (fun _ _ _ _ h => h)
theorem fn_def {x qual : Str} {st : Stmt} {f : Addr} {N ps : List Str} {k : Nat} {sp : Sp} (D : ∃ fd, FunD K x qual (defArgs st) (defBody st) (defScope st) [] [] f fd) (S : FnScope N ps (defScope st))
    (hb : ∀ (kV doc pm : Value) (an : Option Addr) (cdv ct : Value) (us : List Value), us.length = ps.length → bindArgs (PySem.W.fnOf x qual (defArgs st) (defBody st) (defScope st) .none kV doc pm an cdv ct) ⟨us, []⟩ = pure (ps.zip us))
    (len : ∀ vs H Q E, sp vs H Q E → vs.length = ps.length)
    (hbody : ∀ (cdv : Value) (A : Around) (outer : List Env) (s : Shared) (H : Hp) (vs : List V) (Q : VK) (E : XK), Room k (A.deeper (envOfC qual (defScope st) s.heap.objs.size f cdv)) → sp vs H Q E →
      ∃ t, PSs (cxOf (L2.CX P w) P w K mg base N qual (defScope st) f cdv A outer s H E) (defBody st) t ∧ t { nx := fun _ H' => Q .non H', rt := Q } (start N vs) H) : Fn P w K mg base (k + 1) f sp := by
  obtain ⟨fd, F⟩ := D
  exact (FnOk.raw (F.ok S len hbody) (F.bindsN hb) (dvs := []) .nil).imp (fun vs H Q E h => by simpa using h)
theorem pe_gr {X : Cx} {x : Str} {a : Addr} {pos : Pos} (hm : X.mg x = some (.ref a)) (hg : Gl X x := by rfl) (hd : (x == ("__debug__" : Str)) = false := by decide) : PE X (.Name x pos) (tC (.ref a)) := pe_glob hg hm rfl hd
/-! ### further rules -/
theorem kp_of {x qual : Str} {st : Stmt} {f : Addr} {dvs : List V} (D : ∃ fd, FunD K x qual (defArgs st) (defBody st) (defScope st) dvs [] f fd) : PySem.W.keepIn K (.ref f) = true := by
  obtain ⟨fd, F⟩ := D
  exact F.kp
theorem pe_fn {X : Cx} {CX : CXT} {k : Nat} {f : Addr} {sp : Sp} {E : XK} {x x' qual : Str} {st : Stmt} {dvs : List V} {e : Expr} {es : List Expr} {t : TA} {p pos : Pos} (D : ∃ fd, FunD X.K x' qual (defArgs st) (defBody st) (defScope st) dvs [] f fd)
    (F : FnR X.prog X.w X.K X.mg X.base CX k f sp) (hr : Room k X.A) (hm : X.mg x = some (.ref f)) (hx : Passes CX X E) (ha : PA X (e :: es) t) (hg : Gl X x := by rfl) (hdb : (x == ("__debug__" : Str)) = false := by decide)
    (he : starEach (e :: es) X.env = (false, eval e X.env) :: starEach es X.env := by rfl) (hpl : (backTo pos (starEach es X.env)).any (·.1) = false := by rfl) :
    PE X (.Call (.Name x p) (e :: es) [] pos) (fun σ H Q => t σ H fun vs H1 => sp vs H1 Q E) := by
  refine ⟨fun pins s σ H Q I h => ?_⟩
  refine wpAny_Call_Name_kw (ld_glob I hg hm ?_ hdb)
  refine PySem.W.callWith_K (h₀ := X.base) I.ok.mod.kin (kp_of D) (thn (ha.run pos pins s σ H _ I h) fun us s1 ⟨vs, H1, I1, r, q⟩ => ⟨I1.kIn, ?_⟩) he hpl
  exact wpAny_call (run_fnR F hr hx I1 r q)
theorem pe_methR0 {X : Cx} {CX : CXT} {k : Nat} {C f : Addr} {m : Str} {sp : Sp} {E : XK} {o : Expr} {ta : TE} {apos pos : Pos} {pl : Sem Bool} (he : PE X o ta) (c : Cls X.K C) (hm : Meth X.K C m f)
    (F : FnR X.prog X.w X.K X.mg X.base CX k f sp) (hr : Room k X.A) (hx : Passes CX X E)
    (ht : eval (.Call (.Attribute o m apos) [] [] pos) X.env = (do
      let ov ← eval o X.env
      standAt apos.atName
      let (f, first) ← holding [ov] (getMethod ov m pl)
      callWith pos f first (backTo pos (starEach [] X.env)) (backToKw pos (keywordEach [] X.env))) := by rfl) :
    PE X (.Call (.Attribute o m apos) [] [] pos) (tMethR C m sp E ta tNil) := by
  refine ⟨fun pins s σ H Q I h => ?_⟩
  refine PySem.W.methodCall_KW (pl := pl) (thn (he.run pins s σ H _ I h) fun u s1 ⟨x, H1, I1, rx, a, dx, fs, ex, ea, l, q⟩ => ?_) ht
  subst ex
  obtain rfl : u = Value.ref a := rx
  refine getmeth_ok I1 ea c hm l ?_
  exact PySem.W.callWith_K0 (first := [.ref a]) I1.kIn hm.kp (wpAny_call (run_fnR (us := [.ref a]) (vs := [.ref a]) F hr hx I1 (.cons rfl .nil) q))
theorem pe_gi {X : Cx} {x : Str} {i : Int} {pos : Pos} (h : ∃ t, X.mg x = some (.int i t)) (hg : Gl X x := by rfl) (hd : (x == ("__debug__" : Str)) = false := by decide) : PE X (.Name x pos) (tC (.int i)) := by
  obtain ⟨t, hm⟩ := h
  exact pe_glob hg hm ⟨_, rfl⟩ hd
theorem pe_gs {X : Cx} {x z : Str} {pos : Pos} (h : ∃ t, X.mg x = some (.str z t)) (hg : Gl X x := by rfl) (hd : (x == ("__debug__" : Str)) = false := by decide) : PE X (.Name x pos) (tC (.str z)) := by
  obtain ⟨t, hm⟩ := h
  exact pe_glob hg hm ⟨_, rfl⟩ hd
theorem run_makeR0 {X : Cx} {CX : CXT} {k : Nat} {f C : Addr} {sp : Sp} {E : XK} {pins : List (Addr × Obj)} {σ : L2.St} {H : Hp} {s : Shared} {Q : VK} (M : Mk X.K C f) (F : FnR X.prog X.w X.K X.mg X.base CX k f sp) (hr : Room (k + 1) X.A) (hx : Passes CX X E) (I : Inv X pins σ H s)
    (h : ∀ x dx, H x = Option.none → H dx = Option.none → dx ≠ x → sp [V.ref x] (upd (upd H dx (.own x)) x (.ins C dx [])) (fun v H2 => v = .non ∧ Q (.ref x) H2) E) :
    wpAny (model X.prog X.w) X.A (call (.ref C) []) (EP X pins σ Q) X.xe s := StX.run_makeR M F hr hx I .nil h
end
/-! ### calls in a try: what is let out is wished for at the slots -/
section
variable {X : Cx} {CX : CXT} {k : Nat} {f C : Addr} {sp : Sp} {E : L2.St → XK} {x : Str} {e : Expr} {es : List Expr} {t : TA} {p pos : Pos}
theorem run_makeRS {pins : List (Addr × Obj)} {σ : L2.St} {H : Hp} {s : Shared} {Q : VK} {us : List Value} {vs : List V} {E : XK} (M : Mk X.K C f) (F : FnR X.prog X.w X.K X.mg X.base CX k f sp) (hr : Room (k + 1) X.A) (hx : PassesAt CX X σ E) (I : Inv X pins σ H s) (r : Vals vs us)
    (h : ∀ x dx, H x = Option.none → H dx = Option.none → dx ≠ x → sp (V.ref x :: vs) (upd (upd H dx (.own x)) x (.ins C dx [])) (fun v H2 => v = .non ∧ Q (.ref x) H2) E) :
    wpAny (model X.prog X.w) X.A (call (.ref C) us) (EP X pins σ Q) X.xe s := by
  have hq := h (s.heap.objs.size + 1) s.heap.objs.size (I.hok.fresh (Nat.le_succ _)) (I.hok.fresh (Nat.le_refl _)) (Nat.ne_of_lt (Nat.lt_succ_self _))
  have I2 := Inv.made (C := C) I
  have r2 : Vals (V.ref (s.heap.objs.size + 1) :: vs) (Value.ref (s.heap.objs.size + 1) :: us) := .cons rfl r
  refine wpAny_call (make_map (f := f) I.kIn M.makes M.init (beq_iff_eq.mp M.fn) (codeAny_mono (F _ X.stack _ _ (Value.ref (s.heap.objs.size + 1) :: us) _ _ E (hr.make C us []) (I2.env0.make C us []) r2 hq) fun r s' hq' => ?_))
  cases r with
  | error e => exact hx pins _ _ e s' I2 hq'
  | ok fl =>
    cases fl with
    | ret u =>
      obtain ⟨v, H', I3, rv, ev, q3⟩ := I2.after hq'
      subst ev
      exact ⟨rv, ⟨V.ref (s.heap.objs.size + 1), H', I3, rfl, q3⟩⟩
    | next => exact False.elim hq'
    | brk => exact False.elim hq'
    | cont => exact False.elim hq'
def tMakeRS (C : Addr) (sp : Sp) (E : L2.St → XK) (t : TA) : TE := fun σ H Q => StX.tMakeR C sp (E σ) t σ H Q
theorem pe_makeRS (M : Mk X.K C f) (F : FnR X.prog X.w X.K X.mg X.base CX k f sp) (hr : Room (k + 1) X.A) (hg : Gl X x) (hm : X.mg x = some (.ref C)) (hx : ∀ σ, PassesAt CX X σ (E σ)) (ha : PA X (e :: es) t) (hdb : (x == ("__debug__" : Str)) = false := by decide)
    (he : starEach (e :: es) X.env = (false, eval e X.env) :: starEach es X.env := by rfl) (hpl : (backTo pos (starEach es X.env)).any (·.1) = false := by rfl) : PE X (.Call (.Name x p) (e :: es) [] pos) (tMakeRS C sp E t) := by
  refine ⟨fun pins s σ H Q I h => ?_⟩
  refine wpAny_Call_Name_kw (ld_glob I hg hm ?_ hdb)
  refine PySem.W.callWith_K (h₀ := X.base) I.ok.mod.kin M.kp (thn (ha.run pos pins s σ H _ I h) fun us s1 ⟨vs, H1, I1, r, q⟩ => ⟨I1.kIn, ?_⟩) he hpl
  exact run_makeRS M F hr (hx σ) I1 r q
theorem run_fnRS {pins : List (Addr × Obj)} {σ : L2.St} {H : Hp} {s : Shared} {E : XK} {Q : VK} {us : List Value} {vs : List V} (F : FnR X.prog X.w X.K X.mg X.base CX k f sp) (hr : Room k X.A) (hx : PassesAt CX X σ E) (I : Inv X pins σ H s) (r : Vals vs us) (h : sp vs H Q E) :
    codeAny (model X.prog X.w) X.A (.call (.ref f) ⟨us, []⟩) (fun r s' => match r with | .ok (.ret v) => EP X pins σ Q v s' | .ok _ => False | .error e => X.xe e s') s := by
  refine codeAny_mono (F X.A X.stack s H us vs Q E hr I.env0 r h) fun r s' hq => ?_
  cases r with
  | error e => exact hx pins H s e s' I hq
  | ok fl =>
    cases fl with
    | ret u => exact I.after hq
    | next => exact hq.elim
    | brk => exact hq.elim
    | cont => exact hq.elim
def tMethRS (C : Addr) (m : Str) (sp : Sp) (E : L2.St → XK) (ta : TE) (t : TA) : TE := fun σ H Q => tMethR C m sp (E σ) ta t σ H Q
theorem pe_methRS {m : Str} {o : Expr} {ta : TE} {apos : Pos} {pl : Sem Bool} (he : PE X o ta) (c : Cls X.K C) (hm : Meth X.K C m f)
    (F : FnR X.prog X.w X.K X.mg X.base CX k f sp) (hr : Room k X.A) (hx : ∀ σ, PassesAt CX X σ (E σ)) (ha : PA X (e :: es) t)
    (hst : starEach (e :: es) X.env = (false, eval e X.env) :: starEach es X.env := by rfl) (hpl : (backTo pos (starEach es X.env)).any (·.1) = false := by rfl)
    (ht : eval (.Call (.Attribute o m apos) (e :: es) [] pos) X.env = (do
      let ov ← eval o X.env
      standAt apos.atName
      let (f, first) ← holding [ov] (getMethod ov m pl)
      callWith pos f first (backTo pos (starEach (e :: es) X.env)) (backToKw pos (keywordEach [] X.env))) := by rfl) :
    PE X (.Call (.Attribute o m apos) (e :: es) [] pos) (tMethRS C m sp E ta t) := by
  refine ⟨fun pins s σ H Q I h => ?_⟩
  refine PySem.W.methodCall_KW (pl := pl) (thn (he.run pins s σ H _ I h) fun u s1 ⟨x, H1, I1, rx, a, dx, fs, ex, ea, l, q⟩ => ?_) ht
  subst ex
  obtain rfl : u = Value.ref a := rx
  refine getmeth_ok I1 ea c hm l ?_
  refine PySem.W.callWith_K (first := [.ref a]) (h₀ := X.base) I.ok.mod.kin hm.kp (thn (ha.run pos pins s1 σ H1 _ I1 q) fun us s2 ⟨vs, H2, I2, r, q2⟩ => ⟨I2.kIn, ?_⟩) hst hpl
  exact wpAny_call (run_fnRS (us := .ref a :: us) (vs := .ref a :: vs) F hr (hx σ) I2 (.cons rfl r) q2)
/-! ### the same rules with the written part by name (in a try) -/
theorem ixk_tup {X : Cx} (K : PySem.W.Frag) (h : X.K = K := by rfl) : IxR X (rIxT K) := by subst h; exact ix_tup
theorem ixk_list {X : Cx} (K : PySem.W.Frag) (h : X.K = K := by rfl) : IxR X (rIxL K) := by subst h; exact ix_list
theorem callk_isi {X : Cx} (K : PySem.W.Frag) (h : X.K = K := by rfl) : CallR X (.builtin "isinstance") (rIsi K) := by subst h; exact call_isi
theorem pek_fld {X : Cx} (K : PySem.W.Frag) {e : Expr} {ta : TE} {f : Str} {pos : Pos} (ha : PE X e ta) (hb : attributeBase e f X.env (eval e X.env) = eval e X.env) (h : X.K = K := by rfl) : PE X (.Attribute e f pos) (tFld K ta f) := by subst h; exact pe_fld ha hb
/-- a suite that is read under a condition -/
theorem pss_given {p : Prop} {st : List Stmt} {t : TS} (h : p → PSs X st t) : PSs X st (fun D σ H => p ∧ t D σ H) := ⟨fun pins s σ H D I hw => (h hw.1).run pins s σ H D I hw.2⟩
/-- isinstance(e, (c1, ..)), e the exception that the suite holds -/
def rIsET (K : PySem.W.Frag) (D a : Addr) : List V → Hp → VK → Prop := fun xs H Q => ∃ (tp : Addr) (cs : List V) (us : List Value) (b : Bool), xs = [.ref a, .ref tp] ∧ H tp = some (.tup cs) ∧ Paired ClsV cs us ∧ PySem.W.kitAny K (.ref D) us = some b ∧ Q (.bl b) H
theorem call_isET {a D : Addr} {oe : Obj} {pn : List (Addr × Obj)} (C : ExcC X.K D) (hz : Zc (.ref D) none oe) (hf : ∃ vs, oe.data = .fields vs) : CallR (X.suite a ((a, oe) :: pn)) (.builtin "isinstance") (rIsET X.K D a) := by
  intro pins s σ H xs us Q I r h
  obtain ⟨tp, cs, ws, b, rfl, hT, k, e, q⟩ := h
  obtain ⟨u1, u2, rfl, r1, r2⟩ := vals2 r
  cases (show u1 = Value.ref a from r1)
  cases (show u2 = Value.ref tp from r2)
  obtain ⟨_, its, rv, o, h1, h2, n, h3⟩ := (show ObjOk X.prog X.w H s.heap tp (.tup cs) from I.hok tp _ hT)
  have e3 := ClsV.all k rv
  subst e3
  obtain ⟨oc, od, dt, sl⟩ := o
  simp only at h2 h3
  subst h2 h3
  obtain ⟨hget, _⟩ := I.pin (a, oe) (List.mem_append.mpr (.inl List.mem_cons_self))
  obtain ⟨vs, hv⟩ := hf
  have J : PySem.W.InstAt s.heap a oe D none := by
    obtain ⟨oc, od, oda, osl⟩ := oe
    obtain ⟨h1, h2⟩ := hz
    dsimp only at h1 h2 hv
    subst h1 h2 hv
    exact ⟨hget, rfl, rfl, trivial⟩
  exact PySem.W.kia_tup (PySem.W.handS_kitx_exc C.hg C.hk C.hs C.hd C.ha C.hn C.ht C.hm) I.kIn J h1 e (fun z => nomatch z) fun tk => ⟨.bl b, H, I.kept (t' := tk) fun _ _ z => z, rfl, q⟩
theorem callk_isE (K : PySem.W.Frag) {a D : Addr} {oe : Obj} {pn : List (Addr × Obj)} (C : ExcC K D) (hz : Zc (.ref D) none oe) (hf : ∃ vs, oe.data = .fields vs) (h : X.K = K := by rfl) : CallR (X.suite a ((a, oe) :: pn)) (.builtin "isinstance") (rIsE K D a) := by subst h; exact call_isE C hz hf
theorem callk_isET (K : PySem.W.Frag) {a D : Addr} {oe : Obj} {pn : List (Addr × Obj)} (C : ExcC K D) (hz : Zc (.ref D) none oe) (hf : ∃ vs, oe.data = .fields vs) (h : X.K = K := by rfl) : CallR (X.suite a ((a, oe) :: pn)) (.builtin "isinstance") (rIsET K D a) := by subst h; exact call_isET C hz hf
end
end LL
namespace LL
open PySem PySem.Spec PyProof.Rows L2 He Evl
/-! ### the law's pool of draws -/
structure Pl where
  cells : List Int
  at_ : Addr
  ix : Nat
  big : Int
  st : Int
  run : Int
  bud : Int
def Pl.l (P : Pl) : List V := [.ref P.at_, .int P.ix, .int P.big, .int P.st, .int P.run, .int P.bud]
/-- the pool P stands at p -/
structure PoolAt (H : Hp) (p : Addr) (P : Pl) : Prop where
  l : H p = some (.lst P.l)
  c : H P.at_ = some (.lst (P.cells.map V.int))
  n : P.cells.length ≤ 63
theorem PoolAt.ne {H : Hp} {p : Addr} {P : Pl} (h : PoolAt H p P) : P.at_ ≠ p := by
  intro e
  have h1 := h.c
  rw [e, h.l] at h1
  simp only [Option.some.injEq, HO.lst.injEq, Pl.l] at h1
  cases hc : P.cells with
  | nil => rw [hc] at h1; simp at h1
  | cons a r => rw [hc] at h1; simp at h1
/-- all but what stands at p is as it was -/
def But (p : Addr) (H H' : Hp) : Prop := ∀ b o, b ≠ p → H b = some o → H' b = some o
theorem But.refl {p : Addr} (H : Hp) : But p H H := fun _ _ _ h => h
theorem But.trans {p : Addr} {H H1 H2 : Hp} (a : But p H H1) (b : But p H1 H2) : But p H H2 := fun c o n h => b c o n (a c o n h)
theorem But.same {p : Addr} {H H' : Hp} (e : Same H H') : But p H H' := fun b o _ h => e b o h
theorem But.upd {p : Addr} {H : Hp} {o : HO} : But p H (upd H p o) := fun b _ n h => (upd_ne n).trans h
theorem But.put {p : Addr} {H H' : Hp} {o : HO} (h : But p H H') : But p H (L2.upd H' p o) := h.trans .upd
theorem PoolAt.put {H : Hp} {p : Addr} {P P' : Pl} (h : PoolAt H p P) (e : P'.at_ = P.at_ ∧ P'.cells = P.cells) : PoolAt (upd H p (.lst P'.l)) p P' :=
  ⟨upd_same, by rw [e.1, e.2, upd_ne h.ne]; exact h.c, by rw [e.2]; exact h.n⟩
theorem PoolAt.mono {H H' : Hp} {p : Addr} {P : Pl} (e : Same H H') (h : PoolAt H p P) : PoolAt H' p P := ⟨e _ _ h.l, e _ _ h.c, h.n⟩
def spPool (K : PySem.W.Frag) : Sp := fun vs H Q _ => ∃ (a : Addr) (ns : List Int) (b : Int), vs = [.ref a, .int b] ∧ SqL K H a (ns.map V.int) ∧ ns.length ≤ 63 ∧ ∀ p H' P, Same H H' → H p = none → H P.at_ = none → PoolAt H' p P → P.bud = b → Q (.ref p) H'
/-- _law_draw(pool, n): some number from 0 to n - 1, the pool changed -/
def spDraw : Sp := fun vs H Q _ => ∃ (p : Addr) (n : Int) (P : Pl), vs = [.ref p, .int n] ∧ PoolAt H p P ∧ 0 < n ∧ n < 1073741824 ∧
  ∀ (r : Int) (P' : Pl), 0 ≤ r → r < n → P'.at_ = P.at_ → P'.cells = P.cells → P'.bud = P.bud → Q (.int r) (upd H p (.lst P'.l))
section
variable {P : Program} {w : World} {K : PySem.W.Frag} {mg : Str → Option Value} {base : Heap}
theorem fn_l_pool (T : Txt K mg) : Fn P w K mg base 1 (ga K "_law_pool") (spPool K) := by
  refine fn_def T.d_l_pool sc_l_pool (fun _ _ _ _ _ _ us hl => match us, hl with | [_, _], _ => rfl) (fun vs H Q E h => ?_) (fun cdv A outer s H vs Q E hr h => ?_)
  · obtain ⟨a, ns, b, rfl, _⟩ := h
    rfl
  · obtain ⟨a, ns, b, rfl, hS, hz, k⟩ := h
    refine ⟨_, pss_one (ps_ret (pe_lst (pa_cons (pe_callTy call_list_of (by rfl) T.f_list (by decide +kernel) (pa_cons (pv 0) pa_nil)) (pa_cons (pe_int) (pa_cons (pe_int) (pa_cons (pe_int) (pa_cons (pe_int) (pa_cons (pv 1) pa_nil)))))))), ?_⟩
    refine ⟨_, rfl, a, _, rfl, .inl hS, fun c nc => ?_⟩
    refine ⟨_, rfl, (by show 6 ≤ sizeLine; decide), fun p np => ?_⟩
    have ncp : c ≠ p := ne_of_none upd_same np
    have np0 : H p = none := by rw [upd_ne ncp.symm] at np; exact np
    refine k p _ ⟨ns, c, 0, 0, 1, 0, b⟩ (fun x o e => ?_) np0 nc ⟨upd_same, (upd_ne ncp).trans upd_same, hz⟩ rfl
    rw [upd_ne (ne_of_none e np0), upd_ne (ne_of_none e nc)]
    exact e
theorem w_ix {σ : L2.St} {H : Hp} {Q : VK} {i : Nat} {p : Addr} {xs : List V} {k : Int} {v : V} (hp : H p = some (.lst xs)) (ha : atI xs k = some v) (q : Q v H) (hs : σ[i]? = some (some (.ref p)) := by rfl) : tOp (rIxL K) (tVar i) (tC (.int k)) σ H Q :=
  ⟨_, hs, p, xs, k, v, rfl, rfl, SqL.of hp, ha, q⟩
theorem fn_l_draw (T : Txt K mg) : Fn P w K mg base 1 (ga K "_law_draw") (spDraw) := by
  refine fn_def T.d_l_draw sc_l_draw (fun _ _ _ _ _ _ us hl => match us, hl with | [_, _], _ => rfl) (fun vs H Q E h => ?_) (fun cdv A outer s H vs Q E hr h => ?_)
  · obtain ⟨a, ns, b, rfl, _⟩ := h
    rfl
  · obtain ⟨p, n, ⟨cells, at_, ix, big, st, run, bud⟩, rfl, hP, h0, h1, k⟩ := h
    have nd := sc_l_draw.nd
    refine ⟨_, Evl.pss_cut (ps_if (PW.pt (pw_and (pt_cmpR op_le (pe_ix ix_list (pv 0) (pe_int) (fun _ _ => rfl)) (pe_int) (nomark _)) (pw_and (pt_cmpR op_le (pe_ix ix_list (pv 0) (pe_int) (fun _ _ => rfl)) (pe_int) (nomark _)) (pw_and1 (pt_cmpR op_lt (pe_ix ix_list (pv 0) (pe_int) (fun _ _ => rfl)) (pe_callB call_len_seq (by rfl) T.f_len PySem.boot_len (pa_cons (pe_ix ix_list (pv 0) (pe_int) (fun _ _ => rfl)) pa_nil)) (nomark _)))))) (pss_cons (ps_set (i := 2) nd rfl (by first | exact Or.inl rfl | exact Or.inr rfl) (pe_ix ix_list (pe_ix ix_list (pv 0) (pe_int) (fun _ _ => rfl)) (pe_ix ix_list (pv 0) (pe_int) (fun _ _ => rfl)) (fun _ _ => rfl)))
      (pss_cons (ps_asg (pe_op op_add (pe_ix ix_list (pv 0) (pe_int) (fun _ _ => rfl)) (pe_int)) (pg_sub (pv 0) (pe_int) set_list))
      (pss_cons (ps_asg (pe_op op_mod (pe_callTy call_int1 (by rfl) T.f_int (by decide +kernel) (pa_cons (pe_op op_add (pe_op op_mul (pe_ix ix_list (pv 0) (pe_int) (fun _ _ => rfl)) (pe_int)) (pv 2)) pa_nil)) (pe_int)) (pg_sub (pv 0) (pe_int) set_list))
      (pss_cons (ps_asg (pe_int) (pg_sub (pv 0) (pe_int) set_list))
      (pss_one (ps_if (pt_cmpR op_ge (pv 2) (pe_op op_pow (pe_int) (pe_int)) (nomark _)) (pss_one (ps_asg (pv 2) (pg_sub (pv 0) (pe_int) set_list))) (pss_nil))))))) (pss_nil))
      (pss_cons (ps_if (pt_cmpR op_gt (pe_ix ix_list (pv 0) (pe_int) (fun _ _ => rfl)) (pe_int) (nomark _)) (pss_cons (ps_set (i := 3) nd rfl (by first | exact Or.inl rfl | exact Or.inr rfl) (pe_op op_mod (pe_callTy call_int1 (by rfl) T.f_int (by decide +kernel) (pa_cons (pe_ix ix_list (pv 0) (pe_int) (fun _ _ => rfl)) pa_nil)) (pv 1)))
      (pss_cons (ps_asg (pe_op op_fdiv (pe_ix ix_list (pv 0) (pe_int) (fun _ _ => rfl)) (pv 1)) (pg_sub (pv 0) (pe_int) set_list))
      (pss_cons (ps_asg (pe_int) (pg_sub (pv 0) (pe_int) set_list))
      (pss_one (ps_ret (pv 3)))))) (pss_nil))
      (pss_cons (ps_asg (pe_op op_sub (pe_ix ix_list (pv 0) (pe_int) (fun _ _ => rfl)) (pe_int)) (pg_sub (pv 0) (pe_int) set_list))
      (pss_cons (ps_asg (pe_op op_mod (pe_callTy call_int1 (by rfl) T.f_int (by decide +kernel) (pa_cons (pe_op op_add (pe_op op_mul (pe_ix ix_list (pv 0) (pe_int) (fun _ _ => rfl)) (pe_int)) (pe_int)) pa_nil)) (pe_int)) (pg_sub (pv 0) (pe_int) set_list))
      (pss_one (ps_ret (pe_op op_mod (pe_op op_mod (pe_callTy call_int1 (by rfl) T.f_int (by decide +kernel) (pa_cons (pe_op op_add (pe_op op_mul (pe_ix ix_list (pv 0) (pe_int) (fun _ _ => rfl)) (pe_int)) (pe_int)) pa_nil)) (pe_int)) (pv 1))))))), ?_⟩
    have hl : H p = some (.lst [.ref at_, .int ix, .int big, .int st, .int run, .int bud]) := hP.l
    have hc : H at_ = some (.lst (cells.map V.int)) := hP.c
    have nac : at_ ≠ p := hP.ne
    refine ⟨fun σ H' => ∃ (P' : Pl) (v : Option V), σ = [some (.ref p), some (.int n), v, none] ∧ H' = upd H p (.lst P'.l) ∧ P'.at_ = at_ ∧ P'.cells = cells ∧ P'.bud = bud, ?_, ?_⟩
    · have no : ∃ (P' : Pl) (v : Option V), L2.start n_l_draw [V.ref p, V.int n] = [some (.ref p), some (.int n), v, none] ∧ H = upd H p (.lst (Pl.l P')) ∧ P'.at_ = at_ ∧ P'.cells = cells ∧ P'.bud = bud := by
        refine ⟨⟨cells, at_, ix, big, st, run, bud⟩, none, rfl, ?_, rfl, rfl, rfl⟩
        funext b
        by_cases e : b = p
        · subst e; rw [upd_same]; exact hl
        · rw [upd_ne e]
      refine ⟨_, rfl, p, _, _, _, rfl, rfl, SqL.of hl, rfl, _, _, rfl, rfl, _, rfl, ite2 (fun c1 => ?_) fun c1 => iteF no⟩
      refine ⟨_, rfl, p, _, _, _, rfl, rfl, SqL.of hl, rfl, _, _, rfl, rfl, _, rfl, ite2 (fun c2 => ?_) fun c2 => iteF no⟩
      refine ⟨_, rfl, p, _, _, _, rfl, rfl, SqL.of hl, rfl, _, rfl, p, _, _, _, rfl, rfl, SqL.of hl, rfl, at_, _, rfl, .inl (SqL.of hc), _, _, rfl, rfl, _, rfl, ite2 (fun c3 => ?_) fun c3 => no⟩
      have c3' : ix < cells.length := by
        have := of_decide_eq_true c3
        rw [List.length_map] at this
        omega
      have hx : atI (cells.map V.int) (ix : Int) = some (V.int cells[ix]) := at_of (j := ix) rfl (by rw [List.getElem?_map, List.getElem?_eq_getElem c3']; rfl)
      refine ⟨_, rfl, p, _, _, _, rfl, rfl, SqL.of hl, rfl, _, rfl, p, _, _, _, rfl, rfl, SqL.of hl, rfl, at_, _, _, _, rfl, rfl, SqL.of hc, hx, ?_⟩
      refine ⟨_, rfl, p, _, _, _, rfl, rfl, SqL.of hl, rfl, _, _, rfl, rfl, _, rfl, p, _, _, _, rfl, rfl, hl, rfl, ?_⟩
      refine ⟨_, rfl, p, _, _, _, rfl, rfl, SqL.of upd_same, rfl, _, _, rfl, rfl, .inr ⟨by decide, by decide⟩, _, rfl, _, _, rfl, rfl, .inl ⟨_, rfl, _, _, rfl, rfl, (by show (0 : Int) < 2147483647; decide), _, rfl, p, _, _, _, rfl, rfl, upd_same, rfl, ?_⟩⟩
      refine ⟨_, rfl, p, _, _, _, rfl, rfl, upd_same, rfl, ?_⟩
      refine ⟨_, rfl, _, _, rfl, rfl, ⟨by decide, by decide, by decide⟩, _, _, rfl, rfl, _, rfl, ite2 (fun c4 => ?_) fun c4 => ?_⟩
      · refine ⟨_, rfl, _, rfl, p, _, _, _, rfl, rfl, upd_same, rfl, ?_⟩
        refine ⟨⟨cells, at_, ix + 1, cells[ix], (st * 31 + cells[ix]) % 2147483647, 7, bud⟩, _, rfl, ?_, rfl, rfl, rfl⟩
        rw [upd_upd, upd_upd, upd_upd]
        rfl
      · refine ⟨⟨cells, at_, ix + 1, big, (st * 31 + cells[ix]) % 2147483647, 7, bud⟩, _, rfl, ?_, rfl, rfl, rfl⟩
        rw [upd_upd, upd_upd]
        rfl
    · rintro σ H' ⟨⟨cells', at', ix', big', st', run', bud'⟩, v, rfl, rfl, e1, e2, e3⟩
      dsimp only at e1 e2 e3
      subst e1 e2 e3
      refine ⟨_, rfl, p, _, _, _, rfl, rfl, SqL.of upd_same, rfl, _, _, rfl, rfl, _, rfl, ite2 (fun c5 => ?_) fun c5 => ?_⟩
      · refine ⟨_, rfl, p, _, _, _, rfl, rfl, SqL.of upd_same, rfl, .inl ⟨_, rfl, _, rfl, _, _, rfl, rfl, h0, ?_⟩⟩
        refine ⟨_, rfl, p, _, _, _, rfl, rfl, SqL.of upd_same, rfl, _, rfl, _, _, rfl, rfl, ⟨h0, h1⟩, _, rfl, p, _, _, _, rfl, rfl, upd_same, rfl, ?_⟩
        refine ⟨_, rfl, p, _, _, _, rfl, rfl, upd_same, rfl, _, rfl, ?_⟩
        rw [upd_upd, upd_upd]
        exact k (big' % n) ⟨cells', at', ix', big' / n, st', 0, bud'⟩ (Int.emod_nonneg _ (by omega)) (Int.emod_lt_of_pos _ h0) rfl rfl rfl
      · refine ⟨_, rfl, p, _, _, _, rfl, rfl, SqL.of upd_same, rfl, _, _, rfl, rfl, _, rfl, p, _, _, _, rfl, rfl, upd_same, rfl, ?_⟩
        refine ⟨_, rfl, p, _, _, _, rfl, rfl, SqL.of upd_same, rfl, _, _, rfl, rfl, .inr ⟨by decide, by decide⟩, _, _, rfl, rfl, .inl ⟨_, rfl, _, _, rfl, rfl, (by show (0 : Int) < 2147483647; decide), _, rfl, p, _, _, _, rfl, rfl, upd_same, rfl, ?_⟩⟩
        refine ⟨_, rfl, p, _, _, _, rfl, rfl, SqL.of upd_same, rfl, _, _, rfl, rfl, .inr ⟨by decide, by decide⟩, _, _, rfl, rfl, .inl ⟨_, rfl, _, _, rfl, rfl, (by show (0 : Int) < 2147483647; decide), _, rfl, _, _, rfl, rfl, h0, ?_⟩⟩
        rw [upd_upd, upd_upd]
        exact k _ ⟨cells', at', ix', big', (st' * 48271 + 12345) % 2147483647, run' - 1, bud'⟩ (Int.emod_nonneg _ (by omega)) (Int.emod_lt_of_pos _ h0) rfl rfl rfl
theorem PoolAt.step {H : Hp} {p : Addr} {P P' : Pl} (h : PoolAt H p P) (e1 : P'.at_ = P.at_) (e2 : P'.cells = P.cells) : PoolAt (upd H p (.lst P'.l)) p P' ∧ But p H (upd H p (.lst P'.l)) := ⟨h.put ⟨e1, e2⟩, .upd⟩
theorem at3 {a b c : V} {r : Int} (h0 : 0 ≤ r) (h1 : r < 3) : ∃ v, atI [a, b, c] r = some v ∧ (v = a ∨ v = b ∨ v = c) := by
  rcases (show r = 0 ∨ r = 1 ∨ r = 2 by omega) with rfl | rfl | rfl
  · exact ⟨_, rfl, .inl rfl⟩
  · exact ⟨_, rfl, .inr (.inl rfl)⟩
  · exact ⟨_, rfl, .inr (.inr rfl)⟩
theorem at2 {a b : V} {r : Int} (h0 : 0 ≤ r) (h1 : r < 2) : ∃ v, atI [a, b] r = some v ∧ (v = a ∨ v = b) := by
  rcases (show r = 0 ∨ r = 1 by omega) with rfl | rfl
  · exact ⟨_, rfl, .inl rfl⟩
  · exact ⟨_, rfl, .inr rfl⟩
end
section
variable {P : Program} {w : World} {K : PySem.W.Frag} {mg : Str → Option Value} {base : Heap}
/-! ### data and their kinds -/
def Dep : Nat → PyData → Prop
  | 0, .list _ => False
  | 0, .tuple _ => False
  | n + 1, .list ds => ds.length ≤ 100000 ∧ ∀ d ∈ ds, Dep n d
  | n + 1, .tuple ds => ds.length ≤ 100000 ∧ ∀ d ∈ ds, Dep n d
  | _, .dict _ => False
  | _, _ => True
def tyN : PyData → String
  | .none => "NoneType" | .bool _ => "bool" | .int _ => "int" | .str _ => "str" | .list _ => "list" | .tuple _ => "tuple" | .dict _ => "dict"
def isTup : PyData → Bool | .tuple _ => true | _ => false
def isLst : PyData → Bool | .list _ => true | _ => false
def isBoo : PyData → Bool | .bool _ => true | _ => false
def isInt : PyData → Bool | .bool _ => true | .int _ => true | _ => false
def isStr : PyData → Bool | .str _ => true | _ => false
theorem ty_dp {H : Hp} {v : V} {d : PyData} (h : Dp K H v d) : TyX K H v (.type (tyN d)) := by
  cases h with
  | non => exact .base .non
  | bl b => exact .base (.bl b)
  | int i => exact .base (.int i)
  | str x => exact .base (.str x)
  | lst hs _ =>
    rcases hs with (h | ⟨o, h⟩) | ⟨o, its, n, h, c, _⟩
    · exact .base (.lst h)
    · exact .base (.frz h)
    · exact .kList h c
  | tup hs _ =>
    rcases hs with (h | ⟨o, h⟩) | ⟨o, its, n, h, c, _⟩
    · exact .base (.tup h)
    · exact .fTuple h
    · exact .kTuple h c
theorem kit_tup (d : PyData) : PySem.W.kitOne K (.type (tyN d)) (.type "tuple") = some (isTup d) := by cases d <;> (simp only [tyN, isTup, isLst, isBoo, isInt, isStr]; exact kit_ty (by decide +kernel))
theorem kit_lst (d : PyData) : PySem.W.kitOne K (.type (tyN d)) (.type "list") = some (isLst d) := by cases d <;> (simp only [tyN, isTup, isLst, isBoo, isInt, isStr]; exact kit_ty (by decide +kernel))
theorem kit_boo (d : PyData) : PySem.W.kitOne K (.type (tyN d)) (.type "bool") = some (isBoo d) := by cases d <;> (simp only [tyN, isTup, isLst, isBoo, isInt, isStr]; exact kit_ty (by decide +kernel))
theorem kit_int (d : PyData) : PySem.W.kitOne K (.type (tyN d)) (.type "int") = some (isInt d) := by cases d <;> (simp only [tyN, isTup, isLst, isBoo, isInt, isStr]; exact kit_ty (by decide +kernel))
theorem kit_str (d : PyData) : PySem.W.kitOne K (.type (tyN d)) (.type "str") = some (isStr d) := by cases d <;> (simp only [tyN, isTup, isLst, isBoo, isInt, isStr]; exact kit_ty (by decide +kernel))
theorem dp_all_len {H : Hp} : ∀ {xs : List V} {ds : List PyData}, DpAll K H xs ds → xs.length = ds.length
  | _, _, .nil => rfl
  | _, _, .cons _ t => congrArg (· + 1) (dp_all_len t)
theorem dp_all_get {H : Hp} : ∀ {xs : List V} {ds : List PyData} {i : Nat}, DpAll K H xs ds → i < xs.length → ∃ x d, xs[i]? = some x ∧ ds[i]? = some d ∧ Dp K H x d
  | _, _, 0, .cons h _, _ => ⟨_, _, rfl, rfl, h⟩
  | _, _, i + 1, .cons _ t, l => dp_all_get (i := i) t (by simpa using l)
  | _, _, _, .nil, l => by simp at l
def isNon : PyData → Bool | .none => true | _ => false
theorem dp_non {H : Hp} {v : V} {d : PyData} (h : Dp K H v d) : decide (v = .non) = isNon d := by
  cases h <;> simp [isNon]
mutual
theorem dp_mono {H H' : Hp} (e : Ex H H') : ∀ {v : V} {d : PyData}, Dp K H v d → Dp K H' v d
  | _, _, .non => .non
  | _, _, .bl b => .bl b
  | _, _, .int i => .int i
  | _, _, .str x => .str x
  | _, _, .lst h a => .lst (ex_l e h) (dpa_mono e a)
  | _, _, .tup h a => .tup (ex_t e h) (dpa_mono e a)
theorem dpa_mono {H H' : Hp} (e : Ex H H') : ∀ {vs : List V} {ds : List PyData}, DpAll K H vs ds → DpAll K H' vs ds
  | _, _, .nil => .nil
  | _, _, .cons h a => .cons (dp_mono e h) (dpa_mono e a)
end
theorem ev_isi {σ : L2.St} {H : Hp} {ta : TE} {x : V} {d : PyData} {n : String} {b : Bool} (ha : Ev ta σ H x) (hd : Dp K H x d) (hk : PySem.W.kitOne K (.type (tyN d)) (.type n) = some b) : Ev (tCB (rIsi K) (tCons ta (tCons (tC (.ty n)) tNil))) σ H (.bl b) :=
  fun H1 e Q q => ha H1 e _ fun H2 e2 => ⟨_, _, _, _, b, rfl, ClsV.ty _, ty_dp (dp_mono (e.trans e2) hd), hk, q H2 e2⟩
theorem ev_isN {σ : L2.St} {H : Hp} {ta : TE} {x : V} {d : PyData} (ha : Ev ta σ H x) (hd : Dp K H x d) : Ev (tOp (fun x y H Q => y = .non ∧ Q (.bl (decide (x = .non))) H) ta (tC .non)) σ H (.bl (isNon d)) :=
  fun H1 e Q q => ha H1 e _ fun H2 e2 => ⟨rfl, by rw [dp_non hd]; exact q H2 e2⟩
theorem ev_eqD {σ : L2.St} {H : Hp} {ta tb : TE} {x y : V} {d f : PyData} (ha : Ev ta σ H x) (hb : Ev tb σ H y) (hd : Dp K H x d) (hf : Dp K H y f) (s1 : SeqAt.shaped d = true) (s2 : SeqAt.shaped f = true) : Ev (tOp (rEqD K) ta tb) σ H (.bl (PyData.eqv d f)) :=
  fun H1 e Q q => ha H1 e _ fun H2 e2 => hb H2 (e.trans e2) _ fun H3 e3 => ⟨d, f, dp_mono ((e.trans e2).trans e3) hd, dp_mono ((e.trans e2).trans e3) hf, s1, s2, q H3 (e2.trans e3)⟩
theorem ev_lenS {σ : L2.St} {H : Hp} {ta : TE} {a : Addr} {xs : List V} (ha : Ev ta σ H (.ref a)) (h : SqL K H a xs ∨ SqT K H a xs) : Ev (tCB (rLenS K) (tCons ta tNil)) σ H (.int (xs.length : Int)) :=
  fun H1 e Q q => ha H1 e _ fun H2 e2 => ⟨_, xs, rfl, h.imp (ex_l (e.trans e2)) (ex_t (e.trans e2)), q H2 e2⟩
open Classical in
noncomputable def same (d e : PyData) : Bool := decide (d = e)
theorem same_t {d e : PyData} (h : d = e) : same d e = true := by simp [same, h]
theorem same_f {d e : PyData} (h : d ≠ e) : same d e = false := by simp [same, h]
theorem same_of {d e : PyData} {b : Bool} (h : b = true ↔ d = e) : b = same d e := by
  cases b with
  | true => exact (same_t (h.mp rfl)).symm
  | false => exact (same_f fun z => by simpa using h.mpr z).symm
def spSame (K : PySem.W.Frag) (n : Nat) : Sp := fun vs H Q _ => ∃ (x y : V) (d e : PyData), vs = [x, y] ∧ Dp K H x d ∧ Dp K H y e ∧ Dep n e ∧ ∀ H', Ex H H' → Q (.bl (same d e)) H'
theorem sv_same {n : Nat} {H : Hp} {x y : V} {d e : PyData} (hd : Dp K H x d) (he : Dp K H y e) (hn : Dep n e) : SpV (spSame K n) [x, y] H (.bl (same d e)) :=
  fun H1 e1 Q q E => ⟨x, y, d, e, rfl, dp_mono e1 hd, dp_mono e1 he, hn, fun H' e2 => q H' e2⟩
theorem ev_fn {sp : Sp} {vs : List V} {E : XK} {ta : TA} {σ : L2.St} {H : Hp} {z : V} (h : EvA ta σ H vs) (hs : SpV sp vs H z) : Ev (fun σ H Q => ta σ H fun vs H1 => sp vs H1 Q E) σ H z := fun H1 e Q q =>
  h H1 e _ fun H2 e2 => hs H2 (e.trans e2) Q (fun H3 e3 => q H3 (e2.trans e3)) E
theorem rv_seq {H : Hp} {p : Addr} {xs : List V} {i : Int} {v : V} (h : SqL K H p xs ∨ SqT K H p xs) (ha : atI xs i = some v) : RV (fun x y H Q => rIxL K x y H Q ∨ rIxT K x y H Q ∨ rIxS x y H Q) (.ref p) (.int i) H v :=
  fun H1 e Q q => h.elim (fun h => .inl (rv_ixL h ha H1 e Q q)) (fun h => .inr (.inl (rv_ixT h ha H1 e Q q)))
theorem leaf_eq {H : Hp} {x y : V} {d e : PyData} (hd : Dp K H x d) (he : Dp K H y e) (ht : tyN d = tyN e) (h1 : isTup e = false) (h2 : isLst e = false) : scal x y = true ∧ decide (x = y) = same d e := by
  have hs : scal x y = true := by cases hd <;> cases he <;> first | rfl | (simp [tyN] at ht; done) | (simp [isTup] at h1; done) | (simp [isLst] at h2; done)
  refine ⟨hs, same_of ?_⟩
  cases hd <;> cases he <;> first | (simp [tyN] at ht; done) | (simp [isTup] at h1; done) | (simp [isLst] at h2; done) | simp
def spPrev (K : PySem.W.Frag) : Nat → Sp
  | 0 => fun _ _ _ _ => False
  | n + 1 => spSame K n
theorem dp_seq {H : Hp} {a : Addr} {e : PyData} (h : Dp K H (.ref a) e) : ∃ xs ds, DpAll K H xs ds ∧ ((e = .list ds ∧ SqL K H a xs) ∨ (e = .tuple ds ∧ SqT K H a xs)) := by
  cases h with
  | lst h1 h2 => exact ⟨_, _, h2, .inl ⟨rfl, h1⟩⟩
  | tup h1 h2 => exact ⟨_, _, h2, .inr ⟨rfl, h1⟩⟩
theorem fn_l_same (T : Txt K mg) : ∀ n, Fn P w K mg base (n + 1) (ga K "_law_same") (spSame K n) := by
  have go : ∀ n, Fn P w K mg base n (ga K "_law_same") (spPrev K n) → Fn P w K mg base (n + 1) (ga K "_law_same") (spSame K n) := by
    intro n IH
    refine fn_def T.d_l_same sc_l_same (fun _ _ _ _ _ _ us hl => match us, hl with | [_, _], _ => rfl) (fun vs H Q E h => ?_) (fun cdv A outer s H vs Q E hr h => ?_)
    · obtain ⟨a, ns, _, b, rfl, _⟩ := h
      rfl
    · obtain ⟨x, y, d, e, rfl, hd, he, hde, k⟩ := h
      have nd := sc_l_same.nd
      refine ⟨_, pss_cons (ps_if (PW.pt (pw_or (pt_val (pe_callB call_isi (by rfl) T.f_isinstance (by decide +kernel) (pa_cons (pv 1) (pa_cons (pe_bltn (v := .ty "tuple") rfl T.f_tuple (by decide +kernel) rfl) pa_nil)))) (pw_or1 (pt_val (pe_callB call_isi (by rfl) T.f_isinstance (by decide +kernel) (pa_cons (pv 1) (pa_cons (pe_bltn (v := .ty "list") rfl T.f_list (by decide +kernel) rfl) pa_nil))))))) (pss_cons (ps_if (PW.pt (pw_or (pt_cmpR op_ne (pe_callB call_isi (by rfl) T.f_isinstance (by decide +kernel) (pa_cons (pv 1) (pa_cons (pe_bltn (v := .ty "tuple") rfl T.f_tuple (by decide +kernel) rfl) pa_nil))) (pe_callB call_isi (by rfl) T.f_isinstance (by decide +kernel) (pa_cons (pv 0) (pa_cons (pe_bltn (v := .ty "tuple") rfl T.f_tuple (by decide +kernel) rfl) pa_nil))) (nomark _)) (pw_or1 (pt_cmpR op_ne (pe_callB call_isi (by rfl) T.f_isinstance (by decide +kernel) (pa_cons (pv 1) (pa_cons (pe_bltn (v := .ty "list") rfl T.f_list (by decide +kernel) rfl) pa_nil))) (pe_callB call_isi (by rfl) T.f_isinstance (by decide +kernel) (pa_cons (pv 0) (pa_cons (pe_bltn (v := .ty "list") rfl T.f_list (by decide +kernel) rfl) pa_nil))) (nomark _))))) (pss_one (ps_ret (pe_bl))) (pss_nil))
      (pss_cons (ps_if (pt_cmpR op_ne (pe_callB call_len_seq (by rfl) T.f_len PySem.boot_len (pa_cons (pv 0) pa_nil)) (pe_callB call_len_seq (by rfl) T.f_len PySem.boot_len (pa_cons (pv 1) pa_nil)) (nomark _)) (pss_one (ps_ret (pe_bl))) (pss_nil))
      (pss_cons (ps_for (passes_of rfl) rfl (pi_range1 rfl T.f_range (pa_cons (pe_callB call_len_seq (by rfl) T.f_len PySem.boot_len (pa_cons (pv 1) pa_nil)) pa_nil)) (pg_name (i := 2) nd rfl (by first | exact Or.inl rfl | exact Or.inr rfl)) (pss_one (ps_if (pt_not (pt_val (pe_fn T.d_l_same IH hr T.g_l_same pc (pa_cons (pe_ix ix_seq (pv 0) (pv 2) (fun _ _ => rfl)) (pa_cons (pe_ix ix_seq (pv 1) (pv 2) (fun _ _ => rfl)) pa_nil))))) (pss_one (ps_ret (pe_bl))) (pss_nil))))
      (pss_one (ps_ret (pe_bl)))))) (pss_nil))
      (pss_cons (ps_if (PW.pt (pw_or (pt_cmpR op_isN (pv 1) (pe_non) (nomark _)) (pw_or1 (pt_val (pe_callB call_isi (by rfl) T.f_isinstance (by decide +kernel) (pa_cons (pv 1) (pa_cons (pe_bltn (v := .ty "bool") rfl T.f_bool (by decide +kernel) rfl) pa_nil))))))) (pss_one (ps_ret (pe_and (pe_cmpR op_eq (pe_cmpR op_isN (pv 0) (pe_non) (nomark _)) (pe_cmpR op_isN (pv 1) (pe_non) (nomark _)) (nomark _)) (pe_and (pe_or (pe_cmpR op_isN (pv 1) (pe_non) (nomark _)) (pe_one (pe_callB call_isi (by rfl) T.f_isinstance (by decide +kernel) (pa_cons (pv 0) (pa_cons (pe_bltn (v := .ty "bool") rfl T.f_bool (by decide +kernel) rfl) pa_nil))))) (pe_one (pe_cmpR op_eq (pv 0) (pv 1) (nomark _))))))) (pss_nil))
      (pss_cons (ps_if (pt_val (pe_callB call_isi (by rfl) T.f_isinstance (by decide +kernel) (pa_cons (pv 1) (pa_cons (pe_bltn (v := .ty "int") rfl T.f_int (by decide +kernel) rfl) pa_nil)))) (pss_one (ps_ret (pe_and (pe_callB call_isi (by rfl) T.f_isinstance (by decide +kernel) (pa_cons (pv 0) (pa_cons (pe_bltn (v := .ty "int") rfl T.f_int (by decide +kernel) rfl) pa_nil))) (pe_and (pe_not (pe_callB call_isi (by rfl) T.f_isinstance (by decide +kernel) (pa_cons (pv 0) (pa_cons (pe_bltn (v := .ty "bool") rfl T.f_bool (by decide +kernel) rfl) pa_nil)))) (pe_one (pe_cmpR op_eq (pv 0) (pv 1) (nomark _))))))) (pss_nil))
      (pss_one (ps_ret (pe_and (pe_callB call_isi (by rfl) T.f_isinstance (by decide +kernel) (pa_cons (pv 0) (pa_cons (pe_bltn (v := .ty "str") rfl T.f_str (by decide +kernel) rfl) pa_nil))) (pe_one (pe_cmpR op_eq (pv 0) (pv 1) (nomark _)))))))), ?_⟩
      have vx : ∀ H1, Ev (tVar 0) (L2.start n_l_same [x, y]) H1 x := fun H1 => ev_var rfl
      have vy : ∀ H1, Ev (tVar 1) (L2.start n_l_same [x, y]) H1 y := fun H1 => ev_var rfl
      refine s_if (et_or (et_B (ev_isi (vy _) he (kit_tup e))) fun _ => et_B (ev_isi (vy _) he (kit_lst e))) (fun hb H1 e1 => ?_) (fun hb H1 e1 => ?_)
      · have hb' : isTup e = true ∨ isLst e = true := by
          cases h1 : isTup e with
          | true => exact .inl rfl
          | false => rw [h1] at hb; exact .inr (by simpa using hb)
        have hd1 := dp_mono e1 hd
        have he1 := dp_mono e1 he
        refine s_if (et_or (et_test (ev_op (ev_isi (vy _) he1 (kit_tup e)) (ev_isi (vx _) hd1 (kit_tup d)) (rv_ne rfl))) fun _ => et_test (ev_op (ev_isi (vy _) he1 (kit_lst e)) (ev_isi (vx _) hd1 (kit_lst d)) (rv_ne rfl))) (fun hc H2 e2 => ?_) (fun hc H2 e2 => ?_)
        · have ne : d ≠ e := fun z => by subst z; simp at hc
          exact s_ret ev_c fun H3 e3 => by rw [same_f ne] at k; exact k H3 ((e1.trans e2).trans e3)
        · have h1 : isTup e = isTup d := by
            cases h1 : isTup e <;> cases h2 : isTup d <;> rw [h1, h2] at hc <;> simp at hc ⊢
          have h2 : isLst e = isLst d := by
            cases h1 : isLst e <;> cases h2 : isLst d <;> rw [h1, h2] at hc <;> simp at hc ⊢
          have both : ∃ (a b : Addr) (xs ys : List V) (ds es : List PyData), x = .ref a ∧ y = .ref b ∧ DpAll K H xs ds ∧ DpAll K H ys es ∧ (SqL K H a xs ∨ SqT K H a xs) ∧ (SqL K H b ys ∨ SqT K H b ys) ∧ (d = e ↔ ds = es) ∧ es.length ≤ 100000 ∧ ∃ m, n = m + 1 ∧ ∀ z ∈ es, Dep m z := by
            cases he with
            | lst g1 g2 =>
              cases hd with
              | lst f1 f2 =>
                cases n with
                | zero => exact hde.elim
                | succ m => exact ⟨_, _, _, _, _, _, rfl, rfl, f2, g2, .inl f1, .inl g1, by simp, hde.1, m, rfl, hde.2⟩
              | _ => simp [isLst] at h2
            | tup g1 g2 =>
              cases hd with
              | tup f1 f2 =>
                cases n with
                | zero => exact hde.elim
                | succ m => exact ⟨_, _, _, _, _, _, rfl, rfl, f2, g2, .inr f1, .inr g1, by simp, hde.1, m, rfl, hde.2⟩
              | _ => simp [isTup] at h1
            | _ => simp [isTup, isLst] at hb'
          obtain ⟨a, b, xs, ys, ds, es, rfl, rfl, fx, fy, sx, sy, hiff, hlen, m, rfl, hdm⟩ := both
          have lx := dp_all_len fx
          have ly := dp_all_len fy
          have e12 := e1.trans e2
          have sx2 := sx.imp (ex_l e12) (ex_t e12)
          have sy2 := sy.imp (ex_l e12) (ex_t e12)
          refine s_if (et_test (ev_op (ev_lenS (vx _) sx2) (ev_lenS (vy _) sy2) (rv_ne rfl))) (fun hc H3 e3 => ?_) (fun hc H3 e3 => ?_)
          · have ne : d ≠ e := fun z => by
              have := hiff.mp z
              subst this
              simp [lx, ly] at hc
            exact s_ret ev_c fun H4 e4 => by rw [same_f ne] at k; exact k H4 ((e12.trans e3).trans e4)
          · have el : xs.length = ys.length := by
              have : (xs.length : Int) = ys.length := by simpa using hc
              omega
            have e13 := e12.trans e3
            have sy3 := sy.imp (ex_l e13) (ex_t e13)
            have sx3 := sx.imp (ex_l e13) (ex_t e13)
            refine s_forR1 (n := (ys.length : Int)) (ea_cons (ev_lenS (vy _) sy3) ea_nil) (by omega) (fun i σ' H' => Ex H H' ∧ (∃ v, σ' = [some (.ref a), some (.ref b), v]) ∧ ds.take i = es.take i) (fun H4 e4 => ⟨e13.trans e4, ⟨none, rfl⟩, rfl⟩) ?_ ?_
            · rintro i σ' H' hi ⟨e4, ⟨v, rfl⟩, ht⟩
              have hi' : i < ys.length := by omega
              obtain ⟨x1, d1, gx, gd, gp⟩ := dp_all_get fx (by omega : i < xs.length)
              obtain ⟨y1, d2, gy, ge, gq⟩ := dp_all_get fy hi'
              have sx4 := sx.imp (ex_l e4) (ex_t e4)
              have sy4 := sy.imp (ex_l e4) (ex_t e4)
              have r1 : Ev (tOp (fun x y H Q => rIxL K x y H Q ∨ rIxT K x y H Q ∨ rIxS x y H Q) (tVar 0) (tVar 2)) [some (.ref a), some (.ref b), some (.int (i : Int))] H' x1 := ev_op (ev_var rfl) (ev_var rfl) (rv_seq sx4 (atI_nat gx))
              have r2 : Ev (tOp (fun x y H Q => rIxL K x y H Q ∨ rIxT K x y H Q ∨ rIxS x y H Q) (tVar 1) (tVar 2)) [some (.ref a), some (.ref b), some (.int (i : Int))] H' y1 := ev_op (ev_var rfl) (ev_var rfl) (rv_seq sy4 (atI_nat gy))
              have td : ds.take (i + 1) = ds.take i ++ [d1] := by rw [List.take_add_one, gd]; rfl
              have te : es.take (i + 1) = es.take i ++ [d2] := by rw [List.take_add_one, ge]; rfl
              refine s_if (et_not (et_B (ev_fn (ea_cons r1 (ea_cons r2 ea_nil)) (sv_same (dp_mono e4 gp) (dp_mono e4 gq) (hdm _ (List.mem_of_getElem? ge)))))) (fun hc H5 e5 => ?_) (fun hc H5 e5 => ?_)
              · have n1 : d1 ≠ d2 := fun z => by rw [same_t z] at hc; simp at hc
                have ne : d ≠ e := fun z => by
                  have := hiff.mp z
                  subst this
                  rw [gd] at ge
                  exact n1 (Option.some.inj ge)
                exact s_ret ev_c fun H6 e6 => by rw [same_f ne] at k; exact k H6 ((e4.trans e5).trans e6)
              · have n1 : d1 = d2 := Classical.byContradiction fun z => by rw [same_f z] at hc; simp at hc
                exact ⟨e4.trans e5, ⟨_, rfl⟩, by rw [td, te, ht, n1]⟩
            · rintro σ' H' ⟨e4, ⟨v, rfl⟩, ht⟩
              have eq : ds = es := by
                have h1 : ds.take ds.length = ds := List.take_length
                have h2 : es.take es.length = es := List.take_length
                have z1 : ((ys.length : Int)).toNat = ds.length := by omega
                have z2 : ((ys.length : Int)).toNat = es.length := by omega
                rw [z1] at ht
                rw [h1] at ht
                rw [ht]
                rw [← z1, z2, h2]
              dsimp only
              exact s_ret ev_c fun H5 e5 => by rw [same_t (hiff.mpr eq)] at k; exact k H5 (e4.trans e5)
      · have n1 : isTup e = false := by cases h : isTup e <;> rw [h] at hb <;> simp at hb ⊢
        have n2 : isLst e = false := by cases h : isLst e <;> rw [h] at hb <;> simp at hb ⊢
        have hd1 := dp_mono e1 hd
        have he1 := dp_mono e1 he
        refine s_if (et_or (et_test (ev_isN (vy _) he1)) fun _ => et_B (ev_isi (vy _) he1 (kit_boo e))) (fun hc H2 e2 => ?_) (fun hc H2 e2 => ?_)
        · have hd2 := dp_mono e2 hd1
          have he2 := dp_mono e2 he1
          refine s_ret (ev_is (ev_andV (ev_op (ev_isN (vx _) hd2) (ev_isN (vy _) he2) (rv_eq rfl)) (fun h => ev_andV (ev_orV (ev_isN (vy _) he2) (fun _ => ev_isi (vx _) hd2 (kit_boo d))) (fun h2 => ev_op (vx _) (vy _) (rv_eq (leaf_eq hd2 he2 ?_ n1 n2).1)))) ?_) fun H3 e3 => k H3 ((e1.trans e2).trans e3)
          · cases d <;> cases e <;> simp [isNon, isBoo] at h h2 hc <;> rfl
          · congr 1
            by_cases ht : tyN d = tyN e
            · rw [(leaf_eq hd2 he2 ht n1 n2).2]
              cases d <;> cases e <;> simp [isNon, isBoo, tyN] at hc ht ⊢
            · rw [same_f (fun z => ht (by rw [z]))]
              cases d <;> cases e <;> simp [isNon, isBoo, tyN] at hc ht ⊢
        · refine s_if (et_B (ev_isi (vy _) (dp_mono e2 he1) (kit_int e))) (fun hi H3 e3 => ?_) (fun hi H3 e3 => ?_)
          · have hd2 := dp_mono (e2.trans e3) hd1
            have he2 := dp_mono (e2.trans e3) he1
            refine s_ret (ev_is (ev_andV (ev_isi (vx _) hd2 (kit_int d)) (fun h => ev_andV (ev_notV (ev_isi (vx _) hd2 (kit_boo d))) (fun h2 => ev_op (vx _) (vy _) (rv_eq (leaf_eq hd2 he2 ?_ n1 n2).1)))) ?_) fun H4 e4 => k H4 (((e1.trans e2).trans e3).trans e4)
            · cases d <;> cases e <;> simp [isNon, isBoo, isInt] at h h2 hc hi <;> rfl
            · congr 1
              by_cases ht : tyN d = tyN e
              · rw [(leaf_eq hd2 he2 ht n1 n2).2]
                cases d <;> cases e <;> simp [isNon, isBoo, isInt, tyN] at hc hi ht ⊢
              · rw [same_f (fun z => ht (by rw [z]))]
                cases d <;> cases e <;> simp [isNon, isBoo, isInt, tyN] at hc hi ht ⊢
          · have hd2 := dp_mono (e2.trans e3) hd1
            have he2 := dp_mono (e2.trans e3) he1
            have es : ∃ s, e = .str s := by cases he <;> simp [isNon, isBoo, isInt, isTup, isLst] at hc hi n1 n2 ⊢
            obtain ⟨z, rfl⟩ := es
            refine s_ret (ev_is (ev_andV (ev_isi (vx _) hd2 (kit_str d)) (fun h => ev_op (vx _) (vy _) (rv_eq (leaf_eq hd2 he2 ?_ n1 n2).1))) ?_) fun H4 e4 => k H4 (((e1.trans e2).trans e3).trans e4)
            · cases d <;> simp [isStr] at h <;> rfl
            · congr 1
              by_cases ht : tyN d = tyN (.str z)
              · rw [(leaf_eq hd2 he2 ht n1 n2).2]
                cases d <;> simp [isStr, tyN] at ht ⊢
              · rw [same_f (fun z => ht (by rw [z]))]
                cases d <;> simp [isStr, tyN] at ht ⊢
  intro n
  induction n with
  | zero => exact go 0 (fun _ _ _ _ _ _ _ _ _ _ _ h => h.elim)
  | succ n ih => exact go (n + 1) ih
end
end LL
namespace LL
open PySem PySem.Spec PyProof.Rows L2 He Evl
/-! ### readings that give some value of which a thing is true -/
abbrev VP := V → Hp → Prop
def Mono (P : VP) : Prop := ∀ v H H', Ex H H' → P v H → P v H'
def EvP (te : TE) (σ : L2.St) (H : Hp) (R : VP) : Prop := ∀ H1, Ex H H1 → ∀ Q : VK, (∀ v H2, Ex H1 H2 → R v H2 → Q v H2) → te σ H1 Q
def SpP (sp : Sp) (vs : List V) (H : Hp) (R : VP) : Prop := ∀ (Q : VK) (E : XK), (∀ v H2, Ex H H2 → R v H2 → Q v H2) → sp vs H Q E
section
variable {σ : L2.St} {H H' : Hp} {te ta tb : TE} {R R1 R2 : VP} {D : Ends} {i : Nat} {v : V} {sp : Sp} {E : XK}
theorem EvP.mono (e : Ex H H') (h : EvP te σ H R) : EvP te σ H' R := fun H1 a Q q => h H1 (e.trans a) Q q
theorem ev_p (h : Ev te σ H v) : EvP te σ H (fun w _ => w = v) := fun H1 e Q q => h H1 e Q fun H2 e2 => q v H2 e2 rfl
theorem EvP.ev (h : EvP te σ H (fun w _ => w = v)) : Ev te σ H v := fun H1 e Q q => h H1 e Q fun w H2 e2 z => by subst z; exact q H2 e2
theorem EvP.imp (h : EvP te σ H R) (f : ∀ v H1, Ex H H1 → R v H1 → R1 v H1) : EvP te σ H R1 := fun H1 e Q q => h H1 e Q fun w H2 e2 z => q w H2 e2 (f w H2 (e.trans e2) z)
theorem evp_var (h : σ[i]? = some (some v)) (m : Mono R) (r : R v H) : EvP (tVar i) σ H R := fun H1 e _ q => ⟨v, h, q v H1 (Ex.refl H1) (m _ _ _ e r)⟩
theorem s_asgP (h : EvP te σ H R) (k : ∀ v H1, Ex H H1 → R v H1 → D.nx (σ.set i (some v)) H1) : tAsg te (gName i) D σ H := h H (Ex.refl H) _ fun v H1 e r => k v H1 e r
theorem s_retP (h : EvP te σ H R) (k : ∀ v H1, Ex H H1 → R v H1 → D.rt v H1) : tRet te D σ H := h H (Ex.refl H) _ fun v H1 e r => k v H1 e r
theorem evp_fn1 (h1 : EvP ta σ H R1) (hs : ∀ x H1, Ex H H1 → R1 x H1 → SpP sp [x] H1 R) : EvP (fun σ H Q => tCons ta tNil σ H fun vs H1 => sp vs H1 Q E) σ H R := fun H1 e Q q =>
  h1 H1 e _ fun x H2 e2 r1 => hs x H2 (e.trans e2) r1 Q E fun v H3 e3 r => q v H3 (e2.trans e3) r
theorem evp_fn2 (h1 : EvP ta σ H R1) (m1 : Mono R1) (h2 : EvP tb σ H R2) (hs : ∀ x y H1, Ex H H1 → R1 x H1 → R2 y H1 → SpP sp [x, y] H1 R) : EvP (fun σ H Q => tCons ta (tCons tb tNil) σ H fun vs H1 => sp vs H1 Q E) σ H R := fun H1 e Q q =>
  h1 H1 e _ fun x H2 e2 r1 => h2 H2 (e.trans e2) _ fun y H3 e3 r2 => hs x y H3 ((e.trans e2).trans e3) (m1 _ _ _ e3 r1) r2 Q E fun v H4 e4 r => q v H4 ((e2.trans e3).trans e4) r
theorem evp_op {r : L2.R2} (h1 : EvP ta σ H R1) (m1 : Mono R1) (h2 : EvP tb σ H R2) (hs : ∀ x y H1, Ex H H1 → R1 x H1 → R2 y H1 → ∀ Q : VK, (∀ v H2, Ex H1 H2 → R v H2 → Q v H2) → r x y H1 Q) : EvP (tOp r ta tb) σ H R := fun H1 e Q q =>
  h1 H1 e _ fun x H2 e2 r1 => h2 H2 (e.trans e2) _ fun y H3 e3 r2 => hs x y H3 ((e.trans e2).trans e3) (m1 _ _ _ e3 r1) r2 Q fun v H4 e4 r => q v H4 ((e2.trans e3).trans e4) r
theorem mono_eq : Mono (fun w _ => w = v) := fun _ _ _ _ h => h
end
end LL
namespace LL
open PySem PySem.Spec PyProof.Rows L2 He Evl
/-! ### a base that never changes beside cells that do: B is part of H, B2 of H2; B2 has B's things and new ones; of the rest only the cells ms may have changed -/
structure Stp (ms : List Addr) (B H B2 H2 : Hp) : Prop where
  base : Ex B B2
  in_ : Ex B2 H2
  nw : ∀ b, B b = none → H b ≠ none → B2 b = none
  fr : ∀ b o, b ∉ ms → H b = some o → H2 b = some o
  al : ∀ b, H b ≠ none → H2 b ≠ none
theorem ex_none {B H : Hp} {b : Addr} (e : Ex B H) (h : H b = none) : B b = none := fresh_back e h
namespace Stp
variable {ms ns : List Addr} {B H B2 H2 B3 H3 : Hp} {p : Addr} {o u : HO}
theorem refl (e : Ex B H) : Stp ms B H B H := ⟨Ex.refl B, e, fun _ h _ => h, fun _ _ _ h => h, fun _ h => h⟩
theorem trans (a : Stp ms B H B2 H2) (b : Stp ms B2 H2 B3 H3) : Stp ms B H B3 H3 :=
  ⟨a.base.trans b.base, b.in_, fun c h1 h2 => b.nw c (a.nw c h1 h2) (a.al c h2), fun c o n h => b.fr c o n (a.fr c o n h), fun c h => b.al c (a.al c h)⟩
theorem wk (a : Stp ms B H B2 H2) (h : ∀ x ∈ ms, x ∈ ns) : Stp ns B H B2 H2 := ⟨a.base, a.in_, a.nw, fun b o n => a.fr b o fun z => n (h b z), a.al⟩
theorem nil (a : Stp [] B H B2 H2) : Stp ns B H B2 H2 := a.wk fun _ h => nomatch h
/-- a new thing of the base -/
theorem new (e : Ex B H) (h : H p = none) : Stp ms B H (upd B p o) (upd H p o) :=
  ⟨Ex.new (ex_none e h), fun b u hb => by
      by_cases z : b = p
      · subst z; rw [upd_same] at hb ⊢; exact hb
      · rw [upd_ne z] at hb ⊢; exact e b u hb,
    fun b h1 h2 => by rw [upd_ne (fun z => by subst z; exact h2 h)]; exact h1,
    fun b u _ hb => by rw [upd_ne (ne_of_none hb h)]; exact hb,
    fun b hb => by
      by_cases z : b = p
      · subst z; rw [upd_same]; exact fun q => nomatch q
      · rw [upd_ne z]; exact hb⟩
/-- a new cell beside the base -/
theorem cell (e : Ex B H) (h : H p = none) : Stp ms B H B (upd H p o) :=
  ⟨Ex.refl B, Ex.mut e (ex_none e h), fun _ h1 _ => h1, fun b u _ hb => by rw [upd_ne (ne_of_none hb h)]; exact hb,
    fun b hb => by
      by_cases z : b = p
      · subst z; rw [upd_same]; exact fun q => nomatch q
      · rw [upd_ne z]; exact hb⟩
/-- a store to a cell -/
theorem put (e : Ex B H) (h : B p = none) (m : p ∈ ms) : Stp ms B H B (upd H p o) :=
  ⟨Ex.refl B, Ex.mut e h, fun _ h1 _ => h1, fun b u hn hb => by rw [upd_ne (fun z => hn (by rw [z]; exact m))]; exact hb,
    fun b hb => by
      by_cases z : b = p
      · subst z; rw [upd_same]; exact fun q => nomatch q
      · rw [upd_ne z]; exact hb⟩
/-- a cell becomes a thing of the base -/
theorem keep (e : Ex B H) (h : H p = some o) (hb : B p = none) : Ex B (upd B p o) ∧ Ex (upd B p o) H :=
  ⟨Ex.new hb, fun b u q => by
    by_cases z : b = p
    · subst z; rw [upd_same] at q; rw [h]; exact q
    · rw [upd_ne z] at q; exact e b u q⟩
/-- what is no thing of the base and was there is no thing of the new base -/
theorem off (a : Stp ms B H B2 H2) (h : B p = none) (h2 : H p = some o) : B2 p = none := a.nw p h (by rw [h2]; exact fun q => nomatch q)
theorem ne (a : Stp ms B H B2 H2) (h : H p = some o) (h2 : H2 p = none) : False := a.al p (by rw [h]; exact fun q => nomatch q) h2
/-- from another's step: what stood is as it was -/
theorem ofEx (e : Ex B H) (x : Ex H H2) : Stp ms B H B H2 := ⟨Ex.refl B, e.trans x, fun _ h _ => h, fun b o _ h => x b o h, fun b h q => by
  cases hb : H b with
  | none => exact h hb
  | some o => rw [x b o hb] at q; cases q⟩
end Stp
/-- a step of a def that began with the local cell p (not known to its caller): the caller sees none of it -/
theorem Stp.drop {ms : List Addr} {B H B2 H2 : Hp} {p : Addr} (a : Stp (p :: ms) B H B2 H2) (h : H p = none) : Stp ms B H B2 H2 :=
  ⟨a.base, a.in_, a.nw, fun b o n hb => a.fr b o (fun z => by
    rcases List.mem_cons.mp z with e | e
    · subst e; rw [h] at hb; cases hb
    · exact n e) hb, a.al⟩
/-- behind the making of a local cell: the whole way, seen from ahead of it -/
theorem Stp.with {ms : List Addr} {B H B2 H2 : Hp} {p : Addr} {o : HO} (h : H p = none) (a : Stp (p :: ms) B (upd H p o) B2 H2) : Stp ms B H B2 H2 :=
  ⟨a.base, a.in_, fun b h1 h2 => a.nw b h1 (by rw [upd_ne (fun z => by subst z; exact h2 h)]; exact h2), fun b u n hb => a.fr b u (fun z => by
      rcases List.mem_cons.mp z with e | e
      · subst e; rw [h] at hb; cases hb
      · exact n e) (by rw [upd_ne (ne_of_none hb h)]; exact hb),
    fun b hb => a.al b (by rw [upd_ne (fun z => by subst z; exact hb h)]; exact hb)⟩
/-- the local cell q is done: it goes into the base -/
theorem Stp.close {ms : List Addr} {B H B2 H2 : Hp} {q : Addr} {o0 o : HO} (e : Ex B H) (hq : H q = none) (a : Stp (q :: ms) B (upd H q o0) B2 H2) (hv : H2 q = some o) : Stp ms B H (upd B2 q o) H2 := by
  have b2 : B2 q = none := a.off (ex_none e hq) upd_same
  have w := Stp.with hq a
  obtain ⟨k1, k2⟩ := Stp.keep w.in_ hv b2
  refine ⟨w.base.trans k1, k2, fun b h1 h2 => ?_, w.fr, w.al⟩
  rw [upd_ne (fun z => by subst z; exact h2 hq)]
  exact w.nw b h1 h2
/-- the pool stands at p; its copy of the script is a thing of the base -/
def Pool (p : Addr) (B H : Hp) : Prop := ∃ P : Pl, H p = some (.lst P.l) ∧ B P.at_ = some (.lst (P.cells.map V.int)) ∧ P.cells.length ≤ 63
theorem Pool.at {p : Addr} {B H : Hp} (h : Pool p B H) : ∃ o, H p = some o := let ⟨_, z, _⟩ := h; ⟨_, z⟩
theorem Pool.of {p : Addr} {B B2 H H2 : Hp} (h : Pool p B H) (e : Ex B B2) (hp : H2 p = H p) : Pool p B2 H2 := let ⟨P, h1, h2, h3⟩ := h; ⟨P, hp.trans h1, e _ _ h2, h3⟩
theorem Pool.ne {p q : Addr} {B H : Hp} (h : Pool p B H) (n : H q = none) : q ≠ p := fun z => by
  subst z
  obtain ⟨o, ho⟩ := h.at
  rw [n] at ho
  cases ho
theorem Pool.n1 {p q : Addr} {B H : Hp} {o : HO} (h : Pool p B H) (n : H q = none) : Pool p B (upd H q o) := h.of (Ex.refl B) (upd_ne (h.ne n).symm)
theorem Pool.n2 {p q : Addr} {B H : Hp} {o : HO} (h : Pool p B H) (e : Ex B H) (n : H q = none) : Pool p (upd B q o) (upd H q o) := h.of (Ex.new (ex_none e n)) (upd_ne (h.ne n).symm)
theorem Pool.p1 {p q : Addr} {B H : Hp} {o : HO} (h : Pool p B H) (n : q ≠ p) : Pool p B (upd H q o) := h.of (Ex.refl B) (upd_ne n.symm)
theorem Pool.stp {ms : List Addr} {p : Addr} {B H B2 H2 : Hp} (h : Pool p B H) (a : Stp ms B H B2 H2) (n : p ∉ ms) : Pool p B2 H2 := by
  obtain ⟨o, ho⟩ := h.at
  exact h.of a.base ((a.fr _ _ n ho).trans ho.symm)
/-- a draw: the base stays, some number comes -/
theorem draw_s {p : Addr} {B H : Hp} {n : Int} {Q : VK} {E : XK} (e : Ex B H) (hb : B p = none) (hP : Pool p B H) (h0 : 0 < n) (h1 : n < 1073741824)
    (k : ∀ (r : Int) (H2 : Hp), 0 ≤ r → r < n → Stp [p] B H B H2 → Pool p B H2 → (∀ b, b ≠ p → H2 b = H b) → Q (.int r) H2) : spDraw [.ref p, .int n] H Q E := by
  obtain ⟨P, hl, hc, hz⟩ := hP
  refine ⟨p, n, P, rfl, ⟨hl, e _ _ hc, hz⟩, h0, h1, fun r P' a b e1 e2 _ => k r _ a b (Stp.put e hb (.head _)) ⟨P', upd_same, by rw [e1, e2]; exact hc, by rw [e2]; exact hz⟩ fun b hb => upd_ne hb⟩
end LL
namespace LL
open PySem PySem.Spec PyProof.Rows L2 He Evl
/-! ### expressions, statements, blocks, games as data -/
def SIGNS_ : List Str := ["+", "-", "*", "/", "mod", "<", "="]
def istr (i : Int) : Str := Str.ofString (toString i)
/-- an expression of depth n, and its words -/
inductive IsE (ns : List Str) : Nat → PyData → List Str → Prop
  | num {n : Nat} {i : Int} (h0 : 0 ≤ i) (h1 : i ≤ 65535) : IsE ns (n + 1) (.tuple [.str "number", .int i]) [istr i]
  | var {n : Nat} {x : Str} (h : x ∈ ns) : IsE ns (n + 1) (.tuple [.str "variable", .str x]) [x]
  | op {n : Nat} {s : Str} {a b : PyData} {wa wb : List Str} (h : s ∈ SIGNS_) (ha : IsE ns n a wa) (hb : IsE ns n b wb) : IsE ns (n + 1) (.tuple [.str s, a, b]) (s :: (wa ++ wb))
theorem IsE.mono {ns : List Str} {m n : Nat} {d : PyData} {ws : List Str} (h : IsE ns m d ws) (l : m ≤ n) : IsE ns n d ws := by
  induction h generalizing n with
  | num h0 h1 =>
    obtain ⟨k, rfl⟩ : ∃ k, n = k + 1 := ⟨n - 1, by omega⟩
    exact .num h0 h1
  | var h =>
    obtain ⟨k, rfl⟩ : ∃ k, n = k + 1 := ⟨n - 1, by omega⟩
    exact .var h
  | op h _ _ iha ihb =>
    obtain ⟨k, rfl⟩ : ∃ k, n = k + 1 := ⟨n - 1, by omega⟩
    exact .op h (iha (by omega)) (ihb (by omega))
def IsEw (ns : List Str) (n : Nat) (d : PyData) : Prop := ∃ ws, IsE ns n d ws
section
variable {P : Program} {w : World} {K : PySem.W.Frag} {mg : Str → Option Value} {base : Heap}
/-- a number below n, drawn -/
def spNum (n : Int) : Sp := fun vs H Q _ => ∃ (B : Hp) (p : Addr), vs = [.ref p] ∧ Ex B H ∧ B p = none ∧ Pool p B H ∧ ∀ (r : Int) (H2 : Hp), 0 ≤ r → r < n → Stp [p] B H B H2 → Pool p B H2 → Q (.int r) H2
theorem fn_l_number (T : Txt K mg) : Fn P w K mg base 2 (ga K "_law_number") (spNum 65536) := by
  refine fn_def T.d_l_number sc_l_number (fun _ _ _ _ _ _ us hl => match us, hl with | [_], _ => rfl) (fun vs H Q E h => ?_) (fun cdv A outer s H vs Q E hr h => ?_)
  · obtain ⟨B, p, rfl, _⟩ := h
    rfl
  · obtain ⟨B, p, rfl, e, hb, hP, k⟩ := h
    have nd := sc_l_number.nd
    refine ⟨_, pss_cons (ps_if (pt_cmpR op_eq (pe_fn T.d_l_draw (fn_l_draw T) (hr.mono (by decide)) T.g_l_draw pc (pa_cons (pv 0) (pa_cons (pe_int) pa_nil))) (pe_int) (nomark _)) (pss_one (ps_ret (pe_fn T.d_l_draw (fn_l_draw T) (hr.mono (by decide)) T.g_l_draw pc (pa_cons (pv 0) (pa_cons (pe_int) pa_nil))))) (pss_nil))
      (pss_one (ps_ret (pe_fn T.d_l_draw (fn_l_draw T) (hr.mono (by decide)) T.g_l_draw pc (pa_cons (pv 0) (pa_cons (pe_int) pa_nil))))), ?_⟩
    refine ⟨_, rfl, ?_⟩
    dsimp only [tCons, tNil, tC]
    refine draw_s e hb hP (by decide) (by decide) fun r H2 a0 a1 st hP2 _ => ?_
    refine ⟨rfl, _, rfl, ite2 (fun c => ?_) fun c => ?_⟩
    · refine ⟨_, rfl, ?_⟩
      dsimp only [tCons, tNil, tC]
      exact draw_s st.in_ hb hP2 (by decide) (by decide) fun r H3 b0 b1 st2 hP3 _ => k r H3 b0 b1 (st.trans st2) hP3
    · refine ⟨_, rfl, ?_⟩
      dsimp only [tCons, tNil, tC]
      exact draw_s st.in_ hb hP2 (by decide) (by decide) fun r H3 b0 b1 st2 hP3 _ => k r H3 b0 (by omega) (st.trans st2) hP3
def spValue (K : PySem.W.Frag) (n : Nat) : Sp := fun vs H Q _ => ∃ (B : Hp) (p : Addr) (x : V) (ns : List Str), vs = [.ref p, x, .int (n : Int)] ∧ Ex B H ∧ B p = none ∧ Pool p B H ∧ Dp K B x (.list (ns.map PyData.str)) ∧ ns.length ≤ 63 ∧
  ∀ (v : V) (B2 H2 : Hp) (d : PyData), Stp [p] B H B2 H2 → Pool p B2 H2 → Dp K B2 v d → IsEw ns (n + 1) d → Q v H2
def spValueP (K : PySem.W.Frag) : Nat → Sp
  | 0 => fun _ _ _ _ => False
  | n + 1 => spValue K n
theorem dp_strs {H : Hp} : ∀ {ns : List Str} {vs : List V}, DpAll K H vs (ns.map PyData.str) → vs = ns.map V.str
  | [], _, h => by cases h; rfl
  | n :: ns, _, h => by
    cases h with
    | cons h1 h2 =>
      cases h1
      rw [dp_strs h2]
      rfl
theorem dpa_strs {H : Hp} : ∀ (ns : List Str), DpAll K H (ns.map V.str) (ns.map PyData.str)
  | [] => .nil
  | a :: r => .cons (.str a) (dpa_strs r)
theorem dp_list {H : Hp} {v : V} {ds : List PyData} (h : Dp K H v (.list ds)) : ∃ a vs, v = .ref a ∧ SqL K H a vs ∧ DpAll K H vs ds := by
  cases h with
  | lst h1 h2 => exact ⟨_, _, rfl, h1, h2⟩
theorem dp_tup {H : Hp} {v : V} {ds : List PyData} (h : Dp K H v (.tuple ds)) : ∃ a vs, v = .ref a ∧ SqT K H a vs ∧ DpAll K H vs ds := by
  cases h with
  | tup h1 h2 => exact ⟨_, _, rfl, h1, h2⟩
theorem at_get {α : Type} {xs : List α} {r : Int} (h0 : 0 ≤ r) (h1 : r < xs.length) : ∃ x, atI xs r = some x ∧ x ∈ xs ∧ xs[r.toNat]? = some x := by
  obtain ⟨j, rfl⟩ : ∃ j : Nat, r = j := ⟨r.toNat, by omega⟩
  have hj : j < xs.length := by omega
  exact ⟨xs[j], by unfold atI; rw [ixN_nat hj]; simp [hj], List.getElem_mem hj, by simp [hj]⟩
theorem fn_l_value (T : Txt K mg) : ∀ n, Fn P w K mg base (n + 3) (ga K "_law_value") (spValue K n) := by
  have go : ∀ n, Fn P w K mg base (n + 2) (ga K "_law_value") (spValueP K n) → Fn P w K mg base (n + 3) (ga K "_law_value") (spValue K n) := by
    intro n IH
    refine fn_def T.d_l_value sc_l_value (fun _ _ _ _ _ _ us hl => match us, hl with | [_, _, _], _ => rfl) (fun vs H Q E h => ?_) (fun cdv A outer s H vs Q E hr h => ?_)
    · obtain ⟨B, p, x, ns, rfl, _⟩ := h
      rfl
    · obtain ⟨B, p, x, ns, rfl, e, hb, hP, hx, hl, k⟩ := h
      have nd := sc_l_value.nd
      obtain ⟨a, vs, rfl, sx, dx⟩ := dp_list hx
      have ev := dp_strs dx
      subst ev
      have hr1 : Room 1 _ := hr.mono (by omega)
      have hr2 : Room 2 _ := hr.mono (by omega)
      refine ⟨_, pss_cons (ps_set (i := 3) nd rfl (by first | exact Or.inl rfl | exact Or.inr rfl) (pe_fn T.d_l_draw (fn_l_draw T) hr1 T.g_l_draw pc (pa_cons (pv 0) (pa_cons (pe_int) pa_nil))))
      (Evl.pss_cut (ps_if (PW.pt (pw_and (pt_cmpR op_lt (pv 3) (pe_int) (nomark _)) (pw_and1 (pt_cmpR op_gt (pv 2) (pe_int) (nomark _))))) (pss_cons (ps_set (i := 4) nd rfl (by first | exact Or.inl rfl | exact Or.inr rfl) (pe_ix ix_tup (pe_tup (pa_cons (pe_str) (pa_cons (pe_str) (pa_cons (pe_str) (pa_cons (pe_str) (pa_cons (pe_str) (pa_cons (pe_str) (pa_cons (pe_str) pa_nil)))))))) (pe_fn T.d_l_draw (fn_l_draw T) hr1 T.g_l_draw pc (pa_cons (pv 0) (pa_cons (pe_int) pa_nil))) (fun _ _ => rfl)))
      (pss_cons (ps_set (i := 5) nd rfl (by first | exact Or.inl rfl | exact Or.inr rfl) (pe_fn T.d_l_value IH hr T.g_l_value pc (pa_cons (pv 0) (pa_cons (pv 1) (pa_cons (pe_op op_sub (pv 2) (pe_int)) pa_nil)))))
      (pss_one (ps_ret (pe_tup (pa_cons (pv 4) (pa_cons (pv 5) (pa_cons (pe_fn T.d_l_value IH hr T.g_l_value pc (pa_cons (pv 0) (pa_cons (pv 1) (pa_cons (pe_op op_sub (pv 2) (pe_int)) pa_nil)))) pa_nil)))))))) (pss_nil))
      (Evl.pss_cut (ps_if (PW.pt (pw_and (pt_cmpR op_lt (pv 3) (pe_int) (nomark _)) (pw_and1 (pt_cmpR op_gt (pe_callB call_len_seq (by rfl) T.f_len PySem.boot_len (pa_cons (pv 1) pa_nil)) (pe_int) (nomark _))))) (pss_one (ps_ret (pe_tup (pa_cons (pe_str) (pa_cons (pe_ix ix_list (pv 1) (pe_fn T.d_l_draw (fn_l_draw T) hr1 T.g_l_draw pc (pa_cons (pv 0) (pa_cons (pe_callB call_len_seq (by rfl) T.f_len PySem.boot_len (pa_cons (pv 1) pa_nil)) pa_nil))) (fun _ _ => rfl)) pa_nil))))) (pss_nil))
      (pss_one (ps_ret (pe_tup (pa_cons (pe_str) (pa_cons (pe_ix ix_tup (pe_tup (pa_cons (pe_fn T.d_l_draw (fn_l_draw T) hr1 T.g_l_draw pc (pa_cons (pv 0) (pa_cons (pe_int) pa_nil))) (pa_cons (pe_fn T.d_l_draw (fn_l_draw T) hr1 T.g_l_draw pc (pa_cons (pv 0) (pa_cons (pe_int) pa_nil))) (pa_cons (pe_fn T.d_l_number (fn_l_number T) hr2 T.g_l_number pc (pa_cons (pv 0) pa_nil)) pa_nil)))) (pe_fn T.d_l_draw (fn_l_draw T) hr1 T.g_l_draw pc (pa_cons (pv 0) (pa_cons (pe_int) pa_nil))) (fun _ _ => rfl)) pa_nil))))))), ?_⟩
      have hx7 : (7 : Nat) ≤ sizeLine := by decide
      refine ⟨_, rfl, ?_⟩
      dsimp only [tCons, tNil, tC]
      refine draw_s e hb hP (by decide) (by decide) fun r1 H1 a0 a1 s1 hP1 _ => ?_
      refine ⟨fun σ H' => σ = [some (.ref p), some (.ref a), some (.int (n : Int)), some (.int r1), none, none] ∧ H1 = H', ?_, ?_⟩
      · refine ⟨_, rfl, _, _, rfl, rfl, _, rfl, ite2 (fun c1 => ?_) fun c1 => iteF ⟨rfl, rfl⟩⟩
        refine ⟨_, rfl, _, _, rfl, rfl, _, rfl, ite2 (fun c2 => ?_) fun c2 => ⟨rfl, rfl⟩⟩
        obtain ⟨m, rfl⟩ : ∃ m, n = m + 1 := ⟨n - 1, by have := of_decide_eq_true c2; omega⟩
        refine ⟨hx7, fun t nt => ?_⟩
        have s2 := s1.trans (Stp.cell (p := t) (o := .tup [.str "+", .str "-", .str "*", .str "/", .str "mod", .str "<", .str "="]) s1.in_ nt)
        have hP2 := Pool.n1 (o := .tup [.str "+", .str "-", .str "*", .str "/", .str "mod", .str "<", .str "="]) hP1 nt
        refine ⟨_, rfl, ?_⟩
        dsimp only [tCons, tNil, tC]
        refine draw_s s2.in_ hb hP2 (by decide) (by decide) fun r2 H3 b0 b1 s3 hP3 hne => ?_
        have htp : t ≠ p := fun z => by subst z; obtain ⟨o, ho⟩ := hP1.at; rw [nt] at ho; cases ho
        obtain ⟨y, ey, my, _⟩ := at_get (xs := [V.str "+", V.str "-", V.str "*", V.str "/", V.str "mod", V.str "<", V.str "="]) b0 b1
        obtain ⟨sg, rfl, hsg⟩ : ∃ sg, y = V.str sg ∧ sg ∈ SIGNS_ := by
          simp only [List.mem_cons, List.not_mem_nil, or_false] at my
          rcases my with rfl | rfl | rfl | rfl | rfl | rfl | rfl <;> exact ⟨_, rfl, by simp [SIGNS_]⟩
        refine ⟨t, _, _, _, rfl, rfl, SqT.of ((hne t htp).trans upd_same), ey, ?_⟩
        have s4 := s2.trans s3
        refine ⟨_, rfl, _, rfl, _, rfl, _, _, rfl, rfl, ?_⟩
        have en : ((m + 1 : Nat) : Int) - 1 = (m : Int) := by omega
        refine ⟨B, p, .ref a, ns, by show [V.ref p, V.ref a, V.int (((m + 1 : Nat) : Int) - 1)] = _; rw [en], s4.in_, hb, hP3, hx, hl, fun v1 B5 H5 d1 s5 hP5 dv1 ⟨_, ie1⟩ => ?_⟩
        have s6 := s4.trans s5
        refine ⟨_, rfl, _, rfl, _, rfl, _, rfl, _, rfl, _, _, rfl, rfl, ?_⟩
        have hb5 := s5.off hb hP3.at.choose_spec
        refine ⟨B5, p, .ref a, ns, by show [V.ref p, V.ref a, V.int (((m + 1 : Nat) : Int) - 1)] = _; rw [en], s6.in_, hb5, hP5, dp_mono s6.base hx, hl, fun v2 B7 H7 d2 s7 hP7 dv2 ⟨_, ie2⟩ => ?_⟩
        have s8 := s6.trans s7
        refine ⟨(by show 3 ≤ sizeLine; decide), fun u nu => ?_⟩
        have s9 := Stp.new (ms := [p]) (o := .tup [.str sg, v1, v2]) s8.in_ nu
        exact k _ _ _ _ (s8.trans s9) (Pool.n2 hP7 s8.in_ nu) (.tup (SqT.of upd_same) (.cons (.str _) (.cons (dp_mono (s7.base.trans s9.base) dv1) (.cons (dp_mono s9.base dv2) .nil)))) ⟨_, .op hsg ie1 ie2⟩
      rintro σ H' ⟨rfl, rfl⟩
      refine ⟨fun σ H' => σ = [some (.ref p), some (.ref a), some (.int (n : Int)), some (.int r1), none, none] ∧ H1 = H', ?_, ?_⟩
      · refine ⟨_, rfl, _, _, rfl, rfl, _, rfl, ite2 (fun c1 => ?_) fun c1 => iteF ⟨rfl, rfl⟩⟩
        have sx1 := ex_l s1.in_ sx
        refine ⟨_, rfl, a, _, rfl, .inl sx1, _, _, rfl, rfl, _, rfl, ite2 (fun c2 => ?_) fun c2 => ⟨rfl, rfl⟩⟩
        have hl0 : 0 < ns.length := by
          have := of_decide_eq_true c2
          rw [List.length_map] at this
          omega
        refine ⟨_, rfl, _, rfl, _, rfl, a, _, rfl, .inl sx1, ?_⟩
        dsimp only [tCons, tNil, tC]
        refine draw_s s1.in_ hb hP1 (by rw [List.length_map]; omega) (by rw [List.length_map]; omega) fun r2 H3 b0 b1 s3 hP3 hne => ?_
        obtain ⟨y, ey, my, _⟩ := at_get (xs := ns.map V.str) b0 b1
        obtain ⟨z, hz, rfl⟩ := List.mem_map.mp my
        have s4 := s1.trans s3
        refine ⟨a, _, _, _, rfl, rfl, ex_l s4.in_ sx, ey, (by show 2 ≤ sizeLine; decide), fun u nu => ?_⟩
        have s9 := Stp.new (ms := [p]) (o := .tup [.str "variable", .str z]) s4.in_ nu
        exact k _ _ _ _ (s4.trans s9) (Pool.n2 hP3 s4.in_ nu) (.tup (SqT.of upd_same) (.cons (.str _) (.cons (.str _) .nil))) ⟨_, .var hz⟩
      rintro σ H' ⟨rfl, rfl⟩
      refine ⟨_, rfl, ?_⟩
      dsimp only [tCons, tNil, tC]
      refine draw_s s1.in_ hb hP1 (by decide) (by decide) fun r2 H2 b0 b1 s2 hP2 _ => ?_
      have s12 := s1.trans s2
      refine ⟨_, rfl, ?_⟩
      dsimp only [tCons, tNil, tC]
      refine draw_s s12.in_ hb hP2 (by decide) (by decide) fun r3 H3 c0 c1 s3 hP3 _ => ?_
      have s13 := s12.trans s3
      refine ⟨_, rfl, B, p, rfl, s13.in_, hb, hP3, fun r4 H4 d0 d1 s4 hP4 => ?_⟩
      have s14 := s13.trans s4
      refine ⟨(by show 3 ≤ sizeLine; decide), fun t nt => ?_⟩
      have s15 := s14.trans (Stp.cell (p := t) (o := .tup [.int r2, .int r3, .int r4]) s14.in_ nt)
      have hP5 := Pool.n1 (o := .tup [.int r2, .int r3, .int r4]) hP4 nt
      have htp : t ≠ p := fun z => by subst z; obtain ⟨o, ho⟩ := hP4.at; rw [nt] at ho; cases ho
      refine ⟨_, rfl, ?_⟩
      dsimp only [tCons, tNil, tC]
      refine draw_s s15.in_ hb hP5 (by decide) (by decide) fun r5 H5 f0 f1 s5 hP6 hne => ?_
      have s16 := s15.trans s5
      obtain ⟨y, ey, my⟩ := at3 (a := .int r2) (b := .int r3) (c := .int r4) f0 f1
      obtain ⟨i, rfl, i0, i1⟩ : ∃ i : Int, y = .int i ∧ 0 ≤ i ∧ i ≤ 65535 := by
        rcases my with rfl | rfl | rfl <;> exact ⟨_, rfl, by omega, by omega⟩
      refine ⟨t, _, _, _, rfl, rfl, SqT.of ((hne t htp).trans upd_same), ey, (by show 2 ≤ sizeLine; decide), fun u nu => ?_⟩
      have s9 := Stp.new (ms := [p]) (o := .tup [.str "number", .int i]) s16.in_ nu
      exact k _ _ _ _ (s16.trans s9) (Pool.n2 hP6 s16.in_ nu) (.tup (SqT.of upd_same) (.cons (.str _) (.cons (.int _) .nil))) ⟨_, .num i0 i1⟩
  intro n
  induction n with
  | zero => exact go 0 (fun _ _ _ _ _ _ _ _ _ _ _ h => h.elim)
  | succ n ih => exact go (n + 1) ih
end
end LL
namespace LL
open PySem PySem.Spec PyProof.Rows L2 He Evl
def KEYS_ : List Str := ["var", "set", "draw", "choose", "come", "show", "chooser", "comer", "pay", "take", "if", "else", "end", "mod"]
structure IsName (x : Str) : Prop where
  l1 : 1 ≤ x.length
  l8 : x.length ≤ 8
  lo : ∀ c ∈ x.cps.toList, 97 ≤ c ∧ c ≤ 122
  nk : x ∉ KEYS_
section
variable {P : Program} {w : World} {K : PySem.W.Frag} {mg : Str → Option Value} {base : Heap}
def spSpend : Sp := fun vs H Q _ => ∃ (B : Hp) (p : Addr), vs = [.ref p] ∧ Ex B H ∧ B p = none ∧ Pool p B H ∧ ∀ (b : Bool) (H2 : Hp), Stp [p] B H B H2 → Pool p B H2 → Q (.bl b) H2
theorem fn_l_spend (T : Txt K mg) : Fn P w K mg base 1 (ga K "_law_spend") (spSpend) := by
  refine fn_def T.d_l_spend sc_l_spend (fun _ _ _ _ _ _ us hl => match us, hl with | [_], _ => rfl) (fun vs H Q E h => ?_) (fun cdv A outer s H vs Q E hr h => ?_)
  · obtain ⟨B, p, rfl, _⟩ := h
    rfl
  · obtain ⟨B, p, rfl, e, hb, ⟨⟨cells, at_, ix, big, st, run, bud⟩, hl, hc, hz⟩, k⟩ := h
    have nd := sc_l_spend.nd
    have hl : H p = some (.lst [.ref at_, .int ix, .int big, .int st, .int run, .int bud]) := hl
    refine ⟨_, pss_cons (ps_asg (pe_op op_sub (pe_ix ix_list (pv 0) (pe_int) (fun _ _ => rfl)) (pe_int)) (pg_sub (pv 0) (pe_int) set_list))
      (pss_one (ps_ret (pe_cmpR op_ge (pe_ix ix_list (pv 0) (pe_int) (fun _ _ => rfl)) (pe_int) (nomark _)))), ?_⟩
    refine ⟨_, rfl, p, _, _, _, rfl, rfl, SqL.of hl, rfl, _, _, rfl, rfl, _, rfl, p, _, _, _, rfl, rfl, hl, rfl, ?_⟩
    refine ⟨_, rfl, p, _, _, _, rfl, rfl, SqL.of upd_same, rfl, _, _, rfl, rfl, ?_⟩
    exact k _ _ (Stp.put e hb (.head _)) ⟨⟨cells, at_, ix, big, st, run, bud - 1⟩, upd_same, hc, hz⟩
theorem inV_strs (x : Str) (ns : List Str) : inV (.str x) (ns.map V.str) = decide (x ∈ ns) := by
  rw [Bool.eq_iff_iff]
  simp only [inV, List.any_map, List.any_eq_true, Function.comp, eqV, beq_iff_eq, decide_eq_true_eq]
  exact ⟨fun ⟨y, h1, h2⟩ => h2 ▸ h1, fun h => ⟨x, h, rfl⟩⟩
theorem flat_strs (ns : List Str) : (ns.map V.str).all flatV = true := by
  rw [List.all_map, List.all_eq_true]
  exact fun _ _ => rfl
theorem wrd : ∀ x ∈ (["x", "y", "z", "ended", "i", "sets", "mods", "comers", "payed", "abcdefgh", "q", "aa", "bb", "cc", "dd", "ee", "ff"] : List Str), 1 ≤ x.length ∧ x.length ≤ 8 ∧ ∀ c ∈ x.cps.toList, 97 ≤ c ∧ c ≤ 122 := by decide +kernel
theorem wnk : ∀ x ∈ (["q", "aa", "bb", "cc", "dd", "ee", "ff"] : List Str), x ∉ KEYS_ := by decide +kernel
/-- the letters that a name may have -/
def Low (x : Str) : Prop := 1 ≤ x.length ∧ x.length ≤ 8 ∧ ∀ c ∈ x.cps.toList, 97 ≤ c ∧ c ≤ 122
/-- the search for a free name -/
def pick (ns : List Str) (os : List Str) (x : Str) : Str := os.foldl (fun y o => if y ∈ ns then o else y) x
theorem pick_free {ns : List Str} : ∀ {os : List Str} {x : Str}, x ∉ ns → pick ns os x = x
  | [], _, _ => rfl
  | o :: os, x, h => by
    show pick ns os (if x ∈ ns then o else x) = x
    rw [if_neg h]
    exact pick_free h
theorem pick_off {ns : List Str} : ∀ {os : List Str} {x : Str}, pick ns os x ∈ ns → ∀ o ∈ os, o ∈ ns
  | [], _, _, o, ho => by simp at ho
  | o' :: os, x, h, o, ho => by
    have h' : pick ns os (if x ∈ ns then o' else x) ∈ ns := h
    by_cases hx : x ∈ ns
    · rw [if_pos hx] at h'
      rcases List.mem_cons.mp ho with e | e
      · subst e
        exact Classical.byContradiction fun z => by rw [pick_free z] at h'; exact z h'
      · exact pick_off h' o e
    · rw [if_neg hx, pick_free hx] at h'
      exact absurd h' hx
def OTH : List Str := ["aa", "bb", "cc", "dd", "ee", "ff"]
theorem pick_in {ns : List Str} : ∀ {os : List Str} {x : Str}, pick ns os x = x ∨ pick ns os x ∈ os
  | [], _ => .inl rfl
  | o :: os, x => by
    show pick ns os (if x ∈ ns then o else x) = x ∨ pick ns os (if x ∈ ns then o else x) ∈ o :: os
    by_cases h : x ∈ ns
    · rw [if_pos h]
      rcases pick_in (ns := ns) (os := os) (x := o) with e | e
      · exact .inr (by rw [e]; exact .head _)
      · exact .inr (.tail _ e)
    · rw [if_neg h, pick_free h]
      exact .inl rfl
theorem sub_len : ∀ {xs ns : List Str}, xs.Nodup → (∀ o ∈ xs, o ∈ ns) → xs.length ≤ ns.length
  | [], _, _, _ => Nat.zero_le _
  | x :: xs, ns, hd, hs => by
    have hd' := List.nodup_cons.mp hd
    have h1 := sub_len (xs := xs) (ns := ns.erase x) hd'.2 fun o ho => (List.mem_erase_of_ne (fun z => by subst z; exact hd'.1 ho)).mpr (hs o (.tail _ ho))
    have h2 := List.length_erase_of_mem (hs x (.head _))
    have h3 : 0 < ns.length := List.length_pos_of_mem (hs x (.head _))
    rw [List.length_cons]
    omega
theorem pick_new {ns : List Str} {x : Str} (h : ns.length ≤ 5) : pick ns OTH x ∉ ns := fun z => by
  have := sub_len (xs := OTH) (ns := ns) (by decide +kernel) (pick_off z)
  have e : OTH.length = 6 := rfl
  omega
def spNames (K : PySem.W.Frag) : Sp := fun vs H Q _ => ∃ (B : Hp) (p : Addr) (c : Int), vs = [.ref p, .int c] ∧ Ex B H ∧ B p = none ∧ Pool p B H ∧ 0 ≤ c ∧ c ≤ 5 ∧
  ∀ (v : V) (B2 H2 : Hp) (ns : List Str), Stp [p] B H B2 H2 → Pool p B2 H2 → Dp K B2 v (.list (ns.map PyData.str)) → ns.Nodup → (∀ x ∈ ns, IsName x) → (ns.length : Int) = c → Q v H2
theorem fn_l_names (T : Txt K mg) : Fn P w K mg base 2 (ga K "_law_names") (spNames K) := by
  refine fn_def T.d_l_names sc_l_names (fun _ _ _ _ _ _ us hl => match us, hl with | [_, _], _ => rfl) (fun vs H Q E h => ?_) (fun cdv A outer s H vs Q E hr h => ?_)
  · obtain ⟨B, p, c, rfl, _⟩ := h
    rfl
  · obtain ⟨B, p, c, rfl, e, hb, hP, c0, c5, k⟩ := h
    have nd := sc_l_names.nd
    refine ⟨_, pss_cons (ps_set (i := 2) nd rfl (by first | exact Or.inl rfl | exact Or.inr rfl) (pe_lst pa_nil))
      (pss_cons (ps_for (passes_of rfl) rfl (pi_range1 rfl T.f_range (pa_cons (pv 1) pa_nil)) (pg_name (i := 3) nd rfl (by first | exact Or.inl rfl | exact Or.inr rfl)) (pss_cons (ps_set (i := 4) nd rfl (by first | exact Or.inl rfl | exact Or.inr rfl) (pe_ix ix_tup (pe_tup (pa_cons (pe_str) (pa_cons (pe_str) (pa_cons (pe_str) (pa_cons (pe_str) (pa_cons (pe_str) (pa_cons (pe_str) (pa_cons (pe_str) (pa_cons (pe_str) (pa_cons (pe_str) (pa_cons (pe_str) pa_nil))))))))))) (pe_fn T.d_l_draw (fn_l_draw T) (hr.mono (by decide)) T.g_l_draw pc (pa_cons (pv 0) (pa_cons (pe_int) pa_nil))) (fun _ _ => rfl)))
      (Evl.pss_cut (ps_if (pt_cmpR op_eq (pe_fn T.d_l_draw (fn_l_draw T) (hr.mono (by decide)) T.g_l_draw pc (pa_cons (pv 0) (pa_cons (pe_int) pa_nil))) (pe_int) (nomark _)) (pss_cons (ps_set (i := 4) nd rfl (by first | exact Or.inl rfl | exact Or.inr rfl) (pe_str))
      (pss_one (ps_for (passes_of rfl) rfl (pi_range1 rfl T.f_range (pa_cons (pe_op op_add (pe_int) (pe_fn T.d_l_draw (fn_l_draw T) (hr.mono (by decide)) T.g_l_draw pc (pa_cons (pv 0) (pa_cons (pe_int) pa_nil)))) pa_nil)) (pg_name (i := 5) nd rfl (by first | exact Or.inl rfl | exact Or.inr rfl)) (pss_one (ps_set (i := 4) nd rfl (by first | exact Or.inl rfl | exact Or.inr rfl) (pe_op op_add_str (pv 4) (pe_ix ix_str (pe_str) (pe_fn T.d_l_draw (fn_l_draw T) (hr.mono (by decide)) T.g_l_draw pc (pa_cons (pv 0) (pa_cons (pe_int) pa_nil))) (fun _ _ => rfl)))))))) (pss_nil))
      (Evl.pss_cut (ps_if (pt_cmpR op_in_seq (pv 4) (pe_tup (pa_cons (pe_str) (pa_cons (pe_str) (pa_cons (pe_str) (pa_cons (pe_str) (pa_cons (pe_str) (pa_cons (pe_str) (pa_cons (pe_str) (pa_cons (pe_str) (pa_cons (pe_str) (pa_cons (pe_str) (pa_cons (pe_str) (pa_cons (pe_str) (pa_cons (pe_str) (pa_cons (pe_str) pa_nil))))))))))))))) rfl) (pss_one (ps_set (i := 4) nd rfl (by first | exact Or.inl rfl | exact Or.inr rfl) (pe_str))) (pss_nil))
      (Evl.pss_cut (ps_for (passes_of rfl) rfl (pi_tup (pe_tup (pa_cons (pe_str) (pa_cons (pe_str) (pa_cons (pe_str) (pa_cons (pe_str) (pa_cons (pe_str) (pa_cons (pe_str) pa_nil)))))))) (pg_name (i := 6) nd rfl (by first | exact Or.inl rfl | exact Or.inr rfl)) (pss_one (ps_if (pt_cmpR op_in_seq (pv 4) (pv 2) rfl) (pss_one (ps_set (i := 4) nd rfl (by first | exact Or.inl rfl | exact Or.inr rfl) (pv 6))) (pss_nil))))
      (pss_one (ps_expr (pe_bm PySem.F.plainAttrs_list PySem.F.slot_list_append PySem.F.type_list_append mt_append (pv 2) (pa_cons (pv 4) pa_nil)))))))))
      (pss_one (ps_ret (pv 2)))), ?_⟩
    refine ⟨(by show 0 ≤ sizeLine; decide), fun q nq => ?_⟩
    have hqp : q ≠ p := hP.ne nq
    have s0 : Stp [q, p] B (upd H q (.lst [])) B (upd H q (.lst [])) := Stp.refl (Ex.mut e (ex_none e nq))
    have hbq := ex_none e nq
    refine ⟨_, rfl, c, rfl, by omega, by omega, for_range (lo := 0) (n := c.toNat) (fun i σ H' => ∃ (ns : List Str) (v3 v4 v5 v6 : Option V), Stp [q, p] B (upd H q (.lst [])) B H' ∧ Pool p B H' ∧ H' q = some (.lst (ns.map V.str)) ∧ ns.length = i ∧ ns.Nodup ∧ (∀ x ∈ ns, IsName x) ∧
        σ = [some (.ref p), some (.int c), some (.ref q), v3, v4, v5, v6])
      ⟨[], none, none, none, none, s0, Pool.n1 hP nq, upd_same, rfl, List.nodup_nil, (fun _ h => nomatch h), rfl⟩ ?_ ?_⟩
    · rintro i σ H1 hi ⟨ns, v3, v4, v5, v6, s1, hP1, hq1, hn, hnd, hnm, rfl⟩
      -- one of ten
      refine ⟨(by show 10 ≤ sizeLine; decide), fun t nt => ?_⟩
      have s2 := s1.trans (Stp.cell (o := .tup [.str "x", .str "y", .str "z", .str "ended", .str "i", .str "sets", .str "mods", .str "comers", .str "payed", .str "abcdefgh"]) s1.in_ nt)
      have hP2 := Pool.n1 (o := .tup [.str "x", .str "y", .str "z", .str "ended", .str "i", .str "sets", .str "mods", .str "comers", .str "payed", .str "abcdefgh"]) hP1 nt
      have htp : t ≠ p := hP1.ne nt
      have hq2 := (Ex.new (o := .tup [.str "x", .str "y", .str "z", .str "ended", .str "i", .str "sets", .str "mods", .str "comers", .str "payed", .str "abcdefgh"]) nt) _ _ hq1
      refine ⟨_, rfl, ?_⟩
      dsimp only [tCons, tNil, tC]
      refine draw_s s2.in_ hb hP2 (by decide) (by decide) fun r H3 a0 a1 s3 hP3 hne => ?_
      have s4 := s2.trans (s3.wk (ns := [q, p]) (by simp))
      have hq3 : H3 q = _ := (hne q hqp).trans hq2
      obtain ⟨y, ey, my, _⟩ := at_get (xs := [V.str "x", V.str "y", V.str "z", V.str "ended", V.str "i", V.str "sets", V.str "mods", V.str "comers", V.str "payed", V.str "abcdefgh"]) a0 a1
      obtain ⟨x0, rfl, hx0⟩ : ∃ x0, y = V.str x0 ∧ Low x0 := by
        simp only [List.mem_cons, List.not_mem_nil, or_false] at my
        rcases my with rfl | rfl | rfl | rfl | rfl | rfl | rfl | rfl | rfl | rfl <;> exact ⟨_, rfl, wrd _ (by simp)⟩
      refine ⟨t, _, _, _, rfl, rfl, SqT.of ((hne t htp).trans upd_same), ey, ?_⟩
      -- or letters
      refine ⟨fun σ H' => ∃ (x : Str) (v5 : Option V), Stp [q, p] B (upd H q (.lst [])) B H' ∧ Pool p B H' ∧ H' q = some (.lst (ns.map V.str)) ∧ Low x ∧ σ = [some (.ref p), some (.int c), some (.ref q), some (.int (0 + (i : Int))), some (.str x), v5, v6], ?_, ?_⟩
      · refine ⟨_, rfl, ?_⟩
        dsimp only [tCons, tNil, tC]
        refine draw_s s4.in_ hb hP3 (by decide) (by decide) fun r2 H4 b0 b1 s5 hP4 hne2 => ?_
        have s6 := s4.trans (s5.wk (ns := [q, p]) (by simp))
        have hq4 : H4 q = _ := (hne2 q hqp).trans hq3
        refine ⟨rfl, _, rfl, ite2 (fun _ => ?_) fun _ => ⟨x0, _, s6, hP4, hq4, hx0, rfl⟩⟩
        refine ⟨_, rfl, ?_⟩
        dsimp only [tCons, tNil, tC]
        refine draw_s s6.in_ hb hP4 (by decide) (by decide) fun r3 H5 c0 c1 s7 hP5 hne3 => ?_
        have s8 := s6.trans (s7.wk (ns := [q, p]) (by simp))
        have hq5 : H5 q = _ := (hne3 q hqp).trans hq4
        refine ⟨_, _, rfl, rfl, 1 + r3, rfl, by omega, by omega, for_range (D := ⟨_, _, fun _ _ => False, fun _ _ => False⟩) (lo := 0) (n := (1 + r3).toNat) (fun j σ H' => ∃ (x : Str) (v5 : Option V), Stp [q, p] B (upd H q (.lst [])) B H' ∧ Pool p B H' ∧ H' q = some (.lst (ns.map V.str)) ∧ x.length = j ∧ (∀ c ∈ x.cps.toList, 97 ≤ c ∧ c ≤ 122) ∧ σ = [some (.ref p), some (.int c), some (.ref q), some (.int (0 + (i : Int))), some (.str x), v5, v6])
          ⟨Str.ofString "", v5, s8, hP5, hq5, rfl, (by decide +kernel), rfl⟩ ?_ ?_⟩
        · rintro j σ H6 hj ⟨x, v5', s9, hP6, hq6, hxl, hxc, rfl⟩
          refine ⟨_, rfl, _, rfl, ?_⟩
          dsimp only [tCons, tNil, tC]
          refine draw_s s9.in_ hb hP6 (by decide) (by decide) fun r4 H7 d0 d1 s10 hP7 hne4 => ?_
          have hal : (Str.ofString "abcdefghijklmnopqrstuvwxyz").cps.toList.length = 26 := by decide +kernel
          obtain ⟨z, ez, mz, _⟩ := at_get (xs := (Str.ofString "abcdefghijklmnopqrstuvwxyz").cps.toList) d0 (by omega)
          have hz : 97 ≤ z ∧ z ≤ 122 := (by decide +kernel : ∀ z ∈ (Str.ofString "abcdefghijklmnopqrstuvwxyz").cps.toList, 97 ≤ z ∧ z ≤ 122) z mz
          refine ⟨_, _, _, rfl, rfl, (by decide +kernel), ez, _, _, rfl, rfl, ?_, ?_⟩
          · have : (Str.mk #[z]).length = 1 := rfl
            have sl : 100000 ≤ sizeLine := by decide
            omega
          · refine ⟨x ++ ⟨#[z]⟩, some (.int (0 + (j : Int))), s9.trans (s10.wk (by simp)), hP7, (hne4 q hqp).trans hq6, by rw [PySem.strLen_append, hxl]; rfl, fun ch hch => ?_, rfl⟩
            have : (x ++ (⟨#[z]⟩ : Str)).cps.toList = x.cps.toList ++ [z] := by
              show (x.cps ++ #[z]).toList = _
              simp
            rw [this] at hch
            rcases List.mem_append.mp hch with hh | hh
            · exact hxc ch hh
            · rw [List.mem_singleton.mp hh]; exact hz
        · rintro σ H6 ⟨x, v5', s9, hP6, hq6, hxl, hxc, rfl⟩
          exact ⟨x, _, s9, hP6, hq6, ⟨by omega, by omega, hxc⟩, rfl⟩
      rintro σ H4 ⟨x1, v5', s5, hP4, hq4, hx1, rfl⟩
      refine ⟨fun σ H' => ∃ (x : Str), Stp [q, p] B (upd H q (.lst [])) B H' ∧ Pool p B H' ∧ H' q = some (.lst (ns.map V.str)) ∧ IsName x ∧ σ = [some (.ref p), some (.int c), some (.ref q), some (.int (0 + (i : Int))), some (.str x), v5', v6], ?_, ?_⟩
      · refine ⟨_, rfl, (by show 14 ≤ sizeLine; decide), fun t2 nt2 => ?_⟩
        have s6 := s5.trans (Stp.cell (p := t2) (o := .tup (KEYS_.map V.str)) s5.in_ nt2)
        have hP5 := Pool.n1 (o := .tup (KEYS_.map V.str)) hP4 nt2
        have hq5 := (Ex.new (o := .tup (KEYS_.map V.str)) nt2) _ _ hq4
        refine ⟨t2, KEYS_.map V.str, rfl, .inr (SqT.of upd_same), rfl, flat_strs _, _, rfl, ite2 (fun c1 => ?_) fun c1 => ?_⟩
        · exact ⟨"q", s6, hP5, hq5, ⟨(wrd "q" (by simp)).1, (wrd "q" (by simp)).2.1, (wrd "q" (by simp)).2.2, wnk "q" (by simp)⟩, rfl⟩
        · have c1' : inV (.str x1) (KEYS_.map V.str) ≠ true := c1
          rw [inV_strs] at c1'
          exact ⟨x1, s6, hP5, hq5, ⟨hx1.1, hx1.2.1, hx1.2.2, fun z => c1' (decide_eq_true z)⟩, rfl⟩
      rintro σ H5 ⟨x2, s6, hP5, hq5, hx2, rfl⟩
      refine ⟨fun σ H' => ∃ (v6 : Option V), Stp [q, p] B (upd H q (.lst [])) B H' ∧ Pool p B H' ∧ H' q = some (.lst (ns.map V.str)) ∧ σ = [some (.ref p), some (.int c), some (.ref q), some (.int (0 + (i : Int))), some (.str (pick ns OTH x2)), v5', v6], ?_, ?_⟩
      · refine ⟨(by show 6 ≤ sizeLine; decide), fun t3 nt3 => ?_⟩
        have s7 := s6.trans (Stp.cell (p := t3) (o := .tup (OTH.map V.str)) s6.in_ nt3)
        have hP6 := Pool.n1 (o := .tup (OTH.map V.str)) hP5 nt3
        have hq6 := (Ex.new (o := .tup (OTH.map V.str)) nt3) _ _ hq5
        refine ⟨t3, rfl, ⟨OTH.map V.str, SqT.of upd_same⟩, for_tup (xs := OTH.map V.str) (fun j σ H' => (upd H5 t3 (.tup (OTH.map V.str))) = H' ∧ ∃ v6, σ = [some (.ref p), some (.int c), some (.ref q), some (.int (0 + (i : Int))), some (.str (pick ns (OTH.take j) x2)), v5', v6]) ⟨rfl, v6, rfl⟩ ?_ ?_ ?_⟩
        · rintro j σ H' _ ⟨rfl, _⟩
          exact SqT.of upd_same
        · rintro j y σ H' hy ⟨rfl, v6', rfl⟩
          obtain ⟨o, ho, rfl⟩ : ∃ o, OTH[j]? = some o ∧ V.str o = y := by
            rw [List.getElem?_map] at hy
            exact Option.map_eq_some_iff.mp hy
          have htk : pick ns (OTH.take (j + 1)) x2 = if pick ns (OTH.take j) x2 ∈ ns then o else pick ns (OTH.take j) x2 := by
            rw [List.take_add_one, ho]
            unfold pick
            rw [List.foldl_append]
            rfl
          refine ⟨_, rfl, _, rfl, q, ns.map V.str, rfl, .inl (SqL.of hq6), rfl, flat_strs _, _, rfl, ite2 (fun c1 => ?_) fun c1 => ?_⟩
          · have c1' : inV (.str (pick ns (OTH.take j) x2)) (ns.map V.str) = true := c1
            rw [inV_strs] at c1'
            have := of_decide_eq_true c1'
            exact ⟨_, rfl, rfl, _, by rw [htk, if_pos this]; rfl⟩
          · have c1' : inV (.str (pick ns (OTH.take j) x2)) (ns.map V.str) ≠ true := c1
            rw [inV_strs] at c1'
            have hh : ¬ pick ns (OTH.take j) x2 ∈ ns := fun z => c1' (decide_eq_true z)
            exact ⟨rfl, _, by rw [htk, if_neg hh]; rfl⟩
        · rintro σ H' ⟨rfl, v6', rfl⟩
          exact ⟨v6', s7, hP6, hq6, rfl⟩
      rintro σ H6 ⟨v6', s7, hP6, hq6, rfl⟩
      have hlen : ns.length ≤ 5 := by omega
      have hnew := pick_new (x := x2) hlen
      have hnm2 : IsName (pick ns OTH x2) := by
        rcases pick_in (ns := ns) (os := OTH) (x := x2) with e1 | e1
        · rw [e1]; exact hx2
        · have h1 := wrd _ (show pick ns OTH x2 ∈ _ from by
            have : ∀ z ∈ OTH, z ∈ (["x", "y", "z", "ended", "i", "sets", "mods", "comers", "payed", "abcdefgh", "q", "aa", "bb", "cc", "dd", "ee", "ff"] : List Str) := by decide +kernel
            exact this _ e1)
          have h2 := wnk _ (show pick ns OTH x2 ∈ _ from by
            have : ∀ z ∈ OTH, z ∈ (["q", "aa", "bb", "cc", "dd", "ee", "ff"] : List Str) := by decide +kernel
            exact this _ e1)
          exact ⟨h1.1, h1.2.1, h1.2.2, h2⟩
      refine ⟨_, rfl, .inl ⟨rfl, _, SqL.of hq6⟩, _, rfl, q, _, _, rfl, rfl, hq6, ?_, ?_⟩
      · rw [List.length_map]; exact small1000 (by omega)
      · refine ⟨ns ++ [pick ns OTH x2], _, _, _, _, s7.trans (Stp.put s7.in_ hbq (.head _)), ?_, ?_, by simp [hn], ?_, ?_, rfl⟩
        · exact hP6.p1 hqp
        · rw [List.map_append]; exact upd_same
        · rw [List.nodup_append]
          refine ⟨hnd, by simp, ?_⟩
          intro a ha b hb2
          rw [List.mem_singleton.mp hb2]
          exact fun z => hnew (z ▸ ha)
        · intro x hx
          rcases List.mem_append.mp hx with hh | hh
          · exact hnm x hh
          · rw [List.mem_singleton.mp hh]; exact hnm2
    · rintro σ H1 ⟨ns, v3, v4, v5, v6, s1, hP1, hq1, hn, hnd, hnm, rfl⟩
      refine ⟨_, rfl, ?_⟩
      have sc := Stp.close e nq s1 hq1
      refine k _ _ _ ns sc (hP1.of sc.base rfl) (.lst (SqL.of upd_same) (dpa_strs ns)) hnd hnm (by omega)
end
end LL
namespace LL
open PySem PySem.Spec PyProof.Rows L2 He Evl
/-- the words of the other part of a choice -/
def elseW (os : List PyData) (wo : List Str) : List Str := if os = [] then [] else "else" :: wo
/-- rows of statements with their words; branches and moves ahead and behind -/
inductive IsB (ns : List Str) : Nat → Nat → Nat → Nat → Nat → List PyData → List Str → Prop
  | nil {r b m : Nat} : IsB ns r b m b m [] []
  | pay {r b m b2 m2 : Nat} {s : Str} {e : PyData} {we : List Str} {ds : List PyData} {ws : List Str} (hs : s ∈ (["pay", "take"] : List Str)) (he : IsE ns 6 e we) (h : IsB ns r b m b2 m2 ds ws) : IsB ns r b m b2 m2 (.tuple [.str s, e] :: ds) (s :: we ++ ws)
  | show_ {r b m b2 m2 : Nat} {s : Str} {e : PyData} {we : List Str} {ds : List PyData} {ws : List Str} (hs : s ∈ (["chooser", "comer"] : List Str)) (he : IsE ns 6 e we) (h : IsB ns r b m b2 m2 ds ws) : IsB ns r b m b2 m2 (.tuple [.str "show", .str s, e] :: ds) (("show" : Str) :: s :: we ++ ws)
  | set_ {r b m b2 m2 : Nat} {s : Str} {e : PyData} {we : List Str} {ds : List PyData} {ws : List Str} (hs : s ∈ ns) (he : IsE ns 6 e we) (h : IsB ns r b m b2 m2 ds ws) : IsB ns r b m b2 m2 (.tuple [.str "set", .str s, e] :: ds) (("set" : Str) :: s :: we ++ ws)
  | draw {r b m b2 m2 : Nat} {s : Str} {n : Int} {ds : List PyData} {ws : List Str} (hs : s ∈ ns) (h0 : 1 ≤ n) (h1 : n ≤ 8) (hb : b < 10) (h : IsB ns r (b + 1) m b2 m2 ds ws) : IsB ns r b m b2 m2 (.tuple [.str "draw", .str s, .int n] :: ds) (("draw" : Str) :: s :: istr n :: ws)
  | move {r b m b2 m2 : Nat} {c s : Str} {n : Int} {ds : List PyData} {ws : List Str} (hc : c ∈ (["choose", "come"] : List Str)) (hs : s ∈ ns) (h0 : 1 ≤ n) (h1 : n ≤ 8) (hb : b < 10) (h : IsB ns r (b + 1) (m + 1) b2 m2 ds ws) : IsB ns r b m b2 m2 (.tuple [.str c, .str s, .int n, .int m] :: ds) (c :: s :: istr n :: ws)
  | ite {r b m b1 m1 b2 m2 b3 m3 : Nat} {e : PyData} {we wt wo ws : List Str} {ts os ds : List PyData} (he : IsE ns 6 e we) (ht : IsB ns r b m b1 m1 ts wt) (ho : IsB ns r b1 m1 b2 m2 os wo) (lt : ts.length ≤ 3) (lo : os.length ≤ 2) (h : IsB ns (r + 1) b2 m2 b3 m3 ds ws) : IsB ns (r + 1) b m b3 m3 (.tuple [.str "if", e, .tuple ts, .tuple os] :: ds) (("if" : Str) :: we ++ wt ++ elseW os wo ++ [("end" : Str)] ++ ws)
theorem IsB.app {ns : List Str} {r b m b1 m1 : Nat} {ds : List PyData} {ws : List Str} (h : IsB ns r b m b1 m1 ds ws) : ∀ {b2 m2 : Nat} {ds2 : List PyData} {ws2 : List Str}, IsB ns r b1 m1 b2 m2 ds2 ws2 → IsB ns r b m b2 m2 (ds ++ ds2) (ws ++ ws2) := by
  induction h with
  | nil => exact fun h => h
  | pay hs he h ih => intro _ _ _ _ h2; have := IsB.pay hs he (ih h2); simpa using this
  | show_ hs he h ih => intro _ _ _ _ h2; have := IsB.show_ hs he (ih h2); simpa using this
  | set_ hs he h ih => intro _ _ _ _ h2; have := IsB.set_ hs he (ih h2); simpa using this
  | draw hs h0 h1 hb h ih => intro _ _ _ _ h2; have := IsB.draw hs h0 h1 hb (ih h2); simpa using this
  | move hc hs h0 h1 hb h ih => intro _ _ _ _ h2; have := IsB.move hc hs h0 h1 hb (ih h2); simpa using this
  | ite he ht ho lt lo h _ _ ih => intro _ _ _ _ h2; have := IsB.ite he ht ho lt lo (ih h2); simpa using this
/-- the head of rows and the rest -/
theorem IsB.split {ns : List Str} {r b m b2 m2 : Nat} {d : PyData} {ds : List PyData} {ws : List Str} (h : IsB ns r b m b2 m2 (d :: ds) ws) : ∃ b1 m1 w1 w2, ws = w1 ++ w2 ∧ IsB ns r b m b1 m1 [d] w1 ∧ IsB ns r b1 m1 b2 m2 ds w2 := by
  cases h with
  | pay hs he h => exact ⟨_, _, _, _, rfl, by simpa using IsB.pay hs he .nil, h⟩
  | show_ hs he h => exact ⟨_, _, _, _, rfl, by simpa using IsB.show_ hs he .nil, h⟩
  | set_ hs he h => exact ⟨_, _, _, _, rfl, by simpa using IsB.set_ hs he .nil, h⟩
  | draw hs h0 h1 hb h => exact ⟨_, _, [_, _, _], _, rfl, IsB.draw hs h0 h1 hb .nil, h⟩
  | move hc hs h0 h1 hb h => exact ⟨_, _, [_, _, _], _, rfl, IsB.move hc hs h0 h1 hb .nil, h⟩
  | ite he ht ho lt lo h => exact ⟨_, _, _, _, rfl, by simpa using IsB.ite he ht ho lt lo .nil, h⟩
def SB : Nat → Nat
  | 0 => 65
  | r + 1 => 66 + 5 * SB r
theorem IsE.len {ns : List Str} {n : Nat} {d : PyData} {ws : List Str} (h : IsE ns n d ws) : ws.length < 2 ^ n := by
  induction h with
  | @num k _ h0 h1 =>
    have := Nat.one_le_two_pow (n := k)
    show 1 < 2 ^ (_ + 1)
    rw [Nat.pow_succ]
    omega
  | @var k _ h =>
    have := Nat.one_le_two_pow (n := k)
    show 1 < 2 ^ (_ + 1)
    rw [Nat.pow_succ]
    omega
  | op h _ _ iha ihb =>
    rw [List.length_cons, List.length_append, Nat.pow_succ]
    omega
theorem sb_le (r : Nat) : 65 ≤ SB r := by
  cases r with
  | zero => exact Nat.le_refl _
  | succ r => show 65 ≤ 66 + _; omega
theorem IsB.len {ns : List Str} {r b m b1 m1 : Nat} {ds : List PyData} {ws : List Str} (h : IsB ns r b m b1 m1 ds ws) : ws.length ≤ ds.length * SB r := by
  induction h with
  | nil => simp
  | @pay r _ _ _ _ _ _ _ _ _ hs he h ih =>
    have h1 := he.len
    have h2 := sb_le r
    simp only [List.length_cons, List.length_append, Nat.add_mul, Nat.one_mul] at *
    omega
  | @show_ r _ _ _ _ _ _ _ _ _ hs he h ih =>
    have h1 := he.len
    have h2 := sb_le r
    simp only [List.length_cons, List.length_append, Nat.add_mul, Nat.one_mul] at *
    omega
  | @set_ r _ _ _ _ _ _ _ _ _ hs he h ih =>
    have h1 := he.len
    have h2 := sb_le r
    simp only [List.length_cons, List.length_append, Nat.add_mul, Nat.one_mul] at *
    omega
  | @draw r _ _ _ _ _ _ _ _ hs h0 h1 hb h ih =>
    have h2 := sb_le r
    simp only [List.length_cons, List.length_append, Nat.add_mul, Nat.one_mul] at *
    omega
  | @move r _ _ _ _ _ _ _ _ _ hc hs h0 h1 hb h ih =>
    have h2 := sb_le r
    simp only [List.length_cons, List.length_append, Nat.add_mul, Nat.one_mul] at *
    omega
  | @ite r _ _ _ _ _ _ _ _ _ we wt wo ws ts os ds he ht ho lt lo h iht iho ih =>
    have h1 := he.len
    have h3 : ts.length * SB r ≤ 3 * SB r := Nat.mul_le_mul_right _ lt
    have h4 : os.length * SB r ≤ 2 * SB r := Nat.mul_le_mul_right _ lo
    have h5 : (elseW os wo).length ≤ 1 + 2 * SB r := by
      unfold elseW
      split
      · simp
      · rw [List.length_cons]; omega
    have h6 : SB (r + 1) = 66 + 5 * SB r := rfl
    simp only [List.length_cons, List.length_append, List.length_nil, Nat.add_mul, Nat.one_mul] at *
    omega
section
variable {P : Program} {w : World} {K : PySem.W.Frag} {mg : Str → Option Value} {base : Heap}
def spValueA (K : PySem.W.Frag) : Sp := fun vs H Q E => ∃ n : Nat, n ≤ 5 ∧ spValue K n vs H Q E
theorem fn_l_valueA (T : Txt K mg) : Fn P w K mg base 8 (ga K "_law_value") (spValueA K) :=
  fun A outer s H us vs Q E hr e0 r ⟨n, hn, h⟩ => (fn_l_value T n).mono (by omega) A outer s H us vs Q E hr e0 r h
theorem val_s {p a : Addr} {B H : Hp} {ns : List Str} {i : Int} {Q : VK} {E : XK} (hi : i = 1 ∨ i = 2 ∨ i = 5) (e : Ex B H) (hb : B p = none) (hP : Pool p B H) (ha : B a = some (.lst (ns.map V.str))) (hl : ns.length ≤ 63)
    (k : ∀ (v : V) (B2 H2 : Hp) (d : PyData) (ws : List Str), Stp [p] B H B2 H2 → Pool p B2 H2 → Dp K B2 v d → IsE ns 6 d ws → Q v H2) : spValueA K [.ref p, .ref a, .int i] H Q E := by
  rcases hi with rfl | rfl | rfl
  · exact ⟨1, by omega, B, p, .ref a, ns, rfl, e, hb, hP, .lst (SqL.of ha) (dpa_strs ns), hl, fun v B2 H2 d s1 hP2 hd ⟨ws, hw⟩ => k v B2 H2 d ws s1 hP2 hd (hw.mono (by omega))⟩
  · exact ⟨2, by omega, B, p, .ref a, ns, rfl, e, hb, hP, .lst (SqL.of ha) (dpa_strs ns), hl, fun v B2 H2 d s1 hP2 hd ⟨ws, hw⟩ => k v B2 H2 d ws s1 hP2 hd (hw.mono (by omega))⟩
  · exact ⟨5, by omega, B, p, .ref a, ns, rfl, e, hb, hP, .lst (SqL.of ha) (dpa_strs ns), hl, fun v B2 H2 d s1 hP2 hd ⟨ws, hw⟩ => k v B2 H2 d ws s1 hP2 hd (hw.mono (by omega))⟩
/-- one of a tuple, drawn -/
theorem pick_t {σ : L2.St} {H : Hp} {Q : VK} {E : XK} {tt : TA} {ti : TE} {p : Addr} {B : Hp} {xs : List V} {n : Int} (e : Ex B H) (hb : B p = none) (hP : Pool p B H) (ht : ∀ H (Q' : List V → Hp → Prop), Q' xs H → tt σ H Q') (hi : ∀ H Q', spDraw [.ref p, .int n] H Q' E → ti σ H Q')
    (hn : (xs.length : Int) = n) (h0 : 0 < n) (h1 : n ≤ 1000)
    (k : ∀ (y : V) (H2 : Hp), y ∈ xs → Stp [p] B H B H2 → Pool p B H2 → Q y H2) : tOp (rIxT K) (tTup tt) ti σ H Q := by
  have hz : xs.length ≤ sizeLine := by
    have h : (1000 : Nat) ≤ sizeLine := by decide
    omega
  refine ht _ _ ⟨hz, fun t nt => hi _ _ ?_⟩
  have s1 := Stp.cell (ms := [p]) (o := .tup xs) e nt
  have hP1 := Pool.n1 (o := .tup xs) hP nt
  have htp : t ≠ p := hP.ne nt
  refine draw_s s1.in_ hb hP1 h0 (by omega) fun r H3 b0 b1 s3 hP3 hne => ?_
  obtain ⟨y, ey, my, _⟩ := at_get (xs := xs) b0 (by omega)
  exact ⟨t, _, _, _, rfl, rfl, SqT.of ((hne t htp).trans upd_same), ey, k y H3 my (s1.trans s3) hP3⟩
/-- one of the names, drawn -/
theorem name_t {σ : L2.St} {H : Hp} {Q : VK} {E : XK} {ta ti : TE} {p a : Addr} {B : Hp} {ns : List Str} (e : Ex B H) (hb : B p = none) (hP : Pool p B H) (ha : B a = some (.lst (ns.map V.str))) (h0 : 0 < ns.length) (hl : ns.length ≤ 63)
    (ht : ∀ Q' : VK, Q' (.ref a) H → ta σ H Q') (hi : ∀ Q', SqL K H a (ns.map V.str) → spDraw [.ref p, .int ((ns.map V.str).length : Int)] H Q' E → ti σ H Q')
    (k : ∀ (z : Str) (H2 : Hp), z ∈ ns → Stp [p] B H B H2 → Pool p B H2 → Q (.str z) H2) : tOp (rIxL K) ta ti σ H Q := by
  refine ht _ (hi _ (SqL.of (e _ _ ha)) ?_)
  refine draw_s e hb hP (by rw [List.length_map]; omega) (by rw [List.length_map]; omega) fun r H3 b0 b1 s3 hP3 hne => ?_
  obtain ⟨y, ey, my, _⟩ := at_get (xs := ns.map V.str) b0 b1
  obtain ⟨z, hz, rfl⟩ := List.mem_map.mp my
  exact ⟨a, _, _, _, rfl, rfl, SqL.of (s3.in_ _ _ ha), ey, k z H3 hz s3 hP3⟩
def scL (a : Addr) (ch co dr : Nat) (m : Int) : List (Key × V) := [(.inr "names", .ref a), (.inr "choose", .int ch), (.inr "come", .int co), (.inr "draw", .int dr), (.inr "most", .int 8), (.inr "next", .int m)]
def Scp (q a : Addr) (ns : List Str) (b m : Nat) (B H : Hp) : Prop := ∃ ch co dr : Nat, H q = some (.dK (scL a ch co dr m)) ∧ B a = some (.lst (ns.map V.str)) ∧ ch + co + dr + b ≤ 10 ∧ B q = none
theorem Scp.stp {q a : Addr} {ns : List Str} {b m : Nat} {ms : List Addr} {B H B2 H2 : Hp} (h : Scp q a ns b m B H) (s : Stp ms B H B2 H2) (n : q ∉ ms) : Scp q a ns b m B2 H2 := by
  obtain ⟨ch, co, dr, h1, h2, h3, h4⟩ := h
  exact ⟨ch, co, dr, s.fr _ _ n h1, s.base _ _ h2, h3, s.off h4 h1⟩
theorem Scp.nep {p q a : Addr} {ns : List Str} {b m : Nat} {B H : Hp} (h : Scp q a ns b m B H) (hP : Pool p B H) : q ≠ p := fun z => by
  obtain ⟨_, _, _, h1, _⟩ := h
  obtain ⟨_, h2, _⟩ := hP
  rw [z, h2] at h1
  cases h1
theorem sc_word {a : Addr} {ch co dr : Nat} {m : Int} {s : Str} (hs : s = "choose" ∨ s = "come" ∨ s = "draw") : ∃ c : Nat, valV (scL a ch co dr m) (.inr s) = some (.int c) ∧ (0 < c → ∃ ch' co' dr' : Nat, putK (scL a ch co dr m) (.inr s) (.int ((c : Int) - 1)) = scL a ch' co' dr' m ∧ ch' + co' + dr' + 1 = ch + co + dr) := by
  rcases hs with rfl | rfl | rfl
  · refine ⟨ch, rfl, fun h => ⟨ch - 1, co, dr, ?_, by omega⟩⟩
    rw [show ((ch : Int) - 1) = ((ch - 1 : Nat) : Int) by omega]
    rfl
  · refine ⟨co, rfl, fun h => ⟨ch, co - 1, dr, ?_, by omega⟩⟩
    rw [show ((co : Int) - 1) = ((co - 1 : Nat) : Int) by omega]
    rfl
  · refine ⟨dr, rfl, fun h => ⟨ch, co, dr - 1, ?_, by omega⟩⟩
    rw [show ((dr : Int) - 1) = ((dr - 1 : Nat) : Int) by omega]
    rfl
end
end LL
namespace LL
open PySem PySem.Spec PyProof.Rows L2 He Evl
section
variable {P : Program} {w : World} {K : PySem.W.Frag} {mg : Str → Option Value} {base : Heap}
def spStmt (K : PySem.W.Frag) (r : Nat) : Sp := fun vs H Q _ => ∃ (B : Hp) (p q a : Addr) (ns : List Str) (b m : Nat), vs = [.ref p, .ref q, .int (r : Int)] ∧ Ex B H ∧ B p = none ∧ Pool p B H ∧ Scp q a ns b m B H ∧ ns.length ≤ 63 ∧
  ∀ (v : V) (B2 H2 : Hp) (d : PyData) (ws : List Str) (b2 m2 : Nat), Stp [p, q] B H B2 H2 → Pool p B2 H2 → Scp q a ns b2 m2 B2 H2 → Dp K B2 v d → IsB ns r b m b2 m2 [d] ws → Q v H2
def spBlock (K : PySem.W.Frag) (r : Nat) : Sp := fun vs H Q _ => ∃ (B : Hp) (p q a : Addr) (ns : List Str) (b m : Nat) (mo : Int), vs = [.ref p, .ref q, .int (r : Int), .int mo] ∧ Ex B H ∧ B p = none ∧ Pool p B H ∧ Scp q a ns b m B H ∧ ns.length ≤ 63 ∧ 0 ≤ mo ∧ mo ≤ 9 ∧
  ∀ (v : V) (B2 H2 : Hp) (ds : List PyData) (ws : List Str) (b2 m2 : Nat), Stp [p, q] B H B2 H2 → Pool p B2 H2 → Scp q a ns b2 m2 B2 H2 → Dp K B2 v (.tuple ds) → IsB ns r b m b2 m2 ds ws → (ds.length : Int) ≤ mo → Q v H2
def spBlockP (K : PySem.W.Frag) : Nat → Sp
  | 0 => fun _ _ _ _ => False
  | r + 1 => spBlock K r
theorem w1 {p q : Addr} : ∀ x ∈ [p], x ∈ [p, q] := by simp
theorem fn_stmt (T : Txt K mg) (r : Nat) (IH : Fn P w K mg base (8 + 2 * r) (ga K "_law_block") (spBlockP K r)) : Fn P w K mg base (8 + 2 * r + 1) (ga K "_law_statement") (spStmt K r) := by
  refine fn_def T.d_l_statement sc_l_statement (fun _ _ _ _ _ _ us hl => match us, hl with | [_, _, _], _ => rfl) (fun vs H Q E h => ?_) (fun cdv A outer s H vs Q E hr h => ?_)
  · obtain ⟨B, p, q, a, ns, b, m, rfl, _⟩ := h
    rfl
  obtain ⟨B, p, q, a, ns, b, m, rfl, e, hb, hP, hS, hl, k⟩ := h
  have nd := sc_l_statement.nd
  have hr1 : Room 1 _ := hr.mono (by omega)
  have hr2 : Room 8 _ := hr.mono (by omega)
  refine ⟨_, pss_cons (ps_set (i := 3) nd rfl (by first | exact Or.inl rfl | exact Or.inr rfl) (pe_fn T.d_l_draw (fn_l_draw T) hr1 T.g_l_draw pc (pa_cons (pv 0) (pa_cons (pe_int) pa_nil))))
      (pss_cons (ps_set (i := 4) nd rfl (by first | exact Or.inl rfl | exact Or.inr rfl) (pe_dget (hu_of hr) (pv 1) (pe_str) (fun _ _ => rfl)))
      (Evl.pss_cut (ps_if (PW.pt (pw_and (pt_cmpR op_lt (pv 3) (pe_int) (nomark _)) (pw_and1 (pt_cmpR op_gt (pe_callB call_len_seq (by rfl) T.f_len PySem.boot_len (pa_cons (pv 4) pa_nil)) (pe_int) (nomark _))))) (pss_cons (ps_set (i := 5) nd rfl (by first | exact Or.inl rfl | exact Or.inr rfl) (pe_ix ix_tup (pe_tup (pa_cons (pe_str) (pa_cons (pe_str) (pa_cons (pe_str) (pa_cons (pe_str) (pa_cons (pe_str) (pa_cons (pe_str) pa_nil))))))) (pv 3) (fun _ _ => rfl)))
      (pss_one (ps_if (pt_cmpR op_gt (pe_dget (hu_of hr) (pv 1) (pv 5) (fun _ _ => rfl)) (pe_int) (nomark _)) (pss_cons (ps_dput (hu_of hr) (pv 1) (pv 5) (pe_op op_sub (pe_dget (hu_of hr) (pv 1) (pv 5) (fun _ _ => rfl)) (pe_int)) rfl)
      (pss_cons (ps_set (i := 6) nd rfl (by first | exact Or.inl rfl | exact Or.inr rfl) (pe_tup (pa_cons (pv 5) (pa_cons (pe_ix ix_list (pv 4) (pe_fn T.d_l_draw (fn_l_draw T) hr1 T.g_l_draw pc (pa_cons (pv 0) (pa_cons (pe_callB call_len_seq (by rfl) T.f_len PySem.boot_len (pa_cons (pv 4) pa_nil)) pa_nil))) (fun _ _ => rfl)) (pa_cons (pe_op op_add (pe_int) (pe_fn T.d_l_draw (fn_l_draw T) hr1 T.g_l_draw pc (pa_cons (pv 0) (pa_cons (pe_dget (hu_of hr) (pv 1) (pe_str) (fun _ _ => rfl)) pa_nil)))) pa_nil)))))
      (pss_cons (ps_if (pt_cmpR op_eq (pv 5) (pe_str) (nomark _)) (pss_one (ps_ret (pv 6))) (pss_nil))
      (pss_cons (ps_dput (hu_of hr) (pv 1) (pe_str) (pe_op op_add (pe_dget (hu_of hr) (pv 1) (pe_str) (fun _ _ => rfl)) (pe_int)) rfl)
      (pss_one (ps_ret (pe_op op_catT (pv 6) (pe_tup (pa_cons (pe_op op_sub (pe_dget (hu_of hr) (pv 1) (pe_str) (fun _ _ => rfl)) (pe_int)) pa_nil))))))))) (pss_nil)))) (pss_nil))
      (Evl.pss_cut (ps_if (PW.pt (pw_and (pt_cmpR op_lt (pv 3) (pe_int) (nomark _)) (pw_and1 (pt_cmpR op_gt (pv 2) (pe_int) (nomark _))))) (pss_cons (ps_set (i := 7) nd rfl (by first | exact Or.inl rfl | exact Or.inr rfl) (pe_fn T.d_l_value (fn_l_valueA T) hr2 T.g_l_value pc (pa_cons (pv 0) (pa_cons (pv 4) (pa_cons (pe_ix ix_tup (pe_tup (pa_cons (pe_int) (pa_cons (pe_int) (pa_cons (pe_int) pa_nil)))) (pe_fn T.d_l_draw (fn_l_draw T) hr1 T.g_l_draw pc (pa_cons (pv 0) (pa_cons (pe_int) pa_nil))) (fun _ _ => rfl)) pa_nil)))))
      (pss_cons (ps_set (i := 8) nd rfl (by first | exact Or.inl rfl | exact Or.inr rfl) (pe_fn T.d_l_block IH hr T.g_l_block pc (pa_cons (pv 0) (pa_cons (pv 1) (pa_cons (pe_op op_sub (pv 2) (pe_int)) (pa_cons (pe_int) pa_nil))))))
      (pss_one (ps_ret (pe_tup (pa_cons (pe_str) (pa_cons (pv 7) (pa_cons (pv 8) (pa_cons (pe_fn T.d_l_block IH hr T.g_l_block pc (pa_cons (pv 0) (pa_cons (pv 1) (pa_cons (pe_op op_sub (pv 2) (pe_int)) (pa_cons (pe_int) pa_nil))))) pa_nil))))))))) (pss_nil))
      (Evl.pss_cut (ps_if (PW.pt (pw_and (pt_cmpR op_eq (pv 3) (pe_int) (nomark _)) (pw_and1 (pt_cmpR op_gt (pe_callB call_len_seq (by rfl) T.f_len PySem.boot_len (pa_cons (pv 4) pa_nil)) (pe_int) (nomark _))))) (pss_one (ps_ret (pe_tup (pa_cons (pe_str) (pa_cons (pe_ix ix_list (pv 4) (pe_fn T.d_l_draw (fn_l_draw T) hr1 T.g_l_draw pc (pa_cons (pv 0) (pa_cons (pe_callB call_len_seq (by rfl) T.f_len PySem.boot_len (pa_cons (pv 4) pa_nil)) pa_nil))) (fun _ _ => rfl)) (pa_cons (pe_fn T.d_l_value (fn_l_valueA T) hr2 T.g_l_value pc (pa_cons (pv 0) (pa_cons (pv 4) (pa_cons (pe_ix ix_tup (pe_tup (pa_cons (pe_int) (pa_cons (pe_int) (pa_cons (pe_int) pa_nil)))) (pe_fn T.d_l_draw (fn_l_draw T) hr1 T.g_l_draw pc (pa_cons (pv 0) (pa_cons (pe_int) pa_nil))) (fun _ _ => rfl)) pa_nil)))) pa_nil)))))) (pss_nil))
      (pss_cons (ps_if (pt_cmpR op_lt (pv 3) (pe_int) (nomark _)) (pss_one (ps_ret (pe_tup (pa_cons (pe_str) (pa_cons (pe_ix ix_tup (pe_tup (pa_cons (pe_str) (pa_cons (pe_str) pa_nil))) (pe_fn T.d_l_draw (fn_l_draw T) hr1 T.g_l_draw pc (pa_cons (pv 0) (pa_cons (pe_int) pa_nil))) (fun _ _ => rfl)) (pa_cons (pe_fn T.d_l_value (fn_l_valueA T) hr2 T.g_l_value pc (pa_cons (pv 0) (pa_cons (pv 4) (pa_cons (pe_ix ix_tup (pe_tup (pa_cons (pe_int) (pa_cons (pe_int) (pa_cons (pe_int) pa_nil)))) (pe_fn T.d_l_draw (fn_l_draw T) hr1 T.g_l_draw pc (pa_cons (pv 0) (pa_cons (pe_int) pa_nil))) (fun _ _ => rfl)) pa_nil)))) pa_nil)))))) (pss_nil))
      (pss_one (ps_ret (pe_tup (pa_cons (pe_ix ix_tup (pe_tup (pa_cons (pe_str) (pa_cons (pe_str) (pa_cons (pe_str) pa_nil)))) (pe_fn T.d_l_draw (fn_l_draw T) hr1 T.g_l_draw pc (pa_cons (pv 0) (pa_cons (pe_int) pa_nil))) (fun _ _ => rfl)) (pa_cons (pe_fn T.d_l_value (fn_l_valueA T) hr2 T.g_l_value pc (pa_cons (pv 0) (pa_cons (pv 4) (pa_cons (pe_ix ix_tup (pe_tup (pa_cons (pe_int) (pa_cons (pe_int) (pa_cons (pe_int) pa_nil)))) (pe_fn T.d_l_draw (fn_l_draw T) hr1 T.g_l_draw pc (pa_cons (pv 0) (pa_cons (pe_int) pa_nil))) (fun _ _ => rfl)) pa_nil)))) pa_nil)))))))))), ?_⟩
  have hqp : q ≠ p := hS.nep hP
  have hqn : q ∉ [p] := by simpa using hqp
  refine ⟨_, rfl, ?_⟩
  dsimp only [tCons, tNil, tC]
  refine draw_s e hb hP (by decide) (by decide) fun kd H1 a0 a1 s1 hP1 _ => ?_
  have hS1 := hS.stp s1 hqn
  have s1 := s1.wk (w1 (q := q))
  clear hP hS
  obtain ⟨ch, co, dr, hq1, ha, _⟩ := id hS1
  refine ⟨_, rfl, q, _, rfl, DGet.k (k := .inr "names") hq1, ?_⟩
  refine ⟨fun σ H' => ∃ v5 : Option V, Stp [p, q] B H B H' ∧ Pool p B H' ∧ Scp q a ns b m B H' ∧ σ = [some (.ref p), some (.ref q), some (.int (r : Int)), some (.int kd), some (.ref a), v5, none, none, none], ?_, ?_⟩
  · have en : ∃ v5 : Option V, Stp [p, q] B H B H1 ∧ Pool p B H1 ∧ Scp q a ns b m B H1 ∧ [some (V.ref p), some (.ref q), some (.int (r : Int)), some (.int kd), some (.ref a), none, none, none, none] = [some (.ref p), some (.ref q), some (.int (r : Int)), some (.int kd), some (.ref a), v5, none, none, none] := ⟨none, s1, hP1, hS1, rfl⟩
    have sx := SqL.of (K := K) (s1.in_ _ _ ha)
    refine ⟨_, rfl, _, _, rfl, rfl, _, rfl, ite2 (fun c1 => ?_) fun c1 => iteF en⟩
    refine ⟨_, rfl, a, _, rfl, .inl sx, _, _, rfl, rfl, _, rfl, ite2 (fun c2 => ?_) fun c2 => en⟩
    have hl0 : 0 < ns.length := by
      have := of_decide_eq_true c2
      rw [List.length_map] at this
      omega
    have hk6 : kd < 6 := of_decide_eq_true c1
    obtain ⟨y, ey, my, _⟩ := at_get (xs := [V.str "choose", V.str "come", V.str "draw", V.str "choose", V.str "come", V.str "choose"]) a0 (by show kd < 6; exact hk6)
    obtain ⟨wd, rfl, hw⟩ : ∃ wd : Str, y = V.str wd ∧ (wd = "choose" ∨ wd = "come" ∨ wd = "draw") := by
      simp only [List.mem_cons, List.not_mem_nil, or_false] at my
      rcases my with rfl | rfl | rfl | rfl | rfl | rfl
      · exact ⟨_, rfl, .inl rfl⟩
      · exact ⟨_, rfl, .inr (.inl rfl)⟩
      · exact ⟨_, rfl, .inr (.inr rfl)⟩
      · exact ⟨_, rfl, .inl rfl⟩
      · exact ⟨_, rfl, .inr (.inl rfl)⟩
      · exact ⟨_, rfl, .inl rfl⟩
    refine ⟨(by show 6 ≤ sizeLine; decide), fun t nt => ⟨_, rfl, t, _, _, _, rfl, rfl, SqT.of upd_same, ey, ?_⟩⟩
    have t1 := Stp.cell (ms := []) (o := .tup [V.str "choose", V.str "come", V.str "draw", V.str "choose", V.str "come", V.str "choose"]) s1.in_ nt
    have hP2 := hP1.stp t1 (by simp)
    have hS2 := hS1.stp t1 (by simp)
    have s2 := s1.trans t1.nil
    clear en hP1 hS1
    obtain ⟨ch, co, dr, hq2, ha, hsum, hqb⟩ := id hS2
    obtain ⟨c, hc, hput⟩ := sc_word (a := a) (ch := ch) (co := co) (dr := dr) (m := m) hw
    have hg := DGet.k (k := .inr wd) hq2
    rw [hc] at hg
    refine ⟨_, rfl, _, rfl, q, _, rfl, hg, _, _, rfl, rfl, _, rfl, ite2 (fun c3 => ?_) fun c3 => ⟨_, s2, hP2, hS2, rfl⟩⟩
    have hc0 : 0 < c := by
      have := of_decide_eq_true c3
      omega
    obtain ⟨ch2, co2, dr2, hput, hsum2⟩ := hput hc0
    refine ⟨_, rfl, _, rfl, q, _, rfl, hg, _, _, rfl, rfl, _, rfl, _, rfl, q, _, rfl, DPut.k (k := .inr wd) hq2 (by show 6 < sizeLine; decide), ?_⟩
    rw [hput]
    have t2 := Stp.put (ms := [q]) (o := .dK (scL a ch2 co2 dr2 m)) s2.in_ hqb (.head _)
    have s3 := s2.trans (t2.wk (ns := [p, q]) (by simp))
    have hP3 := hP2.stp t2 (by simpa using hqp.symm)
    have hS3 : Scp q a ns (b + 1) m B (upd (upd H1 t (.tup [V.str "choose", V.str "come", V.str "draw", V.str "choose", V.str "come", V.str "choose"])) q (.dK (scL a ch2 co2 dr2 m))) := ⟨ch2, co2, dr2, upd_same, ha, by omega, hqb⟩
    refine ⟨_, rfl, ?_⟩
    dsimp only [tCons, tNil, tC]
    refine name_t s3.in_ hb hP3 ha hl0 hl (fun _ h => ⟨_, rfl, h⟩) (fun _ hx h => ⟨_, rfl, _, rfl, a, _, rfl, .inl hx, h⟩) fun z H4 hz t4 hP4 => ?_
    have hS4 := hS3.stp t4 hqn
    have s4 := s3.trans (t4.wk w1)
    obtain ⟨ch4, co4, dr4, hq4, _⟩ := id hS4
    refine ⟨_, rfl, _, rfl, q, _, rfl, DGet.k (k := .inr "most") hq4, ?_⟩
    refine draw_s (n := 8) s4.in_ hb hP4 (by decide) (by decide) fun n H5 b0 b1 t5 hP5 _ => ?_
    have hS5 := hS4.stp t5 hqn
    have s5 := s4.trans (t5.wk w1)
    refine ⟨_, _, rfl, rfl, (by show 3 ≤ sizeLine; decide), fun u nu => ?_⟩
    have t6 := Stp.new (ms := []) (o := .tup [V.str wd, V.str z, V.int (1 + n)]) s5.in_ nu
    have hP6 := hP5.stp t6 (by simp)
    have hS6 := hS5.stp t6 (by simp)
    have s6 := s5.trans t6.nil
    refine ⟨_, rfl, rfl, _, rfl, ite2 (fun c4 => ?_) fun c4 => ?_⟩
    · have ew : wd = "draw" := V.str.inj (of_decide_eq_true c4)
      subst ew
      refine ⟨_, rfl, k _ _ _ _ _ _ _ s6 hP6 hS6 (.tup (SqT.of upd_same) (.cons (.str _) (.cons (.str _) (.cons (.int _) .nil)))) (.draw hz (by omega) (by omega) (by omega) .nil)⟩
    · have hw2 : wd ∈ (["choose", "come"] : List Str) := by
        rcases hw with rfl | rfl | rfl
        · simp
        · simp
        · exact absurd rfl c4
      obtain ⟨ch6, co6, dr6, hq6, ha6, hs6, hqb6⟩ := id hS6
      refine ⟨_, rfl, q, _, rfl, DGet.k (k := .inr "next") hq6, _, _, rfl, rfl, _, rfl, q, _, rfl, DPut.k (k := .inr "next") hq6 (by show 6 < sizeLine; decide), ?_⟩
      have t7 := Stp.put (ms := [q]) (o := .dK (scL a ch6 co6 dr6 ((m : Int) + 1))) s6.in_ hqb6 (.head _)
      have s7 := s6.trans (t7.wk (ns := [p, q]) (by simp))
      have hP7 := hP6.stp t7 (by simpa using hqp.symm)
      have hS7 : Scp q a ns (b + 1) (m + 1) (upd B u (.tup [V.str wd, V.str z, V.int (1 + n)])) (upd (upd H5 u (.tup [V.str wd, V.str z, V.int (1 + n)])) q (.dK (scL a ch6 co6 dr6 ((m : Int) + 1)))) := ⟨ch6, co6, dr6, by rw [show ((m + 1 : Nat) : Int) = (m : Int) + 1 by omega]; exact upd_same, ha6, by omega, hqb6⟩
      have hq7 : (upd (upd H5 u (.tup [V.str wd, V.str z, V.int (1 + n)])) q (.dK (scL a ch6 co6 dr6 ((m : Int) + 1)))) q = _ := upd_same
      refine ⟨_, rfl, _, rfl, q, _, rfl, DGet.k (k := .inr "next") hq7, _, _, rfl, rfl, (by show 1 ≤ sizeLine; decide), fun x nx => ?_⟩
      have t8 := Stp.cell (ms := []) (o := .tup [V.int ((m : Int) + 1 - 1)]) s7.in_ nx
      have hP8 := hP7.stp t8 (by simp)
      have hS8 := hS7.stp t8 (by simp)
      have s8 := s7.trans t8.nil
      refine ⟨u, x, [V.str wd, V.str z, V.int (1 + n)], [V.int ((m : Int) + 1 - 1)], rfl, rfl, SqT.of (s8.in_ _ _ upd_same), SqT.of upd_same, by simp, (by show 4 ≤ sizeLine; decide), (fun z => nomatch z), fun _ y ny => ?_⟩
      have t9 := Stp.new (ms := []) (o := .tup ([V.str wd, V.str z, V.int (1 + n)] ++ [V.int ((m : Int) + 1 - 1)])) s8.in_ ny
      have ib : IsB ns r b m (b + 1) (m + 1) [.tuple [.str wd, .str z, .int (1 + n), .int ((m : Int) + 1 - 1)]] [wd, z, istr (1 + n)] := by
        rw [show (m : Int) + 1 - 1 = (m : Int) by omega]
        exact .move hw2 hz (by omega) (by omega) (by omega) .nil
      exact k _ _ _ _ _ _ _ (s8.trans t9.nil) (hP8.stp t9 (by simp)) (hS8.stp t9 (by simp)) (.tup (SqT.of upd_same) (.cons (.str _) (.cons (.str _) (.cons (.int _) (.cons (.int _) .nil))))) ib
  rintro σ H2 ⟨v5, s2, hP2, hS2, rfl⟩
  refine ⟨fun σ H' => H2 = H' ∧ σ = [some (.ref p), some (.ref q), some (.int (r : Int)), some (.int kd), some (.ref a), v5, none, none, none], ?_, ?_⟩
  · refine ⟨_, rfl, _, _, rfl, rfl, _, rfl, ite2 (fun c1 => ?_) fun c1 => iteF ⟨rfl, rfl⟩⟩
    refine ⟨_, rfl, _, _, rfl, rfl, _, rfl, ite2 (fun c2 => ?_) fun c2 => ⟨rfl, rfl⟩⟩
    obtain ⟨r', rfl⟩ : ∃ r', r = r' + 1 := ⟨r - 1, by have := of_decide_eq_true c2; omega⟩
    have er : ((r' + 1 : Nat) : Int) - 1 = (r' : Int) := by omega
    refine ⟨_, rfl, _, rfl, ?_⟩
    dsimp only [tCons, tNil, tC]
    refine pick_t (xs := [.int 1, .int 1, .int 5]) s2.in_ hb hP2 (fun _ _ h => h) (fun _ _ h => ⟨_, rfl, h⟩) rfl (by decide) (by decide) fun y H3 my t3 hP3 => ?_
    obtain ⟨i, rfl, hi⟩ : ∃ i : Int, y = .int i ∧ (i = 1 ∨ i = 2 ∨ i = 5) := by
      simp only [List.mem_cons, List.not_mem_nil, or_false] at my
      rcases my with rfl | rfl | rfl <;> exact ⟨_, rfl, by omega⟩
    have hS3 := hS2.stp t3 hqn
    have s3 := s2.trans (t3.wk w1)
    refine val_s hi s3.in_ hb hP3 ha hl fun v4 B4 H4 d4 w4 t4 hP4 hd4 ie => ?_
    have hS4 := hS3.stp t4 hqn
    have s4 := s3.trans (t4.wk w1)
    have hb4 := t4.off hb hP3.at.choose_spec
    refine ⟨_, rfl, _, rfl, _, rfl, _, _, rfl, rfl, ?_⟩
    refine ⟨B4, p, q, a, ns, b, m, 3, by show [V.ref p, V.ref q, V.int (((r' + 1 : Nat) : Int) - 1), V.int 3] = _; rw [er], s4.in_, hb4, hP4, hS4, hl, by decide, by decide, fun v6 B6 H6 ds6 w6 b6 m6 t6 hP6 hS6 hd6 ib6 hl6 => ?_⟩
    have s6 := s4.trans t6
    have hb6 := t6.off hb4 hP4.at.choose_spec
    refine ⟨_, rfl, _, rfl, _, rfl, _, rfl, _, rfl, _, _, rfl, rfl, ?_⟩
    refine ⟨B6, p, q, a, ns, b6, m6, 2, by show [V.ref p, V.ref q, V.int (((r' + 1 : Nat) : Int) - 1), V.int 2] = _; rw [er], s6.in_, hb6, hP6, hS6, hl, by decide, by decide, fun v7 B7 H7 ds7 w7 b7 m7 t7 hP7 hS7 hd7 ib7 hl7 => ?_⟩
    have s7 := s6.trans t7
    refine ⟨(by show 4 ≤ sizeLine; decide), fun u nu => ?_⟩
    have t9 := Stp.new (ms := []) (o := .tup [V.str "if", v4, v6, v7]) s7.in_ nu
    exact k _ _ _ _ _ _ _ (s7.trans t9.nil) (hP7.stp t9 (by simp)) (hS7.stp t9 (by simp)) (.tup (SqT.of upd_same) (.cons (.str _) (.cons (dp_mono (t6.base.trans (t7.base.trans t9.base)) hd4) (.cons (dp_mono (t7.base.trans t9.base) hd6) (.cons (dp_mono t9.base hd7) .nil))))) (.ite ie ib6 ib7 (by omega) (by omega) .nil)
  rintro σ H' ⟨rfl, rfl⟩
  refine ⟨fun σ H' => H2 = H' ∧ σ = [some (.ref p), some (.ref q), some (.int (r : Int)), some (.int kd), some (.ref a), v5, none, none, none], ?_, ?_⟩
  · refine ⟨_, rfl, rfl, _, rfl, ite2 (fun c1 => ?_) fun c1 => iteF ⟨rfl, rfl⟩⟩
    have sx := SqL.of (K := K) (s2.in_ _ _ ha)
    refine ⟨_, rfl, a, _, rfl, .inl sx, _, _, rfl, rfl, _, rfl, ite2 (fun c2 => ?_) fun c2 => ⟨rfl, rfl⟩⟩
    have hl0 : 0 < ns.length := by
      have := of_decide_eq_true c2
      rw [List.length_map] at this
      omega
    dsimp only [tRet, tTup, tCons, tNil, tC]
    refine name_t s2.in_ hb hP2 ha hl0 hl (fun _ h => ⟨_, rfl, h⟩) (fun _ hx h => ⟨_, rfl, _, rfl, a, _, rfl, .inl hx, h⟩) fun z H3 hz t3 hP3 => ?_
    have hS3 := hS2.stp t3 hqn
    have s3 := s2.trans (t3.wk w1)
    refine ⟨_, rfl, _, rfl, ?_⟩
    refine pick_t (tt := tCons (tC (.int 2)) (tCons (tC (.int 2)) (tCons (tC (.int 5)) tNil))) (xs := [.int 2, .int 2, .int 5]) s3.in_ hb hP3 (fun _ _ h => h) (fun _ _ h => ⟨_, rfl, h⟩) rfl (by decide) (by decide) fun y H4 my t4 hP4 => ?_
    obtain ⟨i, rfl, hi⟩ : ∃ i : Int, y = .int i ∧ (i = 1 ∨ i = 2 ∨ i = 5) := by
      simp only [List.mem_cons, List.not_mem_nil, or_false] at my
      rcases my with rfl | rfl | rfl <;> exact ⟨_, rfl, by omega⟩
    have hS4 := hS3.stp t4 hqn
    have s4 := s3.trans (t4.wk w1)
    refine val_s hi s4.in_ hb hP4 ha hl fun v5 B5 H5 d5 w5 t5 hP5 hd5 ie => ?_
    have hS5 := hS4.stp t5 hqn
    have s5 := s4.trans (t5.wk w1)
    refine ⟨(by show 3 ≤ sizeLine; decide), fun u nu => ?_⟩
    have t9 := Stp.new (ms := []) (o := .tup [V.str "set", V.str z, v5]) s5.in_ nu
    exact k _ _ _ _ _ _ _ (s5.trans t9.nil) (hP5.stp t9 (by simp)) (hS5.stp t9 (by simp)) (.tup (SqT.of upd_same) (.cons (.str _) (.cons (.str _) (.cons (dp_mono t9.base hd5) .nil)))) (.set_ hz ie .nil)
  rintro σ H' ⟨rfl, rfl⟩
  refine ⟨_, rfl, _, _, rfl, rfl, _, rfl, ite2 (fun c1 => ?_) fun c1 => ?_⟩
  · dsimp only [tRet, tTup, tCons, tNil, tC]
    refine pick_t (tt := tCons (tC (.str "chooser")) (tCons (tC (.str "comer")) tNil)) (xs := [.str "chooser", .str "comer"]) s2.in_ hb hP2 (fun _ _ h => h) (fun _ _ h => ⟨_, rfl, h⟩) rfl (by decide) (by decide) fun y H3 my t3 hP3 => ?_
    obtain ⟨z, rfl, hz⟩ : ∃ z : Str, y = .str z ∧ z ∈ (["chooser", "comer"] : List Str) := by
      simp only [List.mem_cons, List.not_mem_nil, or_false] at my
      rcases my with rfl | rfl <;> exact ⟨_, rfl, by simp⟩
    have hS3 := hS2.stp t3 hqn
    have s3 := s2.trans (t3.wk w1)
    refine ⟨_, rfl, _, rfl, ?_⟩
    refine pick_t (tt := tCons (tC (.int 1)) (tCons (tC (.int 1)) (tCons (tC (.int 5)) tNil))) (xs := [.int 1, .int 1, .int 5]) s3.in_ hb hP3 (fun _ _ h => h) (fun _ _ h => ⟨_, rfl, h⟩) rfl (by decide) (by decide) fun y H4 my t4 hP4 => ?_
    obtain ⟨i, rfl, hi⟩ : ∃ i : Int, y = .int i ∧ (i = 1 ∨ i = 2 ∨ i = 5) := by
      simp only [List.mem_cons, List.not_mem_nil, or_false] at my
      rcases my with rfl | rfl | rfl <;> exact ⟨_, rfl, by omega⟩
    have hS4 := hS3.stp t4 hqn
    have s4 := s3.trans (t4.wk w1)
    refine val_s hi s4.in_ hb hP4 ha hl fun v5 B5 H5 d5 w5 t5 hP5 hd5 ie => ?_
    have hS5 := hS4.stp t5 hqn
    have s5 := s4.trans (t5.wk w1)
    refine ⟨(by show 3 ≤ sizeLine; decide), fun u nu => ?_⟩
    have t9 := Stp.new (ms := []) (o := .tup [V.str "show", V.str z, v5]) s5.in_ nu
    exact k _ _ _ _ _ _ _ (s5.trans t9.nil) (hP5.stp t9 (by simp)) (hS5.stp t9 (by simp)) (.tup (SqT.of upd_same) (.cons (.str _) (.cons (.str _) (.cons (dp_mono t9.base hd5) .nil)))) (.show_ hz ie .nil)
  · dsimp only [tNext, tRet, tTup, tCons, tNil, tC]
    refine pick_t (tt := tCons (tC (.str "pay")) (tCons (tC (.str "pay")) (tCons (tC (.str "take")) tNil))) (xs := [.str "pay", .str "pay", .str "take"]) s2.in_ hb hP2 (fun _ _ h => h) (fun _ _ h => ⟨_, rfl, h⟩) rfl (by decide) (by decide) fun y H3 my t3 hP3 => ?_
    obtain ⟨z, rfl, hz⟩ : ∃ z : Str, y = .str z ∧ z ∈ (["pay", "take"] : List Str) := by
      simp only [List.mem_cons, List.not_mem_nil, or_false] at my
      rcases my with rfl | rfl | rfl <;> exact ⟨_, rfl, by simp⟩
    have hS3 := hS2.stp t3 hqn
    have s3 := s2.trans (t3.wk w1)
    refine ⟨_, rfl, _, rfl, ?_⟩
    refine pick_t (tt := tCons (tC (.int 2)) (tCons (tC (.int 2)) (tCons (tC (.int 5)) tNil))) (xs := [.int 2, .int 2, .int 5]) s3.in_ hb hP3 (fun _ _ h => h) (fun _ _ h => ⟨_, rfl, h⟩) rfl (by decide) (by decide) fun y H4 my t4 hP4 => ?_
    obtain ⟨i, rfl, hi⟩ : ∃ i : Int, y = .int i ∧ (i = 1 ∨ i = 2 ∨ i = 5) := by
      simp only [List.mem_cons, List.not_mem_nil, or_false] at my
      rcases my with rfl | rfl | rfl <;> exact ⟨_, rfl, by omega⟩
    have hS4 := hS3.stp t4 hqn
    have s4 := s3.trans (t4.wk w1)
    refine val_s hi s4.in_ hb hP4 ha hl fun v5 B5 H5 d5 w5 t5 hP5 hd5 ie => ?_
    have hS5 := hS4.stp t5 hqn
    have s5 := s4.trans (t5.wk w1)
    refine ⟨(by show 2 ≤ sizeLine; decide), fun u nu => ?_⟩
    have t9 := Stp.new (ms := []) (o := .tup [V.str z, v5]) s5.in_ nu
    exact k _ _ _ _ _ _ _ (s5.trans t9.nil) (hP5.stp t9 (by simp)) (hS5.stp t9 (by simp)) (.tup (SqT.of upd_same) (.cons (.str _) (.cons (dp_mono t9.base hd5) .nil))) (.pay hz ie .nil)
end
end LL
namespace LL
open PySem PySem.Spec PyProof.Rows L2 He Evl
theorem upd_twice {H : Hp} {a : Addr} {o u : HO} : upd (upd H a o) a u = upd H a u := by
  funext b
  by_cases z : b = a
  · subst z; rw [upd_same, upd_same]
  · rw [upd_ne z, upd_ne z, upd_ne z]
theorem dpa_app {K : PySem.W.Frag} {H : Hp} : ∀ {vs : List V} {ds : List PyData}, DpAll K H vs ds → ∀ {v : V} {d : PyData}, Dp K H v d → DpAll K H (vs ++ [v]) (ds ++ [d])
  | _, _, .nil, _, _, h => .cons h .nil
  | _, _, .cons h1 h2, _, _, h => .cons h1 (dpa_app h2 h)
section
variable {P : Program} {w : World} {K : PySem.W.Frag} {mg : Str → Option Value} {base : Heap}
theorem fn_block1 (T : Txt K mg) (r : Nat) (IH : Fn P w K mg base (8 + 2 * r + 1) (ga K "_law_statement") (spStmt K r)) : Fn P w K mg base (8 + 2 * r + 1 + 1) (ga K "_law_block") (spBlock K r) := by
  refine fn_def T.d_l_block sc_l_block (fun _ _ _ _ _ _ us hl => match us, hl with | [_, _, _, _], _ => rfl) (fun vs H Q E h => ?_) (fun cdv A outer s H vs Q E hr h => ?_)
  · obtain ⟨B, p, q, a, ns, b, m, mo, rfl, _⟩ := h
    rfl
  obtain ⟨B, p, q, a, ns, b, m, mo, rfl, e, hb, hP, hS, hl, m0, m9, k⟩ := h
  have nd := sc_l_block.nd
  have hr1 : Room 1 _ := hr.mono (by omega)
  refine ⟨_, pss_cons (ps_set (i := 4) nd rfl (by first | exact Or.inl rfl | exact Or.inr rfl) (pe_lst pa_nil))
      (pss_cons (ps_for (passes_of rfl) rfl (pi_range1 rfl T.f_range (pa_cons (pe_fn T.d_l_draw (fn_l_draw T) hr1 T.g_l_draw pc (pa_cons (pv 0) (pa_cons (pe_op op_add (pv 3) (pe_int)) pa_nil))) pa_nil)) (pg_name (i := 5) nd rfl (by first | exact Or.inl rfl | exact Or.inr rfl)) (pss_one (ps_if (pt_val (pe_fn T.d_l_spend (fn_l_spend T) hr1 T.g_l_spend pc (pa_cons (pv 0) pa_nil))) (pss_one (ps_expr (pe_bm PySem.F.plainAttrs_list PySem.F.slot_list_append PySem.F.type_list_append mt_append (pv 4) (pa_cons (pe_fn T.d_l_statement IH hr T.g_l_statement pc (pa_cons (pv 0) (pa_cons (pv 1) (pa_cons (pv 2) pa_nil)))) pa_nil)))) (pss_nil))))
      (pss_one (ps_ret (pe_callTy call_tuple_of (by rfl) T.f_tuple (by decide +kernel) (pa_cons (pv 4) pa_nil))))), ?_⟩
  have hqp : q ≠ p := hS.nep hP
  have hqn : q ∉ [p] := by simpa using hqp
  refine ⟨(by show 0 ≤ sizeLine; decide), fun c nc => ?_⟩
  have e0 : Ex B (upd H c (.lst [])) := Ex.mut e (ex_none e nc)
  have hcp : c ≠ p := hP.ne nc
  have hP0 := hP.n1 (o := .lst []) nc
  have hS0 := hS.stp (Stp.cell (ms := []) (o := .lst []) e nc) (by simp)
  have hcq : c ≠ q := fun z => by
    obtain ⟨_, _, _, h1, _⟩ := hS
    rw [← z, nc] at h1
    cases h1
  have hcn : c ∉ [p, q] := by simp [hcp, hcq]
  refine ⟨_, rfl, _, rfl, _, _, rfl, rfl, ?_⟩
  dsimp only [tCons, tNil, tC]
  refine draw_s e0 hb hP0 (by omega) (by omega) fun n H1 a0 a1 s1 hP1 hne => ?_
  have hS1 := hS0.stp s1 hqn
  refine ⟨n, rfl, by omega, by omega, for_range (D := ⟨_, _, fun _ _ => False, fun _ _ => False⟩) (lo := 0) (n := n.toNat)
    (fun i σ H' => ∃ (B' : Hp) (vs : List V) (ds : List PyData) (ws : List Str) (b' m' : Nat) (v5 : Option V), Stp [c, p, q] B (upd H c (.lst [])) B' H' ∧ Pool p B' H' ∧ Scp q a ns b' m' B' H' ∧ H' c = some (.lst vs) ∧ DpAll K B' vs ds ∧ IsB ns r b m b' m' ds ws ∧ ds.length ≤ i ∧
      B' p = none ∧ σ = [some (.ref p), some (.ref q), some (.int (r : Int)), some (.int mo), some (.ref c), v5]) ?_ ?_ ?_⟩
  · exact ⟨B, [], [], [], b, m, none, s1.wk (by simp), hP1, hS1, (hne c hcp).trans upd_same, .nil, .nil, Nat.le_refl _, hb, rfl⟩
  · rintro i σ H2 hi ⟨B2, vs, ds, ws, b2, m2, v5, s2, hP2, hS2, hc2, hd2, ib2, hl2, hb2, rfl⟩
    refine ⟨_, rfl, B2, p, rfl, s2.in_, hb2, hP2, fun bb H3 t3 hP3 => ?_⟩
    have hS3 := hS2.stp t3 hqn
    have s3 := s2.trans (t3.wk (ns := [c, p, q]) (by simp))
    have hc3 := t3.fr c _ (by simpa using hcp) hc2
    refine ⟨_, rfl, ite2 (fun c1 => ?_) fun c1 => ⟨B2, vs, ds, ws, b2, m2, _, s3, hP3, hS3, hc3, hd2, ib2, by omega, hb2, rfl⟩⟩
    refine ⟨_, rfl, .inl ⟨rfl, _, SqL.of hc3⟩, _, rfl, _, rfl, _, rfl, B2, p, q, a, ns, b2, m2, rfl, s3.in_, hb2, hP3, hS3, hl, fun v B4 H4 d4 w4 b4 m4 t4 hP4 hS4 hd4 ib4 => ?_⟩
    have s4 := s3.trans (t4.wk (ns := [c, p, q]) (by simp))
    have hc4 := t4.fr c _ hcn hc3
    have hcb4 : B4 c = none := s4.off (ex_none e nc) upd_same
    have hvl := dp_all_len hd2
    refine ⟨c, _, _, rfl, rfl, hc4, small1000 (by omega), B4, vs ++ [v], ds ++ [d4], ws ++ w4, b4, m4, _, s4.trans (Stp.put s4.in_ hcb4 (.head _)), hP4.p1 hcp, hS4.stp (Stp.put (ms := [c]) s4.in_ hcb4 (.head _)) (by simpa using hcq.symm), upd_same,
      dpa_app (dpa_mono t4.base hd2) hd4, ib2.app ib4, by simp; omega, t4.off hb2 hP3.at.choose_spec, rfl⟩
  · rintro σ H2 ⟨B2, vs, ds, ws, b2, m2, v5, s2, hP2, hS2, hc2, hd2, ib2, hl2, hb2, rfl⟩
    refine ⟨_, rfl, c, _, rfl, .inl ⟨SqL.of hc2, fun l nl => ?_⟩⟩
    have s3 := Stp.with nc s2
    have t4 := Stp.new (ms := []) (o := .tup vs) s2.in_ nl
    exact k _ _ _ ds ws b2 m2 (s3.trans t4.nil) (hP2.stp t4 (by simp)) (hS2.stp t4 (by simp)) (.tup (SqT.of upd_same) (dpa_mono t4.base hd2)) ib2 (by omega)
theorem fn_l_block (T : Txt K mg) : ∀ r, Fn P w K mg base (8 + 2 * r + 1 + 1) (ga K "_law_block") (spBlock K r) := by
  intro r
  induction r with
  | zero => exact fn_block1 T 0 (fn_stmt T 0 (fun _ _ _ _ _ _ _ _ _ _ _ h => h.elim))
  | succ r ih => exact fn_block1 T (r + 1) (fn_stmt T (r + 1) ih)
theorem pcN {X : Cx} {P : Program} {w : World} : Passes (L2.CX P w) X (fun _ _ _ => False) := fun _ _ _ _ _ _ _ h => by
  obtain ⟨_, _, _, _, _, _, _, _, _, _, _, _, h⟩ := h
  exact h.elim
theorem yes_if {σ : L2.St} {H : Hp} {A B : Hp → Prop} (h : A H) : tYes σ H (fun b H3 => if b = true then A H3 else B H3) := by
  show (if true = true then A H else B H)
  rw [if_pos rfl]
  exact h
def varD (x : Str × Int) : PyData := .tuple [.str x.1, .int x.2]
/-- a game's variables and rows, and its words -/
structure IsG (xs : List (Str × Int)) (ds : List PyData) (ws : List Str) : Prop where
  nd : (xs.map Prod.fst).Nodup
  ok : ∀ x ∈ xs, IsName x.1 ∧ 1 ≤ x.2 ∧ x.2 ≤ 65535
  l5 : xs.length ≤ 5
  l9 : ds.length ≤ 9
  rows : ∃ b m, IsB (xs.map Prod.fst) 4 0 0 b m ds ws
def spGame (K : PySem.W.Frag) : Sp := fun vs H Q _ => ∃ (B : Hp) (p : Addr), vs = [.ref p, .int 4, .int 8] ∧ Ex B H ∧ B p = none ∧ Pool p B H ∧
  ∀ (v : V) (B2 H2 : Hp) (xs : List (Str × Int)) (ds : List PyData) (ws : List Str), Stp [p] B H B2 H2 → Pool p B2 H2 → Dp K B2 v (.tuple [.tuple (xs.map varD), .tuple ds]) → IsG xs ds ws → Q v H2
theorem fn_l_game (T : Txt K mg) : Fn P w K mg base 19 (ga K "_law_game") (spGame K) := by
  refine fn_def T.d_l_game sc_l_game (fun _ _ _ _ _ _ us hl => match us, hl with | [_, _, _], _ => rfl) (fun vs H Q E h => ?_) (fun cdv A outer s H vs Q E hr h => ?_)
  · obtain ⟨B, p, rfl, _⟩ := h
    rfl
  obtain ⟨B, p, rfl, e, hb, hP, k⟩ := h
  have nd := sc_l_game.nd
  refine ⟨_, pss_cons (ps_set (i := 3) nd rfl (by first | exact Or.inl rfl | exact Or.inr rfl) (pe_fn T.d_l_names (fn_l_names T) (hr.mono (by decide)) T.g_l_names pc (pa_cons (pv 0) (pa_cons (pe_fn T.d_l_draw (fn_l_draw T) (hr.mono (by decide)) T.g_l_draw pc (pa_cons (pv 0) (pa_cons (pe_int) pa_nil))) pa_nil))))
      (pss_cons (ps_setLc (i := 5) (own := [("_law_k", 4)]) (g := gName 4) (tt := tYes) rfl nd rfl rfl (sw_true rfl rfl rfl (by decide +kernel)) (pi_range1 rfl T.f_range (pa_cons (pe_callB call_len_seq (by rfl) T.f_len PySem.boot_len (pa_cons (pv 3) pa_nil)) pa_nil)) (blkOk_by (N := n_l_game) (sc := defScope s_l_game) (by decide +kernel)) (fun _ _ _ _ _ => pg_name (i := 4) nd rfl (by first | exact Or.inl rfl | exact Or.inr rfl)) (fun _ _ _ _ _ => pts_nil) (fun _ _ _ _ _ => pe_tup (pa_cons (pe_ix (ixk_list K) (pv 3) (pv 4) (fun _ _ => rfl)) (pa_cons (pe_op op_add (pe_int) (pe_ix (ixk_tup K) (pe_tup (pa_cons (pe_fn T.d_l_draw (fn_l_draw T) (hr.mono (by decide)) T.g_l_draw pcN (pa_cons (pv 0) (pa_cons (pe_int) pa_nil))) (pa_cons (pe_fn T.d_l_draw (fn_l_draw T) (hr.mono (by decide)) T.g_l_draw pcN (pa_cons (pv 0) (pa_cons (pe_int) pa_nil))) (pa_cons (pe_op op_fdivW (pe_fn T.d_l_number (fn_l_number T) (hr.mono (by decide)) T.g_l_number pcN (pa_cons (pv 0) pa_nil)) (pe_int)) pa_nil)))) (pe_fn T.d_l_draw (fn_l_draw T) (hr.mono (by decide)) T.g_l_draw pcN (pa_cons (pv 0) (pa_cons (pe_int) pa_nil))) (fun _ _ => rfl))) pa_nil))))
      (pss_cons (ps_set (i := 7) nd rfl (by first | exact Or.inl rfl | exact Or.inr rfl) (pe_disp (pps_cons (pe_str) (pe_lc (own := [("_law_row", 6)]) (g := gName 6) (tt := tYes) rfl nd (pi_list (pv 5)) (blkOk_by (N := n_l_game) (sc := defScope s_l_game) (by decide +kernel)) (fun _ _ _ _ _ => pg_name (i := 6) nd rfl (by first | exact Or.inl rfl | exact Or.inr rfl)) (fun _ _ _ _ _ => pts_nil) (fun _ _ _ _ _ => pe_ix (ixk_tup K) (pv 6) (pe_int) (fun _ _ => rfl))) (pps_cons (pe_str) (pv 1) (pps_cons (pe_str) (pv 1) (pps_cons (pe_str) (pe_op op_add (pe_int) (pe_op op_fdivW (pv 1) (pe_int))) (pps_cons (pe_str) (pv 2) (pps_cons (pe_str) (pe_int) pps_nil)))))) rfl rfl (by intro h; cases h) (by decide)))
      (pss_cons (ps_asg (pe_int) (pg_sub (pv 0) (pe_int) set_list))
      (pss_one (ps_ret (pe_tup (pa_cons (pe_callTy call_tuple_of (by rfl) T.f_tuple (by decide +kernel) (pa_cons (pv 5) pa_nil)) (pa_cons (pe_fn T.d_l_block (fn_l_block T 4) (hr.mono (by decide)) T.g_l_block pc (pa_cons (pv 0) (pa_cons (pv 7) (pa_cons (pe_int) (pa_cons (pe_int) pa_nil))))) pa_nil)))))))), ?_⟩
  refine ⟨_, rfl, _, rfl, ?_⟩
  dsimp only [tCons, tNil, tC]
  refine draw_s e hb hP (by decide) (by decide) fun n H1 a0 a1 s1 hP1 hne => ?_
  refine ⟨B, p, n, rfl, s1.in_, hb, hP1, a0, by omega, fun v B2 H2 ns t2 hP2 hd2 hnd hnm hln => ?_⟩
  have s2 := s1.trans t2
  have hb2 := t2.off hb hP1.at.choose_spec
  obtain ⟨a, vs, rfl, sx, dx⟩ := dp_list hd2
  have ev := dp_strs dx
  subst ev
  have sx2 := ex_l s2.in_ sx
  have hl5 : ns.length ≤ 5 := by omega
  have hnn : ((ns.map V.str).length : Int).toNat = ns.length := by rw [List.length_map]; omega
  refine ⟨_, rfl, a, _, rfl, .inl sx2, _, rfl, by omega, by rw [List.length_map]; omega, fun D nD => lc_range (lo := 0) (n := ((ns.map V.str).length : Int).toNat)
    (fun i H' => ∃ (B' : Hp) (xs : List (Str × Int)) (vs : List V), Stp [D, p] B2 (upd H2 D (.lst [])) B' H' ∧ Pool p B' H' ∧ B' p = none ∧ H' D = some (.lst vs) ∧ DpAll K B' vs (xs.map varD) ∧ xs.map Prod.fst = ns.take i ∧ (∀ x ∈ xs, 1 ≤ x.2 ∧ x.2 ≤ 65535)) ?_ ?_ ?_⟩
  · exact ⟨B2, [], [], Stp.refl (Ex.mut s2.in_ (ex_none s2.in_ nD)), hP2.n1 nD, hb2, upd_same, .nil, rfl, fun _ h => nomatch h⟩
  · rintro i H3 hi ⟨B3, xs, vs, s3, hP3, hb3, hD3, hd3, hx3, hok⟩
    rw [hnn] at hi
    have sx3 := ex_l s3.in_ (ex_l s3.base sx)
    have hDp : D ≠ p := hP2.ne nD
    have hDn : D ∉ [p] := by simpa using hDp
    have ei : atI (ns.map V.str) (0 + (i : Int)) = some (.str ns[i]) := by
      unfold atI
      rw [show (0 : Int) + (i : Int) = (i : Int) by omega, ixN_nat (by rw [List.length_map]; exact hi)]
      simp [hi]
    refine ⟨rfl, yes_if ?_⟩
    refine ⟨_, rfl, _, rfl, a, _, _, _, rfl, rfl, sx3, ei, _, rfl, ?_⟩
    dsimp only [tCons, tNil, tC]
    refine draw_s s3.in_ hb3 hP3 (by decide) (by decide) fun r1 H4 c0 c1 t4 hP4 _ => ?_
    have s4 := s3.trans (t4.wk (ns := [D, p]) (by simp))
    have hD4 := t4.fr D _ hDn hD3
    refine ⟨_, rfl, ?_⟩
    refine draw_s s4.in_ hb3 hP4 (by decide) (by decide) fun r2 H5 d0 d1 t5 hP5 _ => ?_
    have s5 := s4.trans (t5.wk (ns := [D, p]) (by simp))
    have hD5 := t5.fr D _ hDn hD4
    refine ⟨_, rfl, B3, p, rfl, s5.in_, hb3, hP5, fun r3 H6 f0 f1 t6 hP6 => ?_⟩
    have s6 := s5.trans (t6.wk (ns := [D, p]) (by simp))
    have hD6 := t6.fr D _ hDn hD5
    refine ⟨_, _, rfl, rfl, ⟨by decide, by decide +kernel⟩, (by show 3 ≤ sizeLine; decide), fun t nt => ?_⟩
    have t7 := Stp.cell (ms := []) (o := .tup [V.int r1, V.int r2, V.int (r3 / 2)]) s6.in_ nt
    have hP7 := hP6.stp t7 (by simp)
    have s7 := s6.trans t7.nil
    have hD7 := t7.fr D _ (by simp) hD6
    have htp : t ≠ p := hP6.ne nt
    refine ⟨_, rfl, ?_⟩
    refine draw_s s7.in_ hb3 hP7 (by decide) (by decide) fun r4 H8 g0 g1 t8 hP8 hne8 => ?_
    have s8 := s7.trans (t8.wk (ns := [D, p]) (by simp))
    have hD8 := t8.fr D _ hDn hD7
    obtain ⟨y, ey, my⟩ := at3 (a := .int r1) (b := .int r2) (c := .int (r3 / 2)) g0 g1
    obtain ⟨j, rfl, j0, j1⟩ : ∃ j : Int, y = .int j ∧ 0 ≤ j ∧ j ≤ 65534 := by
      rcases my with rfl | rfl | rfl <;> exact ⟨_, rfl, by omega, by omega⟩
    refine ⟨t, _, _, _, rfl, rfl, SqT.of ((hne8 t htp).trans upd_same), ey, _, _, rfl, rfl, (by show 2 ≤ sizeLine; decide), fun u nu => ?_⟩
    have t9 := Stp.new (ms := []) (o := .tup [V.str ns[i], V.int (1 + j)]) s8.in_ nu
    have hP9 := hP8.stp t9 (by simp)
    have s9 := s8.trans t9.nil
    have hD9 := t9.fr D _ (by simp) hD8
    have hDb := s9.off (ex_none s2.in_ nD) upd_same
    have hvl := dp_all_len hd3
    have hxl : xs.length = i := by
      have := congrArg List.length hx3
      rw [List.length_map, List.length_take] at this
      omega
    rw [List.length_map] at hvl
    refine ⟨vs, hD9, small1000 (by omega), _, xs ++ [(ns[i], 1 + j)], vs ++ [.ref u], s9.trans (Stp.put s9.in_ hDb (.head _)), hP9.p1 hDp, t9.off hb3 hP8.at.choose_spec, upd_same, ?_, ?_, ?_⟩
    · rw [List.map_append]
      exact dpa_app (dpa_mono t9.base hd3) (.tup (SqT.of upd_same) (.cons (.str _) (.cons (.int _) .nil)))
    · rw [List.map_append, hx3, List.take_add_one]
      simp [hi]
    · intro x hx
      rcases List.mem_append.mp hx with h | h
      · exact hok x h
      · rw [List.mem_singleton.mp h]; exact ⟨by show 1 ≤ 1 + j; omega, by show 1 + j ≤ 65535; omega⟩
  rintro H3 ⟨B3, xs, vs, s3, hP3, hb3, hD3, hd3, hx3, hok⟩
  rw [hnn, List.take_length] at hx3
  have s4 := Stp.close s2.in_ nD s3 hD3
  have hDp : D ≠ p := hP2.ne nD
  have hDb3 := s3.off (ex_none s2.in_ nD) upd_same
  have kk := Stp.keep s3.in_ hD3 hDb3
  have hP4 := hP3.of kk.1 rfl
  have hb4 : (upd B3 D (.lst vs)) p = none := by rw [upd_ne hDp.symm]; exact hb3
  have hd4 := dpa_mono kk.1 hd3
  have hDB4 : (upd B3 D (.lst vs)) D = _ := upd_same
  have s24 := s2.trans s4
  clear hP3 hb3 hd3 hDb3 hD3 s3 s4 s2 hP2 hd2 sx2 hb2
  refine fun q nq => ?_
  have hqp : q ≠ p := hP4.ne nq
  have hqB := ex_none s24.in_ nq
  have t5 := Stp.cell (ms := []) (o := .dK []) s24.in_ nq
  have hP5 := hP4.stp t5 (by simp)
  have s5 := s24.trans t5.nil
  have hvl := dp_all_len hd4
  rw [List.length_map] at hvl
  have hxl : xs.length = ns.length := by rw [← hx3, List.length_map]
  refine ⟨_, rfl, D, rfl, ⟨vs, SqL.of (t5.in_ _ _ hDB4)⟩, fun D2 nD2 => lc_list (xs := vs) (fun i H' => upd (upd H3 q (.dK [])) D2 (.lst ((ns.take i).map V.str)) = H') ?_ ?_ ?_ ?_⟩
  · exact rfl
  · rintro i H' _ rfl
    exact SqL.of ((Ex.new (o := .lst ((ns.take i).map V.str)) nD2) _ _ (t5.in_ _ _ hDB4))
  · rintro i x H' hx rfl
    have hi : i < vs.length := (List.getElem?_eq_some_iff.mp hx).1
    obtain ⟨x', d, hx', hdd, hxd⟩ := dp_all_get hd4 hi
    rw [hx] at hx'
    cases hx'
    rw [List.getElem?_map, List.getElem?_eq_getElem (by omega)] at hdd
    cases hdd
    obtain ⟨u, us, rfl, su, du⟩ := dp_tup hxd
    have hix : i < xs.length := by omega
    obtain ⟨z2, rfl⟩ : ∃ z2, us = [.str xs[i].1, z2] := by
      cases du with
      | cons h1 h2 => cases h1; cases h2 with
        | cons h3 h4 => cases h4; exact ⟨_, rfl⟩
    have exx : Ex (upd B3 D (.lst vs)) (upd (upd H3 q (.dK [])) D2 (.lst ((ns.take i).map V.str))) := t5.in_.trans (Ex.new nD2)
    refine ⟨rfl, yes_if ?_⟩
    refine ⟨_, rfl, u, _, _, _, rfl, rfl, ex_t exx su, rfl, _, upd_same, small1000 (by rw [List.length_map, List.length_take]; omega), ?_⟩
    have en : ns[i] = xs[i].1 := by
      have : (xs.map Prod.fst)[i]? = ns[i]? := by rw [hx3]
      rw [List.getElem?_map, List.getElem?_eq_getElem (by omega), List.getElem?_eq_getElem (by omega)] at this
      exact (Option.some.inj this).symm
    rw [upd_twice, List.take_add_one, List.getElem?_eq_getElem (by omega), en, List.map_append]
    rfl
  rintro H5 rfl
  rw [show vs.length = ns.length by omega, List.take_length]
  have hD2q : D2 ≠ q := fun z => by subst z; rw [upd_same] at nD2; cases nD2
  have t6 := Stp.new (ms := []) (o := .lst (ns.map V.str)) s5.in_ nD2
  have hP6 := hP5.stp t6 (by simp)
  have s6 := s5.trans t6.nil
  have hb6 := t6.off hb4 hP5.at.choose_spec
  have hq6 : (upd (upd H3 q (.dK [])) D2 (.lst (ns.map V.str))) q = some (.dK []) := by rw [upd_ne hD2q.symm]; exact upd_same
  have hqB6 := t6.off hqB upd_same
  refine ⟨_, rfl, _, rfl, _, rfl, _, _, rfl, rfl, ⟨by decide, by decide +kernel⟩, _, _, rfl, rfl, _, rfl, hq6, [(.inr "names", .ref D2), (.inr "choose", .int 4), (.inr "come", .int 4), (.inr "draw", .int (1 + 4 / 3)), (.inr "most", .int 8), (.inr "next", .int 0)], rfl, (by show 6 ≤ 15; decide), ?_⟩
  rw [show mergeK [] [(.inr "names", .ref D2), (.inr "choose", .int 4), (.inr "come", .int 4), (.inr "draw", .int (1 + 4 / 3)), (.inr "most", .int 8), (.inr "next", .int 0)] = scL D2 4 4 2 0 from rfl]
  have t7 := Stp.put (ms := [q]) (o := .dK (scL D2 4 4 2 0)) s6.in_ hqB6 (.head _)
  have hqH : H q = none := by
    cases hh : H q with
    | none => rfl
    | some o => exact absurd nq (s24.al q (by rw [hh]; exact fun z => nomatch z))
  have s7 := Stp.drop ((s6.wk (ns := [q, p]) (by simp)).trans (t7.wk (by simp))) hqH
  have hP7 := hP6.stp t7 (by simpa using hqp.symm)
  have hS7 : Scp q D2 ns 0 0 (upd (upd B3 D (.lst vs)) D2 (.lst (ns.map V.str))) (upd (upd (upd H3 q (.dK [])) D2 (.lst (ns.map V.str))) q (.dK (scL D2 4 4 2 0))) := ⟨4, 4, 2, upd_same, upd_same, by decide, hqB6⟩
  obtain ⟨⟨cells, at_, ix, big, st, run, bud⟩, hl7, hc7, hz7⟩ := hP7
  refine ⟨_, rfl, p, _, _, _, rfl, rfl, hl7, rfl, ?_⟩
  have t8 := Stp.put (ms := [p]) (o := .lst (Pl.l ⟨cells, at_, ix, big, st, run, 14⟩)) s7.in_ hb6 (.head _)
  have hP8 : Pool p _ (upd (upd (upd (upd H3 q (.dK [])) D2 (.lst (ns.map V.str))) q (.dK (scL D2 4 4 2 0))) p (.lst (Pl.l ⟨cells, at_, ix, big, st, run, 14⟩))) := ⟨⟨cells, at_, ix, big, st, run, 14⟩, upd_same, hc7, hz7⟩
  have hS8 := hS7.stp t8 (by simpa using hqp)
  have s8 := s7.trans t8
  have hDB8 : (upd (upd B3 D (.lst vs)) D2 (.lst (ns.map V.str))) D = _ := t6.base _ _ hDB4
  refine ⟨_, rfl, D, vs, rfl, .inl ⟨SqL.of (s8.in_ _ _ hDB8), fun l nl => ?_⟩⟩
  have t9 := Stp.new (ms := []) (o := .tup vs) s8.in_ nl
  have hP9 := hP8.stp t9 (by simp)
  have hS9 := hS8.stp t9 (by simp)
  have s9 := s8.trans t9.nil
  have hb9 := t9.off hb6 hP8.at.choose_spec
  refine ⟨_, rfl, _, rfl, _, p, q, D2, ns, 0, 0, 9, rfl, s9.in_, hb9, hP9, hS9, by omega, by decide, by decide, fun v B10 H10 ds ws b10 m10 t10 hP10 hS10 hd10 ib hl10 => ?_⟩
  have s10 := Stp.drop ((s9.wk (ns := [q, p]) (by simp)).trans (t10.wk (by simp))) hqH
  refine ⟨(by show 2 ≤ sizeLine; decide), fun u nu => ?_⟩
  have t11 := Stp.new (ms := []) (o := .tup [.ref l, v]) s10.in_ nu
  have hg : IsG xs ds ws := ⟨by rw [hx3]; exact hnd, fun x hx => ⟨hnm _ (by rw [← hx3]; exact List.mem_map_of_mem hx), hok x hx⟩, by omega, by omega, by rw [hx3]; exact ⟨_, _, ib⟩⟩
  exact k _ _ _ xs ds ws (s10.trans t11.nil) (hP10.stp t11 (by simp)) (.tup (SqT.of upd_same) (.cons (dp_mono t11.base (dp_mono t10.base (.tup (SqT.of upd_same) (dpa_mono t9.base (dpa_mono t6.base hd4))))) (.cons (dp_mono t11.base hd10) .nil))) hg
end
end LL
namespace LL
open PySem PySem.Spec PyProof.Rows L2 He Evl
section
variable {X : Cx}
/-- str of a number or of a text -/
theorem call_strIS : CallR X (.type "str") (fun xs H Q => (∃ i : Int, xs = [.int i] ∧ i.natAbs.log2 < 1920 ∧ Q (.str (istr i)) H) ∨ ∃ a, xs = [.str a] ∧ Q (.str a) H) := by
  intro pins s σ H xs us Q I r h
  rcases h with h | h
  · exact call_str_int pins s σ H xs us Q I r h
  · exact SkE.call_str_str pins s σ H xs us Q I r h
end
theorem log_small {i : Int} (h0 : 0 ≤ i) (h1 : i ≤ 65535) : i.natAbs.log2 < 1920 := by
  by_cases z : i.natAbs = 0
  · rw [z]; decide
  · rw [Nat.log2_lt z]
    have : (2 : Nat) ^ 16 ≤ 2 ^ 1920 := Nat.pow_le_pow_right (by decide) (by decide)
    omega
section
variable {P : Program} {w : World} {K : PySem.W.Frag} {mg : Str → Option Value} {base : Heap}
theorem dp_var {H : Hp} {v : V} {ds : List PyData} (h : Dp K H v (.tuple ds)) : ∃ a vs, v = .ref a ∧ SqT K H a vs ∧ DpAll K H vs ds := dp_tup h
theorem dpa_s {H : Hp} {vs : List V} {x : Str} {ds : List PyData} (h : DpAll K H vs (.str x :: ds)) : ∃ r, vs = .str x :: r ∧ DpAll K H r ds := by
  cases h with
  | cons h1 h2 => cases h1; exact ⟨_, rfl, h2⟩
theorem dpa_i {H : Hp} {vs : List V} {x : Int} {ds : List PyData} (h : DpAll K H vs (.int x :: ds)) : ∃ r, vs = .int x :: r ∧ DpAll K H r ds := by
  cases h with
  | cons h1 h2 => cases h1; exact ⟨_, rfl, h2⟩
theorem dpa_c {H : Hp} {vs : List V} {d : PyData} {ds : List PyData} (h : DpAll K H vs (d :: ds)) : ∃ v r, vs = v :: r ∧ Dp K H v d ∧ DpAll K H r ds := by
  cases h with
  | cons h1 h2 => exact ⟨_, _, rfl, h1, h2⟩
theorem dpa_n {H : Hp} {vs : List V} (h : DpAll K H vs []) : vs = [] := by cases h; rfl
/-- the words of an expression, a new list -/
def spVW (K : PySem.W.Frag) (n : Nat) : Sp := fun vs H Q _ => ∃ (x : V) (ns : List Str) (d : PyData) (ws : List Str), vs = [x] ∧ Dp K H x d ∧ IsE ns n d ws ∧ ∀ (l : Addr) (H2 : Hp), Ex H H2 → H l = none → H2 l = some (.lst (ws.map V.str)) → Q (.ref l) H2
theorem len63 {ns : List Str} {n : Nat} {d : PyData} {ws : List Str} (h : IsE ns n d ws) (hn : n ≤ 6) : ws.length ≤ 63 := by
  have h1 := h.len
  have h2 : (2 : Nat) ^ n ≤ 2 ^ 6 := Nat.pow_le_pow_right (by decide) hn
  omega
theorem big_ {n : Nat} (h : n ≤ 2000000) : n ≤ sizeLine := by
  have : (2000000 : Nat) ≤ sizeLine := by decide
  omega
theorem fn_vw1 (T : Txt K mg) (n : Nat) (hn : n ≤ 5) (IH : Fn P w K mg base n (ga K "_law_value_words") (spVW K n)) : Fn P w K mg base (n + 1) (ga K "_law_value_words") (spVW K (n + 1)) := by
  refine fn_def T.d_l_value_words sc_l_value_words (fun _ _ _ _ _ _ us hl => match us, hl with | [_], _ => rfl) (fun vs H Q E h => ?_) (fun cdv A outer s H vs Q E hr h => ?_)
  · obtain ⟨x, ns, d, ws, rfl, _⟩ := h
    rfl
  obtain ⟨x, ns, d, ws, rfl, hd, ie, k⟩ := h
  have nd := sc_l_value_words.nd
  refine ⟨_, pss_cons (ps_if (pt_cmpR op_eq (pe_callB call_len_seq (by rfl) T.f_len PySem.boot_len (pa_cons (pv 0) pa_nil)) (pe_int) (nomark _)) (pss_one (ps_ret (pe_lst (pa_cons (pe_callTy call_strIS (by rfl) T.f_str (by decide +kernel) (pa_cons (pe_ix ix_tup (pv 0) (pe_int) (fun _ _ => rfl)) pa_nil)) pa_nil)))) (pss_nil))
      (pss_one (ps_ret (pe_op op_cat (pe_op op_cat (pe_lst (pa_cons (pe_ix ix_tup (pv 0) (pe_int) (fun _ _ => rfl)) pa_nil)) (pe_fn T.d_l_value_words IH hr T.g_l_value_words pc (pa_cons (pe_ix ix_tup (pv 0) (pe_int) (fun _ _ => rfl)) pa_nil))) (pe_fn T.d_l_value_words IH hr T.g_l_value_words pc (pa_cons (pe_ix ix_tup (pv 0) (pe_int) (fun _ _ => rfl)) pa_nil))))), ?_⟩
  cases ie with
  | @num _ i h0 h1 =>
    obtain ⟨a, vs, rfl, sx, dx0⟩ := dp_tup hd
    obtain ⟨_, rfl, dx1⟩ := dpa_s dx0
    obtain ⟨_, rfl, dx2⟩ := dpa_i dx1
    cases dpa_n dx2
    refine ⟨_, rfl, a, _, rfl, .inr sx, rfl, _, rfl, ite2 (fun _ => ?_) fun c => absurd rfl c⟩
    exact ⟨_, rfl, a, _, _, _, rfl, rfl, sx, rfl, .inl ⟨i, rfl, log_small h0 h1, (by show 1 ≤ sizeLine; decide), fun l nl => k l _ (Ex.new nl) nl upd_same⟩⟩
  | @var _ x h =>
    obtain ⟨a, vs, rfl, sx, dx0⟩ := dp_tup hd
    obtain ⟨_, rfl, dx1⟩ := dpa_s dx0
    obtain ⟨_, rfl, dx2⟩ := dpa_s dx1
    cases dpa_n dx2
    refine ⟨_, rfl, a, _, rfl, .inr sx, rfl, _, rfl, ite2 (fun _ => ?_) fun c => absurd rfl c⟩
    exact ⟨_, rfl, a, _, _, _, rfl, rfl, sx, rfl, .inr ⟨x, rfl, (by show 1 ≤ sizeLine; decide), fun l nl => k l _ (Ex.new nl) nl upd_same⟩⟩
  | @op _ sg da db wa wb hs ha hb =>
    obtain ⟨a, vs, rfl, sx, dx0⟩ := dp_tup hd
    obtain ⟨_, rfl, dx1⟩ := dpa_s dx0
    obtain ⟨va, _, rfl, hva, dx2⟩ := dpa_c dx1
    obtain ⟨vb, _, rfl, hvb, dx3⟩ := dpa_c dx2
    cases dpa_n dx3
    have la := len63 ha (by omega)
    have lb := len63 hb (by omega)
    refine ⟨_, rfl, a, _, rfl, .inr sx, rfl, _, rfl, ite2 (fun c => ?_) fun _ => ?_⟩
    · exact absurd (of_decide_eq_true c) (fun z => absurd (V.int.inj z) (by show ¬ (3 : Int) = 2; decide))
    refine ⟨_, rfl, a, _, _, _, rfl, rfl, sx, rfl, (by show 1 ≤ sizeLine; decide), fun l nl => ?_⟩
    have e1 : Ex H (upd H l (.lst [V.str sg])) := Ex.new nl
    refine ⟨_, rfl, a, _, _, _, rfl, rfl, ex_t e1 sx, rfl, va, ns, da, wa, rfl, dp_mono e1 hva, ha, fun l1 H1 x1 n1 h1 => ?_⟩
    have e2 := e1.trans x1
    refine ⟨l, l1, _, _, rfl, rfl, x1 _ _ upd_same, h1, big_ (by simp; omega), fun l2 nl2 => ?_⟩
    have e3 := e2.trans (Ex.new (o := .lst ([V.str sg] ++ wa.map V.str)) nl2)
    refine ⟨_, rfl, a, _, _, _, rfl, rfl, ex_t e3 sx, rfl, vb, ns, db, wb, rfl, dp_mono e3 hvb, hb, fun l3 H3 x3 n3 h3 => ?_⟩
    have e4 := e3.trans x3
    refine ⟨l2, l3, _, _, rfl, rfl, x3 _ _ upd_same, h3, big_ (by simp; omega), fun l4 nl4 => ?_⟩
    refine k l4 _ (e4.trans (Ex.new nl4)) (fresh_back e4 nl4) ?_
    rw [upd_same, List.map_cons, List.map_append]
    rfl
theorem fn_vw (T : Txt K mg) : ∀ n, n ≤ 6 → Fn P w K mg base n (ga K "_law_value_words") (spVW K n)
  | 0, _ => fun _ _ _ _ _ _ _ _ _ _ _ ⟨_, _, _, _, _, _, h, _⟩ => nomatch h
  | n + 1, h => fn_vw1 T n (by omega) (fn_vw T n (by omega))
theorem fn_l_value_words (T : Txt K mg) : Fn P w K mg base 7 (ga K "_law_value_words") (spVW K 6) := (fn_vw T 6 (by decide)).mono (by decide)
end
end LL
namespace LL
open PySem PySem.Spec PyProof.Rows L2 He Evl
theorem sb4 {r : Nat} (h : r ≤ 4) : SB r ≤ 50921 := by
  rcases (show r = 0 ∨ r = 1 ∨ r = 2 ∨ r = 3 ∨ r = 4 by omega) with rfl | rfl | rfl | rfl | rfl <;> decide
theorem IsB.big {ns : List Str} {r b m b1 m1 : Nat} {ds : List PyData} {ws : List Str} (h : IsB ns r b m b1 m1 ds ws) (hr : r ≤ 4) (hd : ds.length ≤ 9) : ws.length ≤ 458289 := by
  have h1 := h.len
  have h2 := sb4 hr
  have h3 : ds.length * SB r ≤ 9 * 50921 := Nat.mul_le_mul hd h2
  omega
def MV_ : List Str := ["draw", "choose", "come"]
theorem mvN : ∀ s ∈ (["pay", "take", "show", "set"] : List Str), s ≠ "if" ∧ s ∉ MV_ := by decide +kernel
theorem mvI : ∀ s ∈ MV_, s ≠ "if" := by decide +kernel
section
variable {P : Program} {w : World} {K : PySem.W.Frag} {mg : Str → Option Value} {base : Heap}
def spBW (K : PySem.W.Frag) (r : Nat) : Sp := fun vs H Q _ => ∃ (x : V) (ns : List Str) (b m b2 m2 : Nat) (ds : List PyData) (ws : List Str), vs = [x] ∧ Dp K H x (.tuple ds) ∧ IsB ns r b m b2 m2 ds ws ∧ ds.length ≤ 9 ∧ ∀ (l : Addr) (H2 : Hp), Ex H H2 → H l = none → H2 l = some (.lst (ws.map V.str)) → Q (.ref l) H2
def spBWP (K : PySem.W.Frag) : Nat → Sp
  | 0 => fun _ _ _ _ => False
  | r + 1 => spBW K r
theorem drop_one {α : Type} {ds : List α} {i : Nat} {d : α} (h : ds[i]? = some d) : ds.drop i = d :: ds.drop (i + 1) := by
  obtain ⟨hi, e⟩ := List.getElem?_eq_some_iff.mp h
  rw [List.drop_eq_getElem_cons hi, e]
theorem fn_bw1 (T : Txt K mg) (r : Nat) (hr4 : r ≤ 4) (IH : Fn P w K mg base (7 + r) (ga K "_law_block_words") (spBWP K r)) : Fn P w K mg base (7 + r + 1) (ga K "_law_block_words") (spBW K r) := by
  refine fn_def T.d_l_block_words sc_l_block_words (fun _ _ _ _ _ _ us hl => match us, hl with | [_], _ => rfl) (fun vs H Q E h => ?_) (fun cdv A outer s H vs Q E hr h => ?_)
  · obtain ⟨x, ns, b, m, b2, m2, ds, ws, rfl, _⟩ := h
    rfl
  obtain ⟨x, ns, b, m, b2, m2, ds, ws, rfl, hd, ib, h9, k⟩ := h
  have nd := sc_l_block_words.nd
  have hr1 : Room 7 _ := hr.mono (by omega)
  refine ⟨_, pss_cons (ps_set (i := 1) nd rfl (by first | exact Or.inl rfl | exact Or.inr rfl) (pe_lst pa_nil))
      (pss_cons (ps_for (passes_of rfl) rfl (pi_tup (pv 0)) (pg_name (i := 2) nd rfl (by first | exact Or.inl rfl | exact Or.inr rfl)) (pss_one (ps_if (pt_cmpR op_eq (pe_ix ix_tup (pv 2) (pe_int) (fun _ _ => rfl)) (pe_str) (nomark _)) (pss_cons (ps_set (i := 1) nd rfl (by first | exact Or.inl rfl | exact Or.inr rfl) (pe_op op_cat (pe_op op_cat (pe_op op_cat (pv 1) (pe_lst (pa_cons (pe_str) pa_nil))) (pe_fn T.d_l_value_words (fn_l_value_words T) hr1 T.g_l_value_words pc (pa_cons (pe_ix ix_tup (pv 2) (pe_int) (fun _ _ => rfl)) pa_nil))) (pe_fn T.d_l_block_words IH hr T.g_l_block_words pc (pa_cons (pe_ix ix_tup (pv 2) (pe_int) (fun _ _ => rfl)) pa_nil))))
      (Evl.pss_cut (ps_if (pt_cmpR op_gt (pe_callB call_len_seq (by rfl) T.f_len PySem.boot_len (pa_cons (pe_ix ix_tup (pv 2) (pe_int) (fun _ _ => rfl)) pa_nil)) (pe_int) (nomark _)) (pss_one (ps_set (i := 1) nd rfl (by first | exact Or.inl rfl | exact Or.inr rfl) (pe_op op_cat (pe_op op_cat (pv 1) (pe_lst (pa_cons (pe_str) pa_nil))) (pe_fn T.d_l_block_words IH hr T.g_l_block_words pc (pa_cons (pe_ix ix_tup (pv 2) (pe_int) (fun _ _ => rfl)) pa_nil))))) (pss_nil))
      (pss_one (ps_expr (pe_bm PySem.F.plainAttrs_list PySem.F.slot_list_append PySem.F.type_list_append mt_append (pv 1) (pa_cons (pe_str) pa_nil)))))) (pss_one (ps_if (pt_cmpR op_in_seq (pe_ix ix_tup (pv 2) (pe_int) (fun _ _ => rfl)) (pe_tup (pa_cons (pe_str) (pa_cons (pe_str) (pa_cons (pe_str) pa_nil)))) rfl) (pss_one (ps_set (i := 1) nd rfl (by first | exact Or.inl rfl | exact Or.inr rfl) (pe_op op_cat (pv 1) (pe_lst (pa_cons (pe_ix ix_tup (pv 2) (pe_int) (fun _ _ => rfl)) (pa_cons (pe_ix ix_tup (pv 2) (pe_int) (fun _ _ => rfl)) (pa_cons (pe_callTy call_strIS (by rfl) T.f_str (by decide +kernel) (pa_cons (pe_ix ix_tup (pv 2) (pe_int) (fun _ _ => rfl)) pa_nil)) pa_nil))))))) (pss_one (ps_set (i := 1) nd rfl (by first | exact Or.inl rfl | exact Or.inr rfl) (pe_op op_cat (pe_op op_cat (pv 1) (pe_callTy call_list_of (by rfl) T.f_list (by decide +kernel) (pa_cons (pe_slice sl_tup (pv 2) po_none (po_some (pe_un un_neg (pe_int)))) pa_nil))) (pe_fn T.d_l_value_words (fn_l_value_words T) hr1 T.g_l_value_words pc (pa_cons (pe_ix ix_tup (pv 2) (pe_un un_neg (pe_int)) (fun _ _ => rfl)) pa_nil))))))))))
      (pss_one (ps_ret (pv 1)))), ?_⟩
  obtain ⟨a, vs, rfl, sx, dx⟩ := dp_tup hd
  have hbig := ib.big hr4 h9
  refine ⟨(by show 0 ≤ sizeLine; decide), fun l0 nl0 => ?_⟩
  refine ⟨_, rfl, a, rfl, ⟨vs, ex_t (Ex.new nl0) sx⟩, for_tup (xs := vs) (fun i σ H' => ∃ (l : Addr) (w1 w2 : List Str) (b' m' : Nat) (v2 : Option V), Ex H H' ∧ H l = none ∧ H' l = some (.lst (w1.map V.str)) ∧ IsB ns r b' m' b2 m2 (ds.drop i) w2 ∧ ws = w1 ++ w2 ∧ σ = [some (.ref a), some (.ref l), v2]) ?_ ?_ ?_ ?_⟩
  · exact ⟨l0, [], ws, b, m, none, Ex.new nl0, nl0, upd_same, ib, rfl, rfl⟩
  · rintro i σ H' _ ⟨_, _, _, _, _, _, e, _⟩
    exact ex_t e sx
  · rintro i x σ H1 hx ⟨l, w1, w2, b', m', v2, e1, nl, hl1, ib2, rfl, rfl⟩
    rw [List.length_append] at hbig
    have hi : i < vs.length := (List.getElem?_eq_some_iff.mp hx).1
    obtain ⟨x', d, hx', hdd, hxd⟩ := dp_all_get dx hi
    rw [hx] at hx'
    cases hx'
    rw [drop_one hdd] at ib2
    cases ib2 with
    | @pay _ _ _ _ _ s e we _ w3 hs he h =>
      obtain ⟨ar, vr, rfl, sr, d0⟩ := dp_tup hxd
      obtain ⟨_, rfl, d1⟩ := dpa_s d0
      obtain ⟨ve, _, rfl, hve, d4⟩ := dpa_c d1
      cases dpa_n d4
      have hm := mvN _ (show s ∈ _ by rcases List.mem_cons.mp hs with rfl | hs; exact .head _; rw [List.mem_singleton.mp hs]; exact .tail _ (.head _))
      have l63 := len63 he (Nat.le_refl _)
      simp only [List.length_cons, List.length_append] at hbig
      refine ⟨_, rfl, ar, _, _, _, rfl, rfl, ex_t e1 sr, rfl, rfl, _, rfl, ite2 (fun c => absurd (V.str.inj (of_decide_eq_true c)) hm.1) fun _ => ?_⟩
      refine ⟨_, rfl, ar, _, _, _, rfl, rfl, ex_t e1 sr, rfl, (by show 3 ≤ sizeLine; decide), fun t nt => ⟨t, MV_.map V.str, rfl, .inr (SqT.of upd_same), rfl, flat_strs _, _, rfl, ite2 (fun c => ?_) fun _ => ?_⟩⟩
      · have c' : inV (.str _) (MV_.map V.str) = true := c
        rw [inV_strs] at c'
        exact absurd (of_decide_eq_true c') hm.2
      have e2 := e1.trans (Ex.new (o := .tup (MV_.map V.str)) nt)
      have hl2 := (Ex.new (o := .tup (MV_.map V.str)) nt) _ _ hl1
      refine ⟨_, rfl, _, rfl, _, rfl, _, rfl, ar, _, rfl, ex_t e2 sr, (by show ¬ (HT.sIx 2 0 none = 0 ∧ HT.sIx 2 2 (some (-1)) = 2); decide), fun t2 nt2 => ?_⟩
      have e3 := e2.trans (Ex.new (o := .tup [V.str s]) nt2)
      have hl3 := (Ex.new (o := .tup [V.str s]) nt2) _ _ hl2
      refine ⟨t2, [V.str s], rfl, .inr (SqT.of upd_same), fun l2 nl2 => ?_⟩
      have e4 := e3.trans (Ex.new (o := .lst [V.str s]) nl2)
      have hl4 := (Ex.new (o := .lst [V.str s]) nl2) _ _ hl3
      refine ⟨l, l2, _, _, rfl, rfl, hl4, upd_same, big_ (by simp; omega), fun l3 nl3 => ?_⟩
      have e5 := e4.trans (Ex.new (o := .lst (w1.map V.str ++ [V.str s])) nl3)
      refine ⟨_, rfl, _, rfl, ar, _, _, _, rfl, rfl, ex_t e5 sr, rfl, ve, ns, _, _, rfl, dp_mono e5 hve, he, fun l4 H4 x4 n4 h4 => ?_⟩
      refine ⟨l3, l4, _, _, rfl, rfl, x4 _ _ upd_same, h4, big_ (by simp; omega), fun l5 nl5 => ?_⟩
      refine ⟨l5, w1 ++ [s] ++ we, _, b', m', _, (e5.trans x4).trans (Ex.new nl5), fresh_back (e5.trans x4) nl5, ?_, h, ?_, rfl⟩
      · rw [upd_same]; simp
      · simp
    | @show_ _ _ _ _ _ s e we _ w3 hs he h =>
      obtain ⟨ar, vr, rfl, sr, d0⟩ := dp_tup hxd
      obtain ⟨_, rfl, d1⟩ := dpa_s d0
      obtain ⟨_, rfl, d2⟩ := dpa_s d1
      obtain ⟨ve, _, rfl, hve, d4⟩ := dpa_c d2
      cases dpa_n d4
      have hm := mvN _ (show ("show" : Str) ∈ _ from .tail _ (.tail _ (.head _)))
      have l63 := len63 he (Nat.le_refl _)
      simp only [List.length_cons, List.length_append] at hbig
      refine ⟨_, rfl, ar, _, _, _, rfl, rfl, ex_t e1 sr, rfl, rfl, _, rfl, ite2 (fun c => absurd (V.str.inj (of_decide_eq_true c)) hm.1) fun _ => ?_⟩
      refine ⟨_, rfl, ar, _, _, _, rfl, rfl, ex_t e1 sr, rfl, (by show 3 ≤ sizeLine; decide), fun t nt => ⟨t, MV_.map V.str, rfl, .inr (SqT.of upd_same), rfl, flat_strs _, _, rfl, ite2 (fun c => ?_) fun _ => ?_⟩⟩
      · have c' : inV (.str _) (MV_.map V.str) = true := c
        rw [inV_strs] at c'
        exact absurd (of_decide_eq_true c') hm.2
      have e2 := e1.trans (Ex.new (o := .tup (MV_.map V.str)) nt)
      have hl2 := (Ex.new (o := .tup (MV_.map V.str)) nt) _ _ hl1
      refine ⟨_, rfl, _, rfl, _, rfl, _, rfl, ar, _, rfl, ex_t e2 sr, (by show ¬ (HT.sIx 3 0 none = 0 ∧ HT.sIx 3 3 (some (-1)) = 3); decide), fun t2 nt2 => ?_⟩
      have e3 := e2.trans (Ex.new (o := .tup [V.str "show", V.str s]) nt2)
      have hl3 := (Ex.new (o := .tup [V.str "show", V.str s]) nt2) _ _ hl2
      refine ⟨t2, [V.str "show", V.str s], rfl, .inr (SqT.of upd_same), fun l2 nl2 => ?_⟩
      have e4 := e3.trans (Ex.new (o := .lst [V.str "show", V.str s]) nl2)
      have hl4 := (Ex.new (o := .lst [V.str "show", V.str s]) nl2) _ _ hl3
      refine ⟨l, l2, _, _, rfl, rfl, hl4, upd_same, big_ (by simp; omega), fun l3 nl3 => ?_⟩
      have e5 := e4.trans (Ex.new (o := .lst (w1.map V.str ++ [V.str "show", V.str s])) nl3)
      refine ⟨_, rfl, _, rfl, ar, _, _, _, rfl, rfl, ex_t e5 sr, rfl, ve, ns, _, _, rfl, dp_mono e5 hve, he, fun l4 H4 x4 n4 h4 => ?_⟩
      refine ⟨l3, l4, _, _, rfl, rfl, x4 _ _ upd_same, h4, big_ (by simp; omega), fun l5 nl5 => ?_⟩
      refine ⟨l5, w1 ++ [("show" : Str), s] ++ we, _, b', m', _, (e5.trans x4).trans (Ex.new nl5), fresh_back (e5.trans x4) nl5, ?_, h, ?_, rfl⟩
      · rw [upd_same]; simp
      · simp
    | @set_ _ _ _ _ _ s e we _ w3 hs he h =>
      obtain ⟨ar, vr, rfl, sr, d0⟩ := dp_tup hxd
      obtain ⟨_, rfl, d1⟩ := dpa_s d0
      obtain ⟨_, rfl, d2⟩ := dpa_s d1
      obtain ⟨ve, _, rfl, hve, d4⟩ := dpa_c d2
      cases dpa_n d4
      have hm := mvN _ (show ("set" : Str) ∈ _ from .tail _ (.tail _ (.tail _ (.head _))))
      have l63 := len63 he (Nat.le_refl _)
      simp only [List.length_cons, List.length_append] at hbig
      refine ⟨_, rfl, ar, _, _, _, rfl, rfl, ex_t e1 sr, rfl, rfl, _, rfl, ite2 (fun c => absurd (V.str.inj (of_decide_eq_true c)) hm.1) fun _ => ?_⟩
      refine ⟨_, rfl, ar, _, _, _, rfl, rfl, ex_t e1 sr, rfl, (by show 3 ≤ sizeLine; decide), fun t nt => ⟨t, MV_.map V.str, rfl, .inr (SqT.of upd_same), rfl, flat_strs _, _, rfl, ite2 (fun c => ?_) fun _ => ?_⟩⟩
      · have c' : inV (.str _) (MV_.map V.str) = true := c
        rw [inV_strs] at c'
        exact absurd (of_decide_eq_true c') hm.2
      have e2 := e1.trans (Ex.new (o := .tup (MV_.map V.str)) nt)
      have hl2 := (Ex.new (o := .tup (MV_.map V.str)) nt) _ _ hl1
      refine ⟨_, rfl, _, rfl, _, rfl, _, rfl, ar, _, rfl, ex_t e2 sr, (by show ¬ (HT.sIx 3 0 none = 0 ∧ HT.sIx 3 3 (some (-1)) = 3); decide), fun t2 nt2 => ?_⟩
      have e3 := e2.trans (Ex.new (o := .tup [V.str "set", V.str s]) nt2)
      have hl3 := (Ex.new (o := .tup [V.str "set", V.str s]) nt2) _ _ hl2
      refine ⟨t2, [V.str "set", V.str s], rfl, .inr (SqT.of upd_same), fun l2 nl2 => ?_⟩
      have e4 := e3.trans (Ex.new (o := .lst [V.str "set", V.str s]) nl2)
      have hl4 := (Ex.new (o := .lst [V.str "set", V.str s]) nl2) _ _ hl3
      refine ⟨l, l2, _, _, rfl, rfl, hl4, upd_same, big_ (by simp; omega), fun l3 nl3 => ?_⟩
      have e5 := e4.trans (Ex.new (o := .lst (w1.map V.str ++ [V.str "set", V.str s])) nl3)
      refine ⟨_, rfl, _, rfl, ar, _, _, _, rfl, rfl, ex_t e5 sr, rfl, ve, ns, _, _, rfl, dp_mono e5 hve, he, fun l4 H4 x4 n4 h4 => ?_⟩
      refine ⟨l3, l4, _, _, rfl, rfl, x4 _ _ upd_same, h4, big_ (by simp; omega), fun l5 nl5 => ?_⟩
      refine ⟨l5, w1 ++ [("set" : Str), s] ++ we, _, b', m', _, (e5.trans x4).trans (Ex.new nl5), fresh_back (e5.trans x4) nl5, ?_, h, ?_, rfl⟩
      · rw [upd_same]; simp
      · simp
    | @draw _ _ _ _ _ s n _ w3 hs h0 h1 hb h =>
      obtain ⟨ar, vr, rfl, sr, d0⟩ := dp_tup hxd
      obtain ⟨_, rfl, d1⟩ := dpa_s d0
      obtain ⟨_, rfl, d2⟩ := dpa_s d1
      obtain ⟨_, rfl, d3⟩ := dpa_i d2
      cases dpa_n d3
      have hm : ("draw" : Str) ∈ MV_ := .head _
      simp only [List.length_cons] at hbig
      refine ⟨_, rfl, ar, _, _, _, rfl, rfl, ex_t e1 sr, rfl, rfl, _, rfl, ite2 (fun c => absurd (V.str.inj (of_decide_eq_true c)) (mvI _ hm)) fun _ => ?_⟩
      refine ⟨_, rfl, ar, _, _, _, rfl, rfl, ex_t e1 sr, rfl, (by show 3 ≤ sizeLine; decide), fun t nt => ⟨t, MV_.map V.str, rfl, .inr (SqT.of upd_same), rfl, flat_strs _, _, rfl, ite2 (fun _ => ?_) fun c => ?_⟩⟩
      rotate_left
      · have c' : ¬ inV (.str _) (MV_.map V.str) = true := c
        rw [inV_strs] at c'
        exact absurd (decide_eq_true hm) c'
      have e2 := e1.trans (Ex.new (o := .tup (MV_.map V.str)) nt)
      have hl2 := (Ex.new (o := .tup (MV_.map V.str)) nt) _ _ hl1
      refine ⟨_, rfl, _, rfl, ar, _, _, _, rfl, rfl, ex_t e2 sr, rfl, _, rfl, ar, _, _, _, rfl, rfl, ex_t e2 sr, rfl, _, rfl, ar, _, _, _, rfl, rfl, ex_t e2 sr, rfl, .inl ⟨_, rfl, log_small (by omega) (by omega), (by show 3 ≤ sizeLine; decide), fun l2 nl2 => ?_⟩⟩
      have e3 := e2.trans (Ex.new (o := .lst [V.str ("draw" : Str), V.str s, V.str (istr n)]) nl2)
      have hl3 := (Ex.new (o := .lst [V.str ("draw" : Str), V.str s, V.str (istr n)]) nl2) _ _ hl2
      refine ⟨l, l2, _, _, rfl, rfl, hl3, upd_same, big_ (by simp; omega), fun l3 nl3 => ?_⟩
      refine ⟨l3, w1 ++ [("draw" : Str), s, istr n], _, _, _, _, e3.trans (Ex.new nl3), fresh_back e3 nl3, ?_, h, ?_, rfl⟩
      · rw [upd_same]; simp
      · simp
    | @move _ _ _ _ _ c s n _ w3 hc hs h0 h1 hb h =>
      obtain ⟨ar, vr, rfl, sr, d0⟩ := dp_tup hxd
      obtain ⟨_, rfl, d1⟩ := dpa_s d0
      obtain ⟨_, rfl, d2⟩ := dpa_s d1
      obtain ⟨_, rfl, d3⟩ := dpa_i d2
      obtain ⟨_, rfl, d4⟩ := dpa_i d3
      cases dpa_n d4
      have hm : c ∈ MV_ := (.tail _ hc)
      simp only [List.length_cons] at hbig
      refine ⟨_, rfl, ar, _, _, _, rfl, rfl, ex_t e1 sr, rfl, rfl, _, rfl, ite2 (fun c => absurd (V.str.inj (of_decide_eq_true c)) (mvI _ hm)) fun _ => ?_⟩
      refine ⟨_, rfl, ar, _, _, _, rfl, rfl, ex_t e1 sr, rfl, (by show 3 ≤ sizeLine; decide), fun t nt => ⟨t, MV_.map V.str, rfl, .inr (SqT.of upd_same), rfl, flat_strs _, _, rfl, ite2 (fun _ => ?_) fun c => ?_⟩⟩
      rotate_left
      · have c' : ¬ inV (.str _) (MV_.map V.str) = true := c
        rw [inV_strs] at c'
        exact absurd (decide_eq_true hm) c'
      have e2 := e1.trans (Ex.new (o := .tup (MV_.map V.str)) nt)
      have hl2 := (Ex.new (o := .tup (MV_.map V.str)) nt) _ _ hl1
      refine ⟨_, rfl, _, rfl, ar, _, _, _, rfl, rfl, ex_t e2 sr, rfl, _, rfl, ar, _, _, _, rfl, rfl, ex_t e2 sr, rfl, _, rfl, ar, _, _, _, rfl, rfl, ex_t e2 sr, rfl, .inl ⟨_, rfl, log_small (by omega) (by omega), (by show 3 ≤ sizeLine; decide), fun l2 nl2 => ?_⟩⟩
      have e3 := e2.trans (Ex.new (o := .lst [V.str c, V.str s, V.str (istr n)]) nl2)
      have hl3 := (Ex.new (o := .lst [V.str c, V.str s, V.str (istr n)]) nl2) _ _ hl2
      refine ⟨l, l2, _, _, rfl, rfl, hl3, upd_same, big_ (by simp; omega), fun l3 nl3 => ?_⟩
      refine ⟨l3, w1 ++ [c, s, istr n], _, _, _, _, e3.trans (Ex.new nl3), fresh_back e3 nl3, ?_, h, ?_, rfl⟩
      · rw [upd_same]; simp
      · simp
    | @ite r' _ _ b3 m3 b4 m4 _ _ e we wt wo w3 ts os _ he ht ho lt lo h =>
      obtain ⟨ar, vr, rfl, sr, d0⟩ := dp_tup hxd
      obtain ⟨_, rfl, d1⟩ := dpa_s d0
      obtain ⟨ve, _, rfl, hve, d2⟩ := dpa_c d1
      obtain ⟨vt, _, rfl, hvt, d3⟩ := dpa_c d2
      obtain ⟨vo, _, rfl, hvo, d4⟩ := dpa_c d3
      cases dpa_n d4
      simp only [List.length_cons, List.length_append] at hbig
      refine ⟨_, rfl, ar, _, _, _, rfl, rfl, ex_t e1 sr, rfl, rfl, _, rfl, ite2 (fun _ => ?_) fun c => absurd rfl c⟩
      refine ⟨_, rfl, (by show 1 ≤ sizeLine; decide), fun l2 nl2 => ?_⟩
      have e2 := e1.trans (Ex.new (o := .lst [V.str "if"]) nl2)
      have hl2 := (Ex.new (o := .lst [V.str "if"]) nl2) _ _ hl1
      refine ⟨l, l2, _, _, rfl, rfl, hl2, upd_same, big_ (by simp; omega), fun l3 nl3 => ?_⟩
      have e3 := e2.trans (Ex.new (o := .lst (w1.map V.str ++ [V.str "if"])) nl3)
      refine ⟨_, rfl, ar, _, _, _, rfl, rfl, ex_t e3 sr, rfl, ve, ns, _, _, rfl, dp_mono e3 hve, he, fun l4 H4 x4 n4 h4 => ?_⟩
      have e4 := e3.trans x4
      refine ⟨l3, l4, _, _, rfl, rfl, x4 _ _ upd_same, h4, big_ (by simp; omega), fun l5 nl5 => ?_⟩
      have e5 := e4.trans (Ex.new (o := .lst (w1.map V.str ++ [V.str "if"] ++ we.map V.str)) nl5)
      refine ⟨_, rfl, ar, _, _, _, rfl, rfl, ex_t e5 sr, rfl, vt, ns, _, _, _, _, ts, wt, rfl, dp_mono e5 hvt, ht, by omega, fun l6 H6 x6 n6 h6 => ?_⟩
      have e6 := e5.trans x6
      refine ⟨l5, l6, _, _, rfl, rfl, x6 _ _ upd_same, h6, big_ (by simp; omega), fun l7 nl7 => ?_⟩
      have e7 := e6.trans (Ex.new (o := .lst (w1.map V.str ++ [V.str "if"] ++ we.map V.str ++ wt.map V.str)) nl7)
      have n7 := fresh_back e6 nl7
      refine ⟨fun σ H' => ∃ l' : Addr, Ex H H' ∧ H l' = none ∧ H' l' = some (.lst ((w1 ++ (("if" : Str) :: we ++ wt ++ elseW os wo)).map V.str)) ∧ σ = [some (.ref a), some (.ref l'), some (.ref ar)], ?_, ?_⟩
      · obtain ⟨ao, vso, rfl, so, do_⟩ := dp_tup hvo
        have hol := dp_all_len do_
        refine ⟨_, rfl, ar, _, _, _, rfl, rfl, ex_t e7 sr, rfl, ao, _, rfl, .inr (ex_t e7 so), _, _, rfl, rfl, _, rfl, ite2 (fun c => ?_) fun c => ?_⟩
        · have hn : os ≠ [] := fun z => by
            have := of_decide_eq_true c
            rw [hol, z] at this
            revert this
            decide
          have hew : elseW os wo = ("else" : Str) :: wo := if_neg hn
          rw [hew] at hbig ⊢
          simp only [List.length_cons] at hbig
          refine ⟨_, rfl, (by show 1 ≤ sizeLine; decide), fun l8 nl8 => ?_⟩
          have e8 := e7.trans (Ex.new (o := .lst [V.str "else"]) nl8)
          refine ⟨l7, l8, _, _, rfl, rfl, (Ex.new nl8) _ _ upd_same, upd_same, big_ (by simp; omega), fun l9 nl9 => ?_⟩
          have e9 := e8.trans (Ex.new (o := .lst (w1.map V.str ++ [V.str "if"] ++ we.map V.str ++ wt.map V.str ++ [V.str "else"])) nl9)
          refine ⟨_, rfl, ar, _, _, _, rfl, rfl, ex_t e9 sr, rfl, .ref ao, ns, _, _, _, _, os, wo, rfl, dp_mono e9 hvo, ho, by omega, fun l10 H10 x10 n10 h10 => ?_⟩
          refine ⟨l9, l10, _, _, rfl, rfl, x10 _ _ upd_same, h10, big_ (by simp; omega), fun l11 nl11 => ?_⟩
          refine ⟨l11, (e9.trans x10).trans (Ex.new nl11), fresh_back (e9.trans x10) nl11, ?_, rfl⟩
          rw [upd_same]
          simp
        · have hn : os = [] := by
            cases os with
            | nil => rfl
            | cons z zs =>
              exfalso
              apply c
              apply decide_eq_true
              rw [hol, List.length_cons]
              omega
          have hew : elseW os wo = [] := if_pos hn
          rw [hew]
          refine ⟨l7, e7, n7, ?_, rfl⟩
          rw [upd_same]
          simp
      rintro σ H8 ⟨l', e8, n8, h8, rfl⟩
      refine ⟨_, rfl, .inl ⟨rfl, _, SqL.of h8⟩, l', _, _, rfl, rfl, h8, ?_, ?_⟩
      · rw [List.length_map, List.length_append, List.length_append, List.length_append, List.length_cons]
        have := big_ (n := 1000000) (by decide)
        omega
      · refine ⟨l', w1 ++ (("if" : Str) :: we ++ wt ++ elseW os wo ++ [("end" : Str)]), w3, _, _, _, Ex.mut e8 n8, n8, ?_, h, ?_, rfl⟩
        · rw [upd_same]; simp
        · simp
  · rintro σ H1 ⟨l, w1, w2, b', m', v2, e1, nl, hl1, ib2, rfl, rfl⟩
    rw [dp_all_len dx, List.drop_length] at ib2
    cases ib2
    refine ⟨_, rfl, k l _ e1 nl ?_⟩
    rw [hl1, List.append_nil]
theorem fn_bw (T : Txt K mg) : ∀ r, r ≤ 4 → Fn P w K mg base (7 + r + 1) (ga K "_law_block_words") (spBW K r)
  | 0, h => fn_bw1 T 0 h (fun _ _ _ _ _ _ _ _ _ _ _ h => h.elim)
  | r + 1, h => fn_bw1 T (r + 1) h (fn_bw T r (by omega))
theorem fn_l_block_words (T : Txt K mg) : Fn P w K mg base 12 (ga K "_law_block_words") (spBW K 4) := fn_bw T 4 (by decide)
end
end LL
namespace LL
open PySem PySem.Spec PyProof.Rows L2 He Evl
theorem istr_l {i : Int} (h0 : 0 ≤ i) : (istr i).cps.toList = TL.numL i.toNat := by
  obtain ⟨n, rfl⟩ : ∃ n : Nat, i = n := ⟨i.toNat, by omega⟩
  exact TL.tl_num n
theorem istr_len {i : Int} (h0 : 0 ≤ i) (h1 : i ≤ 65535) : 1 ≤ (istr i).length ∧ (istr i).length ≤ 5 := by
  have e : (istr i).length = (TL.numL i.toNat).length := by rw [← istr_l h0]; simp [Str.length]
  rw [e]
  refine ⟨List.length_pos_iff.mpr (TL.numL_ne _), TL.numL_len (by decide) ?_⟩
  have : (10 : Nat) ^ 5 = 100000 := by decide
  omega
theorem istr_dig {i : Int} (h0 : 0 ≤ i) : ∀ c ∈ (istr i).cps.toList, 48 ≤ c ∧ c ≤ 57 := by
  rw [istr_l h0]
  exact fun c hc => TL.numL_digits _ c hc
theorem numL_head : ∀ (n : Nat), 1 ≤ n → ∃ c r, TL.numL n = c :: r ∧ 49 ≤ c := by
  intro n
  induction n using Nat.strongRecOn with
  | ind n ih =>
    intro h
    by_cases h10 : n < 10
    · exact ⟨48 + n, [], TL.numL_lt h10, by omega⟩
    · obtain ⟨c, r, e, hc⟩ := ih (n / 10) (by omega) (by omega)
      exact ⟨c, r ++ [48 + n % 10], by rw [TL.numL_step (by omega), e]; rfl, hc⟩
theorem istr_head {i : Int} (h0 : 0 ≤ i) : istr i = "0" ∨ ∃ c, (istr i).cps.toList[0]? = some c ∧ 49 ≤ c := by
  by_cases z : i = 0
  · subst z; exact .inl rfl
  · obtain ⟨c, r, e, hc⟩ := numL_head i.toNat (by omega)
    exact .inr ⟨c, by rw [istr_l h0, e]; rfl, hc⟩
theorem istr_int {i : Int} (h0 : 0 ≤ i) (h1 : i ≤ 65535) : PySem.intText? (istr i) = some i := by
  obtain ⟨n, rfl⟩ : ∃ n : Nat, i = n := ⟨i.toNat, by omega⟩
  exact TL.int_num (Nat.le_trans (TL.numL_len (k := 5) (by decide) (by have : (10 : Nat) ^ 5 = 100000 := by decide
                                                                       omega)) (by decide))
theorem atI_nat {α : Type} {xs : List α} {j : Nat} {x : α} (h : xs[j]? = some x) : atI xs (j : Int) = some x := by
  obtain ⟨hj, e⟩ := List.getElem?_eq_some_iff.mp h
  unfold atI
  rw [ixN_nat hj]
  simp [hj, e]
def DIG_ : Str := "0123456789"
def LET_ : Str := "abcdefghijklmnopqrstuvwxyz"
theorem dig_in : ∀ c, 48 ≤ c → c ≤ 57 → c ∈ DIG_.cps.toList := by
  intro c h0 h1
  have := (by decide +kernel : ∀ k : Fin 10, 48 + k.val ∈ DIG_.cps.toList) ⟨c - 48, by omega⟩
  have e : 48 + (c - 48) = c := by omega
  simpa [e] using this
theorem let_in : ∀ c, 97 ≤ c → c ≤ 122 → c ∈ LET_.cps.toList := by
  intro c h0 h1
  have := (by decide +kernel : ∀ k : Fin 26, 97 + k.val ∈ LET_.cps.toList) ⟨c - 97, by omega⟩
  have e : 97 + (c - 97) = c := by omega
  simpa [e] using this
section
variable {P : Program} {w : World} {K : PySem.W.Frag} {mg : Str → Option Value} {base : Heap}
/-- all([sign in Z for sign in x]) -/
theorem all_chars {s0 : Option V} {H : Hp} {Q : VK} {x Z : Str} {tz : TE} (hz : ∀ σ H (Q : VK), Q (.str Z) H → tz σ H Q) (hall : ∀ c ∈ x.cps.toList, c ∈ Z.cps.toList) (hl : x.length ≤ 1000) (k : ∀ H2, Ex H H2 → Q (.bl true) H2) :
    tCB (rAll K) (tCons (tLc (iStr (tVar 0)) (gName 1) tYes (tOp (fun x y H Q => ∃ (c : Nat) (z : Str), x = .str ⟨#[c]⟩ ∧ y = .str z ∧ Q (.bl (decide (c ∈ z.cps.toList))) H) (tVar 1) tz) [1]) tNil) [some (.str x), s0] H Q := by
  refine ⟨_, rfl, x, rfl, fun D nD => lc_it (n := x.cps.size) walk_str (fun i H' => upd H D (.lst ((List.replicate i true).map V.bl)) = H') rfl (fun _ _ _ _ => trivial) ?_ ?_⟩
  · rintro i y H1 H2 hi rfl ⟨rfl, c, hc, rfl⟩
    have hm : c ∈ x.cps.toList := Array.mem_toList_iff.mpr (Array.mem_of_getElem? hc)
    refine ⟨rfl, yes_if ?_⟩
    refine ⟨_, rfl, hz _ _ _ ⟨c, Z, rfl, rfl, _, upd_same, ?_, ?_⟩⟩
    · rw [List.length_map, List.length_replicate]
      have : (1000 : Nat) < sizeLine := by decide
      have e : x.cps.size = x.length := rfl
      omega
    · rw [upd_twice, decide_eq_true (hall c hm), List.replicate_succ', List.map_append]
      rfl
  · rintro H2 rfl
    refine ⟨D, List.replicate x.cps.size true, rfl, SqL.of upd_same, ?_⟩
    rw [show (List.replicate x.cps.size true).all id = true from by simp]
    exact k _ (Ex.new nD)
theorem slen (x : Str) (n : Nat) (h : x.length ≤ n) (hn : n ≤ 1000) : x.length ≤ sizeLine := by
  have : (1000 : Nat) ≤ sizeLine := by decide
  omega
/-- a name is one -/
def spIsName : Sp := fun vs H Q _ => ∃ x : Str, vs = [.str x] ∧ IsName x ∧ ∀ H2, Ex H H2 → Q (.bl true) H2
theorem fn_is_name (T : Txt K mg) : Fn P w K mg base 1 (ga K "is_name") (spIsName) := by
  refine fn_def T.d_is_name sc_is_name (fun _ _ _ _ _ _ us hl => match us, hl with | [_], _ => rfl) (fun vs H Q E h => ?_) (fun cdv A outer s H vs Q E hr h => ?_)
  · obtain ⟨x, rfl, _⟩ := h
    rfl
  obtain ⟨x, rfl, hx, k⟩ := h
  have nd := sc_is_name.nd
  refine ⟨_, pss_one (ps_ret (pe_and (pe_chain op_le op_le (pe_int) (pe_callB call_len_str (by rfl) T.f_len (by decide +kernel) (pa_cons (pv 0) pa_nil)) (pe_int)) (pe_and (pe_cmpR op_notIn_seq (pv 0) (pe_gr T.g_KEYS) rfl) (pe_one (pe_callB (cr_all rfl) (by rfl) T.f_all (by decide +kernel) (pa_cons (pe_lc (own := [("char", 1)]) (g := gName 1) (tt := tYes) rfl nd (pi_str (pv 0)) (blkOk_by (N := n_is_name) (sc := defScope s_is_name) (by decide +kernel)) (fun _ _ _ _ _ => pg_name (i := 1) nd rfl (by first | exact Or.inl rfl | exact Or.inr rfl)) (fun _ _ _ _ _ => pts_nil) (fun _ _ _ _ _ => pe_cmpR op_in_sign (pv 1) (pe_gs T.i_LETTERS) rfl)) pa_nil)))))), ?_⟩
  have hl1 := hx.l1
  have hl8 := hx.l8
  refine ⟨_, rfl, x, rfl, slen x 8 hl8 (by decide), _, _, rfl, rfl, _, rfl, ?_⟩
  refine ite2 (fun _ => ⟨_, _, rfl, rfl, ?_⟩) fun c => absurd (decide_eq_true (by omega)) c
  refine ⟨_, rfl, ite2 (fun _ => ?_) fun c => absurd (decide_eq_true (by omega)) c⟩
  refine ⟨_, rfl, ga K "KEYS", _, rfl, .inr (tupB_ok T.p_KEYS H), rfl, flat_strs KEYS_, _, rfl, ite2 (fun _ => ?_) fun c => ?_⟩
  · exact all_chars (Z := LET_) (fun _ _ _ h => h) (fun c hc => let_in c (hx.lo c hc).1 (hx.lo c hc).2) (by omega) k
  · exfalso
    apply c
    show (!inV (.str x) (KEYS_.map V.str)) = true
    rw [inV_strs, decide_eq_false hx.nk]
    rfl
/-- a number's text read -/
def spNumberOf : Sp := fun vs H Q _ => ∃ i : Int, vs = [.str (istr i)] ∧ 0 ≤ i ∧ i ≤ 65535 ∧ ∀ H2, Ex H H2 → Q (.int i) H2
theorem fn_number_of (T : Txt K mg) : Fn P w K mg base 1 (ga K "number_of") (spNumberOf) := by
  refine fn_def T.d_number_of sc_number_of (fun _ _ _ _ _ _ us hl => match us, hl with | [_], _ => rfl) (fun vs H Q E h => ?_) (fun cdv A outer s H vs Q E hr h => ?_)
  · obtain ⟨x, rfl, _⟩ := h
    rfl
  obtain ⟨i, rfl, h0, h1, k⟩ := h
  have nd := sc_number_of.nd
  refine ⟨_, pss_cons (ps_if (PW.pt (pw_or (pt_not (pt_chain op_le op_le (pe_int) (pe_callB call_len_str (by rfl) T.f_len (by decide +kernel) (pa_cons (pv 0) pa_nil)) (pe_int))) (pw_or1 (pt_not (pt_val (pe_callB (cr_all rfl) (by rfl) T.f_all (by decide +kernel) (pa_cons (pe_lc (own := [("char", 1)]) (g := gName 1) (tt := tYes) rfl nd (pi_str (pv 0)) (blkOk_by (N := n_number_of) (sc := defScope s_number_of) (by decide +kernel)) (fun _ _ _ _ _ => pg_name (i := 1) nd rfl (by first | exact Or.inl rfl | exact Or.inr rfl)) (fun _ _ _ _ _ => pts_nil) (fun _ _ _ _ _ => pe_cmpR op_in_sign (pv 1) (pe_str) rfl)) pa_nil))))))) (pss_one (ps_ret (pe_non))) (pss_nil))
      (pss_cons (ps_if (PW.pt (pw_or (PW.pt (pw_and (pt_cmpR op_eq (pe_ix ix_str (pv 0) (pe_int) (fun _ _ => rfl)) (pe_str) (nomark _)) (pw_and1 (pt_cmpR op_ne (pv 0) (pe_str) (nomark _))))) (pw_or1 (pt_cmpR op_gt (pe_callTy call_int_str (by rfl) T.f_int (by decide +kernel) (pa_cons (pv 0) pa_nil)) (pe_gi T.i_GREATEST) (nomark _))))) (pss_one (ps_ret (pe_non))) (pss_nil))
      (pss_one (ps_ret (pe_callTy call_int_str (by rfl) T.f_int (by decide +kernel) (pa_cons (pv 0) pa_nil))))), ?_⟩
  obtain ⟨l1, l5⟩ := istr_len h0 h1
  have hs := slen _ 5 l5 (by decide)
  refine ⟨_, rfl, _, rfl, hs, _, _, rfl, rfl, _, rfl, ?_⟩
  refine ite2 (fun _ => ⟨_, _, rfl, rfl, ?_⟩) fun c => absurd (decide_eq_true (by omega)) c
  refine ⟨_, rfl, ite2 (fun c => ?_) fun _ => ?_⟩
  · exfalso
    rw [decide_eq_true (by omega)] at c
    exact Bool.noConfusion c
  refine all_chars (Z := DIG_) (fun _ _ _ h => h) (fun c hc => dig_in c (istr_dig h0 c hc).1 (istr_dig h0 c hc).2) (by omega) fun H2 e2 => ?_
  refine ⟨_, rfl, iteF ?_⟩
  have fin : ∀ H3, Ex H2 H3 → Q (.int i) H3 := fun H3 e3 => k H3 (e2.trans e3)
  obtain ⟨c0, hc0⟩ : ∃ c0, (istr i).cps.toList[0]? = some c0 := by
    have : 0 < (istr i).cps.toList.length := by rw [Array.length_toList]; exact l1
    exact ⟨_, List.getElem?_eq_getElem this⟩
  refine ⟨_, rfl, _, _, c0, rfl, rfl, hs, atI_nat (j := 0) hc0, rfl, _, rfl, ?_⟩
  refine ite2 (fun c1 => ?_) fun c1 => iteF ?_
  · have e0 : istr i = "0" := by
      rcases istr_head h0 with h | ⟨c, hc, hge⟩
      · exact h
      · exfalso
        rw [hc] at hc0
        cases hc0
        have := congrArg (fun x : Str => x.cps) (V.str.inj (of_decide_eq_true c1))
        have h2 : ([c0] : List Nat) = [48] := congrArg Array.toList this
        have h3 := (List.cons.inj h2).1
        omega
    refine ⟨_, rfl, rfl, _, rfl, ite2 (fun c2 => ?_) fun c2 => ?_⟩
    · exfalso
      rw [e0] at c2
      exact absurd c2 (by decide)
    · refine ⟨_, rfl, istr i, i, rfl, istr_int h0 h1, by omega, _, _, rfl, rfl, _, rfl, ite2 (fun c3 => ?_) fun _ => ⟨_, rfl, istr i, i, rfl, istr_int h0 h1, by omega, fin H2 (Ex.refl H2)⟩⟩
      have := of_decide_eq_true c3
      omega
  · refine ⟨_, rfl, istr i, i, rfl, istr_int h0 h1, by omega, _, _, rfl, rfl, _, rfl, ite2 (fun c3 => ?_) fun _ => ⟨_, rfl, istr i, i, rfl, istr_int h0 h1, by omega, fin H2 (Ex.refl H2)⟩⟩
    have := of_decide_eq_true c3
    omega
end
end LL
namespace LL
open PySem PySem.Spec PyProof.Rows L2 He Evl
theorem ps_never {X : Cx} {st : Stmt} : PS X st (fun _ _ _ => False) := ⟨fun _ _ _ _ _ _ h => h.elim⟩
theorem sgD : ∀ s ∈ SIGNS_, ∃ c ∈ s.cps.toList, c < 48 ∨ 57 < c := by decide +kernel
theorem sgL : ∀ s ∈ SIGNS_, s ∈ KEYS_ ∨ ∃ c ∈ s.cps.toList, c < 97 := by decide +kernel
theorem sg_num {i : Int} (h0 : 0 ≤ i) : istr i ∉ SIGNS_ := fun h => by
  obtain ⟨c, hc, h2⟩ := sgD _ h
  have := istr_dig h0 c hc
  omega
theorem sg_name {x : Str} (h : IsName x) : x ∉ SIGNS_ := fun z => by
  rcases sgL _ z with h2 | ⟨c, hc, h2⟩
  · exact h.nk h2
  · have := h.lo c hc
    omega
theorem name_num {i : Int} {x : Str} (h : IsName x) (h0 : 0 ≤ i) : x ≠ istr i := fun e => by
  have h1 := h.l1
  obtain ⟨c, hc⟩ : ∃ c, c ∈ x.cps.toList := by
    have : 0 < x.cps.toList.length := by rw [Array.length_toList]; exact h1
    exact ⟨_, List.getElem_mem this⟩
  have h2 := h.lo c hc
  rw [e] at hc
  have h3 := istr_dig h0 c hc
  omega
theorem num_names {i : Int} {N : List Str} (hN : ∀ x ∈ N, IsName x) (h0 : 0 ≤ i) : istr i ∉ N := fun h => name_num (hN _ h) h0 rfl
section
variable {P : Program} {w : World} {K : PySem.W.Frag} {mg : Str → Option Value} {base : Heap}
def rdF (lw ln : Addr) (at_ br mv : Nat) : List (Str × V) := [("words", .ref lw), ("at", .int at_), ("names", .ref ln), ("branches", .int br), ("moves", .int mv)]
/-- a Reader with its names, the words that it has not read, its counts -/
def Rd_ (K : PySem.W.Frag) (p : Addr) (L : Addr × Addr) (N R : List Str) (br mv : Nat) (H : Hp) : Prop := ∃ (dx lw ln : Addr) (W : List Str) (at_ : Nat), H p = some (.ins (ga K "Reader") dx (rdF lw ln at_ br mv)) ∧ H lw = some (.lst (W.map V.str)) ∧ H ln = some (.lst (N.map V.str)) ∧ W.drop at_ = R ∧ at_ ≤ W.length ∧ W.length ≤ 2000000 ∧ (lw, ln) = L
theorem Rd_.stp {p : Addr} {L : Addr × Addr} {N R : List Str} {br mv : Nat} {B H B2 H2 : Hp} (h : Rd_ K p L N R br mv H) (s : Stp [] B H B2 H2) : Rd_ K p L N R br mv H2 := by
  obtain ⟨dx, lw, ln, W, a, h1, h2, h3, h4⟩ := h
  exact ⟨dx, lw, ln, W, a, s.fr _ _ (by simp) h1, s.fr _ _ (by simp) h2, s.fr _ _ (by simp) h3, h4⟩
theorem Rd_.ex {p : Addr} {L : Addr × Addr} {N R : List Str} {br mv : Nat} {H H2 : Hp} (h : Rd_ K p L N R br mv H) (s : Ex H H2) : Rd_ K p L N R br mv H2 := by
  obtain ⟨dx, lw, ln, W, a, h1, h2, h3, h4⟩ := h
  exact ⟨dx, lw, ln, W, a, s _ _ h1, s _ _ h2, s _ _ h3, h4⟩
theorem lst_ne {H : Hp} {a p C dx : Addr} {fs : List (Str × V)} {xs : List V} (h1 : H p = some (.ins C dx fs)) (h2 : H a = some (.lst xs)) : a ≠ p := fun z => by
  rw [z, h1] at h2
  cases h2
theorem rd_at {L : Addr × Addr} {p dx lw ln : Addr} {at_ br mv : Nat} {W N R : List Str} {x : Str} {H : Hp} (hp : H p = some (.ins (ga K "Reader") dx (rdF lw ln at_ br mv))) (hw : H lw = some (.lst (W.map V.str))) (hn : H ln = some (.lst (N.map V.str))) (hd : W.drop at_ = x :: R)
    (hl : W.length ≤ 2000000 ∧ (lw, ln) = L) : Rd_ K p L N R br mv (upd H p (.ins (ga K "Reader") dx (putF "at" (.int ((at_ : Int) + 1)) (rdF lw ln at_ br mv)))) := by
  have h1 : at_ < W.length := by
    have := congrArg List.length hd
    rw [List.length_drop, List.length_cons] at this
    omega
  refine ⟨dx, lw, ln, W, at_ + 1, upd_same, by rw [upd_ne (lst_ne hp hw)]; exact hw, by rw [upd_ne (lst_ne hp hn)]; exact hn, ?_, h1, hl⟩
  rw [List.drop_eq_getElem_cons h1] at hd
  exact (List.cons.inj hd).2
def spWord (K : PySem.W.Frag) : Sp := fun vs H Q _ => ∃ (L : Addr × Addr) (p : Addr) (N R : List Str) (b m : Nat), vs = [.ref p] ∧ Rd_ K p L N R b m H ∧ Q (.str (R.headD "")) H
theorem lenW {n : Nat} (h : n ≤ 2000000) : n ≤ sizeLine := big_ h
theorem fn_Reader_word (T : Txt K mg) : Fn P w K mg base 1 (ma K (ga K "Reader") "word") (spWord K) := by
  refine fn_def T.d_Reader_word sc_Reader_word (fun _ _ _ _ _ _ us hl => match us, hl with | [_], _ => rfl) (fun vs H Q E h => ?_) (fun cdv A outer s H vs Q E hr h => ?_)
  · obtain ⟨L, p, N, R, b, m, rfl, _⟩ := h
    rfl
  obtain ⟨L, p, N, R, b, m, rfl, ⟨dx, lw, ln, W, at_, hp, hw, hn, hd, ha, hl⟩, k⟩ := h
  have nd := sc_Reader_word.nd
  refine ⟨_, pss_cons (ps_if (pt_cmpR op_lt (pe_fld (pv 0) rfl) (pe_callB call_len_seq (by rfl) T.f_len PySem.boot_len (pa_cons (pe_fld (pv 0) rfl) pa_nil)) (nomark _)) (pss_one (ps_ret (pe_ix ix_list (pe_fld (pv 0) rfl) (pe_fld (pv 0) rfl) (fun _ _ => rfl)))) (pss_nil))
      (pss_one (ps_ret (pe_str))), ?_⟩
  refine ⟨_, rfl, p, _, _, _, _, rfl, hp, T.c_Reader, T.a_Reader_at, rfl, _, rfl, p, _, _, _, _, rfl, hp, T.c_Reader, T.a_Reader_words, rfl, lw, _, rfl, .inl (SqL.of hw), _, _, rfl, rfl, _, rfl, ite2 (fun c => ?_) fun c => ?_⟩
  · have h1 : at_ < W.length := by
      have := of_decide_eq_true c
      rw [List.length_map] at this
      omega
    rw [List.drop_eq_getElem_cons h1] at hd
    subst hd
    exact ⟨_, rfl, p, _, _, _, _, rfl, hp, T.c_Reader, T.a_Reader_words, rfl, _, rfl, p, _, _, _, _, rfl, hp, T.c_Reader, T.a_Reader_at, rfl, lw, _, _, _, rfl, rfl, SqL.of hw, atI_nat (x := V.str W[at_]) (by simp [h1]), k⟩
  · have h1 : W.length ≤ at_ := by
      rcases Nat.lt_or_ge at_ W.length with h | h
      · exact absurd (decide_eq_true (by rw [List.length_map]; omega)) c
      · exact h
    rw [List.drop_eq_nil_of_le h1] at hd
    subst hd
    exact k
def spTake (K : PySem.W.Frag) : Sp := fun vs H Q _ => ∃ (B : Hp) (L : Addr × Addr) (p a : Addr) (N R xs : List Str) (x : Str) (b m : Nat), vs = [.ref p, .ref a] ∧ Ex B H ∧ B p = none ∧ Rd_ K p L N (x :: R) b m H ∧ (SqL K H a (xs.map V.str) ∨ SqT K H a (xs.map V.str)) ∧ x ∈ xs ∧
  ∀ H2, Stp [p] B H B H2 → Rd_ K p L N R b m H2 → Q (.str x) H2
theorem fn_Reader_take (T : Txt K mg) : Fn P w K mg base 2 (ma K (ga K "Reader") "take") (spTake K) := by
  refine fn_def T.d_Reader_take sc_Reader_take (fun _ _ _ _ _ _ us hl => match us, hl with | [_, _], _ => rfl) (fun vs H Q E h => ?_) (fun cdv A outer s H vs Q E hr h => ?_)
  · obtain ⟨B, L, p, a, N, R, xs, x, b, m, rfl, _⟩ := h
    rfl
  obtain ⟨B, L, p, a, N, R, xs, x, b, m, rfl, e, hb, hr0, hs, hx, k⟩ := h
  have nd := sc_Reader_take.nd
  refine ⟨_, pss_cons (ps_set (i := 2) nd rfl (by first | exact Or.inl rfl | exact Or.inr rfl) (pe_methR0 (pv 0) T.c_Reader T.t_Reader_word (fn_Reader_word T) (hr.mono (by decide)) pc))
      (pss_cons (ps_if (pt_cmpR op_notIn_seq (pv 2) (pv 1) rfl) (pss_one (ps_never)) (pss_nil))
      (pss_cons (ps_fldaug (pv 0) (pe_int) in_add)
      (pss_one (ps_ret (pv 2))))), ?_⟩
  obtain ⟨dx, lw, ln, W, at_, hp, hw, hn, hd, ha, hl⟩ := id hr0
  refine ⟨_, rfl, p, dx, _, rfl, hp, rfl, L, p, N, x :: R, b, m, rfl, hr0, ?_⟩
  refine ⟨_, rfl, _, rfl, a, _, rfl, hs, rfl, flat_strs xs, _, rfl, ite2 (fun c => ?_) fun _ => ?_⟩
  · have c' : (!inV (.str x) (xs.map V.str)) = true := c
    rw [inV_strs, decide_eq_true hx] at c'
    exact Bool.noConfusion c'
  refine ⟨_, rfl, p, _, _, _, _, rfl, hp, T.c_Reader, T.a_Reader_at, rfl, _, _, rfl, rfl, _, _, hp, (by show 5 < 1000; decide), _, rfl, ?_⟩
  exact k _ (Stp.put e hb (.head _)) (rd_at hp hw hn hd hl)
def spTakeN (K : PySem.W.Frag) : Sp := fun vs H Q _ => ∃ (B : Hp) (L : Addr × Addr) (p : Addr) (N R : List Str) (lo hi i : Int) (b m : Nat), vs = [.ref p, .int lo, .int hi] ∧ Ex B H ∧ B p = none ∧ Rd_ K p L N (istr i :: R) b m H ∧ 0 ≤ i ∧ i ≤ 65535 ∧ lo ≤ i ∧ i ≤ hi ∧
  ∀ H2, Stp [p] B H B H2 → Rd_ K p L N R b m H2 → Q (.int i) H2
theorem fn_Reader_take_number (T : Txt K mg) : Fn P w K mg base 2 (ma K (ga K "Reader") "take_number") (spTakeN K) := by
  refine fn_def T.d_Reader_take_number sc_Reader_take_number (fun _ _ _ _ _ _ us hl => match us, hl with | [_, _, _], _ => rfl) (fun vs H Q E h => ?_) (fun cdv A outer s H vs Q E hr h => ?_)
  · obtain ⟨B, L, p, N, R, lo, hi, i, b, m, rfl, _⟩ := h
    rfl
  obtain ⟨B, L, p, N, R, lo, hi, i, b, m, rfl, e, hb, hr0, i0, i1, hlo, hhi, k⟩ := h
  have nd := sc_Reader_take_number.nd
  refine ⟨_, pss_cons (ps_set (i := 3) nd rfl (by first | exact Or.inl rfl | exact Or.inr rfl) (pe_fn T.d_number_of (fn_number_of T) (hr.mono (by decide)) T.g_number_of pc (pa_cons (pe_methR0 (pv 0) T.c_Reader T.t_Reader_word (fn_Reader_word T) (hr.mono (by decide)) pc) pa_nil)))
      (pss_cons (ps_if (PW.pt (pw_or (pt_cmpR op_isN (pv 3) (pe_non) (nomark _)) (pw_or1 (pt_not (pt_chain op_le op_le (pv 1) (pv 3) (pv 2)))))) (pss_one (ps_never)) (pss_nil))
      (pss_cons (ps_fldaug (pv 0) (pe_int) in_add)
      (pss_one (ps_ret (pv 3))))), ?_⟩
  obtain ⟨dx, lw, ln, W, at_, hp, hw, hn, hd, ha, hl⟩ := id hr0
  refine ⟨_, rfl, p, dx, _, rfl, hp, rfl, L, p, N, _, b, m, rfl, hr0, i, rfl, i0, i1, fun H2 x2 => ?_⟩
  refine ⟨_, rfl, rfl, _, rfl, iteF ?_⟩
  refine ⟨_, rfl, _, rfl, _, _, rfl, rfl, _, rfl, ite2 (fun _ => ?_) fun c => absurd (decide_eq_true hlo) c⟩
  refine ⟨_, rfl, _, _, rfl, rfl, _, rfl, ite2 (fun c => ?_) fun _ => ?_⟩
  · exfalso
    have c' : (!decide (i ≤ hi)) = true := c
    rw [decide_eq_true hhi] at c'
    exact Bool.noConfusion c'
  have s1 := Stp.ofEx (ms := [p]) e x2
  refine ⟨_, rfl, p, _, _, _, _, rfl, x2 _ _ hp, T.c_Reader, T.a_Reader_at, rfl, _, _, rfl, rfl, _, _, x2 _ _ hp, (by show 5 < 1000; decide), _, rfl, ?_⟩
  exact k _ (s1.trans (Stp.put s1.in_ hb (.head _))) (rd_at (x2 _ _ hp) (x2 _ _ hw) (x2 _ _ hn) hd hl)
def spExpr (K : PySem.W.Frag) (n : Nat) : Sp := fun vs H Q _ => ∃ (B : Hp) (L : Addr × Addr) (p : Addr) (N R ws : List Str) (d : PyData) (b m : Nat), vs = [.ref p, .int (n : Int)] ∧ Ex B H ∧ B p = none ∧ Rd_ K p L N (ws ++ R) b m H ∧ IsE N n d ws ∧ (∀ x ∈ N, IsName x) ∧
  ∀ (v : V) (B2 H2 : Hp), Stp [p] B H B2 H2 → Rd_ K p L N R b m H2 → Dp K B2 v d → Q v H2
theorem fn_expr1 (T : Txt K mg) (n : Nat) (IH : Fn P w K mg base (2 + n) (ma K (ga K "Reader") "expression") (spExpr K n)) : Fn P w K mg base (2 + n + 1) (ma K (ga K "Reader") "expression") (spExpr K (n + 1)) := by
  refine fn_def T.d_Reader_expression sc_Reader_expression (fun _ _ _ _ _ _ us hl => match us, hl with | [_, _], _ => rfl) (fun vs H Q E h => ?_) (fun cdv A outer s H vs Q E hr h => ?_)
  · obtain ⟨B, L, p, N, R, ws, d, b, m, rfl, _⟩ := h
    rfl
  obtain ⟨B, L, p, N, R, ws, d, b, m, rfl, e, hb, hr0, ie, hN, k⟩ := h
  have nd := sc_Reader_expression.nd
  have hr1 : Room 1 _ := hr.mono (by omega)
  have hr2 : Room 2 _ := hr.mono (by omega)
  refine ⟨_, pss_cons (ps_set (i := 2) nd rfl (by first | exact Or.inl rfl | exact Or.inr rfl) (pe_methR0 (pv 0) T.c_Reader T.t_Reader_word (fn_Reader_word T) hr1 pc))
      (pss_cons (ps_if (PW.pt (pw_and (pt_cmpR op_in_seq (pv 2) (pe_gr T.g_SIGNS) rfl) (pw_and1 (pt_cmpR op_gt (pv 1) (pe_int) (nomark _))))) (pss_cons (ps_fldaug (pv 0) (pe_int) in_add)
      (pss_cons (ps_set (i := 3) nd rfl (by first | exact Or.inl rfl | exact Or.inr rfl) (pe_methR (pv 0) T.c_Reader T.t_Reader_expression IH hr pc (pa_cons (pe_op op_sub (pv 1) (pe_int)) pa_nil)))
      (pss_one (ps_ret (pe_tup (pa_cons (pv 2) (pa_cons (pv 3) (pa_cons (pe_methR (pv 0) T.c_Reader T.t_Reader_expression IH hr pc (pa_cons (pe_op op_sub (pv 1) (pe_int)) pa_nil)) pa_nil)))))))) (pss_nil))
      (pss_cons (ps_if (pt_cmpR op_in_seq (pv 2) (pe_fld (pv 0) rfl) rfl) (pss_cons (ps_fldaug (pv 0) (pe_int) in_add)
      (pss_one (ps_ret (pe_tup (pa_cons (pe_str) (pa_cons (pv 2) pa_nil)))))) (pss_nil))
      (pss_one (ps_ret (pe_tup (pa_cons (pe_str) (pa_cons (pe_methR (pv 0) T.c_Reader T.t_Reader_take_number (fn_Reader_take_number T) hr2 pc (pa_cons (pe_int) (pa_cons (pe_gi T.i_GREATEST) pa_nil))) pa_nil))))))), ?_⟩
  obtain ⟨dx, lw, ln, W, at_, hp, hw, hn, hd, ha, hl⟩ := id hr0
  refine ⟨_, rfl, p, dx, _, rfl, hp, rfl, L, p, N, _, b, m, rfl, hr0, ?_⟩
  cases ie with
  | @num _ i h0 h1 =>
    refine ⟨_, rfl, ga K "SIGNS", _, rfl, .inr (tupB_ok T.p_SIGNS H), rfl, flat_strs SIGNS_, _, rfl, ite2 (fun c => ?_) fun _ => iteF ?_⟩
    · have c' : inV (.str (istr i)) (SIGNS_.map V.str) = true := c
      rw [inV_strs, decide_eq_false (sg_num h0)] at c'
      exact Bool.noConfusion c'
    refine ⟨_, rfl, _, rfl, p, _, _, _, _, rfl, hp, T.c_Reader, T.a_Reader_names, rfl, ln, _, rfl, .inl (SqL.of hn), rfl, flat_strs N, _, rfl, ite2 (fun c => ?_) fun _ => ?_⟩
    · have c' : inV (.str (istr i)) (N.map V.str) = true := c
      rw [inV_strs, decide_eq_false (num_names hN h0)] at c'
      exact Bool.noConfusion c'
    refine ⟨_, rfl, p, dx, _, rfl, hp, rfl, B, L, p, N, R, 0, 65535, i, b, m, rfl, e, hb, hr0, h0, h1, h0, h1, fun H2 s2 hr2 => ?_⟩
    refine ⟨(by show 2 ≤ sizeLine; decide), fun u nu => ?_⟩
    have t3 := Stp.new (ms := []) (o := .tup [V.str "number", V.int i]) s2.in_ nu
    exact k _ _ _ (s2.trans t3.nil) (hr2.stp t3) (.tup (SqT.of upd_same) (.cons (.str _) (.cons (.int _) .nil)))
  | @var _ x hx =>
    have hnx := hN x hx
    refine ⟨_, rfl, ga K "SIGNS", _, rfl, .inr (tupB_ok T.p_SIGNS H), rfl, flat_strs SIGNS_, _, rfl, ite2 (fun c => ?_) fun _ => iteF ?_⟩
    · have c' : inV (.str x) (SIGNS_.map V.str) = true := c
      rw [inV_strs, decide_eq_false (sg_name hnx)] at c'
      exact Bool.noConfusion c'
    refine ⟨_, rfl, _, rfl, p, _, _, _, _, rfl, hp, T.c_Reader, T.a_Reader_names, rfl, ln, _, rfl, .inl (SqL.of hn), rfl, flat_strs N, _, rfl, ite2 (fun _ => ?_) fun c => ?_⟩
    · refine ⟨_, rfl, p, _, _, _, _, rfl, hp, T.c_Reader, T.a_Reader_at, rfl, _, _, rfl, rfl, _, _, hp, (by show 5 < 1000; decide), ?_⟩
      have s2 := Stp.put (ms := [p]) (o := .ins (ga K "Reader") dx (putF "at" (.int ((at_ : Int) + 1)) (rdF lw ln at_ b m))) e hb (.head _)
      have hr2 := rd_at hp hw hn hd hl
      refine ⟨_, rfl, (by show 2 ≤ sizeLine; decide), fun u nu => ?_⟩
      have t3 := Stp.new (ms := []) (o := .tup [V.str "variable", V.str x]) s2.in_ nu
      exact k _ _ _ (s2.trans t3.nil) (hr2.stp t3) (.tup (SqT.of upd_same) (.cons (.str _) (.cons (.str _) .nil)))
    · have c' : ¬ inV (.str x) (N.map V.str) = true := c
      rw [inV_strs, decide_eq_true hx] at c'
      exact absurd rfl c'
  | @op _ sg da db wa wb hs ia ib =>
    have n1 : 1 ≤ n := by
      cases n with
      | zero => cases ia
      | succ n => omega
    refine ⟨_, rfl, ga K "SIGNS", _, rfl, .inr (tupB_ok T.p_SIGNS H), rfl, flat_strs SIGNS_, _, rfl, ite2 (fun _ => ?_) fun c => ?_⟩
    rotate_left
    · have c' : ¬ inV (.str sg) (SIGNS_.map V.str) = true := c
      rw [inV_strs, decide_eq_true hs] at c'
      exact absurd rfl c'
    refine ⟨_, rfl, _, _, rfl, rfl, _, rfl, ite2 (fun _ => ?_) fun c => absurd (decide_eq_true (by omega)) c⟩
    refine ⟨_, rfl, p, _, _, _, _, rfl, hp, T.c_Reader, T.a_Reader_at, rfl, _, _, rfl, rfl, _, _, hp, (by show 5 < 1000; decide), ?_⟩
    have s2 := Stp.put (ms := [p]) (o := .ins (ga K "Reader") dx (putF "at" (.int ((at_ : Int) + 1)) (rdF lw ln at_ b m))) e hb (.head _)
    have hr2 := rd_at (R := wa ++ (wb ++ R)) (x := sg) hp hw hn (by rw [hd]; simp) hl
    have en : ((n + 1 : Nat) : Int) - 1 = (n : Int) := by omega
    obtain ⟨dx2, lw2, ln2, W2, at2, hp2, _⟩ := id hr2
    refine ⟨_, rfl, p, dx2, _, rfl, hp2, rfl, _, rfl, _, _, rfl, rfl, B, L, p, N, wb ++ R, wa, da, b, m, by show [V.ref p, V.int (((n + 1 : Nat) : Int) - 1)] = _; rw [en], s2.in_, hb, hr2, ia, hN, fun v3 B3 H3 t3 hr3 hd3 => ?_⟩
    have s3 := s2.trans t3
    have hb3 := t3.off hb hp2
    obtain ⟨dx3, lw3, ln3, W3, at3, hp3, _⟩ := id hr3
    refine ⟨_, rfl, _, rfl, _, rfl, p, dx3, _, rfl, hp3, rfl, _, rfl, _, _, rfl, rfl, B3, L, p, N, R, wb, db, b, m, by show [V.ref p, V.int (((n + 1 : Nat) : Int) - 1)] = _; rw [en], s3.in_, hb3, hr3, ib, hN, fun v4 B4 H4 t4 hr4 hd4 => ?_⟩
    have s4 := s3.trans t4
    refine ⟨(by show 3 ≤ sizeLine; decide), fun u nu => ?_⟩
    have t5 := Stp.new (ms := []) (o := .tup [V.str sg, v3, v4]) s4.in_ nu
    exact k _ _ _ (s4.trans t5.nil) (hr4.stp t5) (.tup (SqT.of upd_same) (.cons (.str _) (.cons (dp_mono (t4.base.trans t5.base) hd3) (.cons (dp_mono t5.base hd4) .nil))))
theorem fn_expr (T : Txt K mg) : ∀ n, Fn P w K mg base (2 + n) (ma K (ga K "Reader") "expression") (spExpr K n)
  | 0 => fun _ _ _ _ _ _ _ _ _ _ _ ⟨_, _, _, _, _, _, _, _, _, _, _, _, _, h, _⟩ => nomatch h
  | n + 1 => fn_expr1 T n (fn_expr T n)
theorem fn_Reader_expression (T : Txt K mg) : Fn P w K mg base 8 (ma K (ga K "Reader") "expression") (spExpr K 6) := fn_expr T 6
end
end LL
namespace LL
open PySem PySem.Spec PyProof.Rows L2 He Evl
def STM_ : List Str := ["draw", "choose", "come", "set", "show", "pay", "take", "if"]
def StopW (R : List Str) : Prop := R.headD "" ∉ STM_
section
variable {P : Program} {w : World} {K : PySem.W.Frag} {mg : Str → Option Value} {base : Heap}
theorem rd_br {L : Addr × Addr} {p dx lw ln : Addr} {at_ br mv : Nat} {W N R : List Str} {H : Hp} (hp : H p = some (.ins (ga K "Reader") dx (rdF lw ln at_ br mv))) (hw : H lw = some (.lst (W.map V.str))) (hn : H ln = some (.lst (N.map V.str))) (hd : W.drop at_ = R) (ha : at_ ≤ W.length)
    (hl : W.length ≤ 2000000 ∧ (lw, ln) = L) : Rd_ K p L N R (br + 1) mv (upd H p (.ins (ga K "Reader") dx (putF "branches" (.int ((br : Int) + 1)) (rdF lw ln at_ br mv)))) :=
  ⟨dx, lw, ln, W, at_, upd_same, by rw [upd_ne (lst_ne hp hw)]; exact hw, by rw [upd_ne (lst_ne hp hn)]; exact hn, hd, ha, hl⟩
theorem rd_mv {L : Addr × Addr} {p dx lw ln : Addr} {at_ br mv : Nat} {W N R : List Str} {H : Hp} (hp : H p = some (.ins (ga K "Reader") dx (rdF lw ln at_ br mv))) (hw : H lw = some (.lst (W.map V.str))) (hn : H ln = some (.lst (N.map V.str))) (hd : W.drop at_ = R) (ha : at_ ≤ W.length)
    (hl : W.length ≤ 2000000 ∧ (lw, ln) = L) : Rd_ K p L N R br (mv + 1) (upd H p (.ins (ga K "Reader") dx (putF "moves" (.int ((mv : Int) + 1)) (rdF lw ln at_ br mv)))) :=
  ⟨dx, lw, ln, W, at_, upd_same, by rw [upd_ne (lst_ne hp hw)]; exact hw, by rw [upd_ne (lst_ne hp hn)]; exact hn, hd, ha, hl⟩
def spBranch (K : PySem.W.Frag) : Sp := fun vs H Q _ => ∃ (B : Hp) (L : Addr × Addr) (p : Addr) (N R : List Str) (wd x : Str) (n : Int) (b m : Nat), vs = [.ref p, .str wd] ∧ Ex B H ∧ B p = none ∧ Rd_ K p L N (wd :: x :: istr n :: R) b m H ∧ x ∈ N ∧ 1 ≤ n ∧ n ≤ 8 ∧
  (wd = "draw" → ∀ (v : V) (B2 H2 : Hp), Stp [p] B H B2 H2 → Rd_ K p L N R (b + 1) m H2 → Dp K B2 v (.tuple [.str wd, .str x, .int n]) → Q v H2) ∧
  (wd ≠ "draw" → ∀ (v : V) (B2 H2 : Hp), Stp [p] B H B2 H2 → Rd_ K p L N R (b + 1) (m + 1) H2 → Dp K B2 v (.tuple [.str wd, .str x, .int n, .int m]) → Q v H2)
theorem fn_Reader_branching (T : Txt K mg) : Fn P w K mg base 3 (ma K (ga K "Reader") "branching") (spBranch K) := by
  refine fn_def T.d_Reader_branching sc_Reader_branching (fun _ _ _ _ _ _ us hl => match us, hl with | [_, _], _ => rfl) (fun vs H Q E h => ?_) (fun cdv A outer s H vs Q E hr h => ?_)
  · obtain ⟨B, L, p, N, R, wd, x, n, b, m, rfl, _⟩ := h
    rfl
  obtain ⟨B, L, p, N, R, wd, x, n, b, m, rfl, e, hb, hr0, hx, n1, n8, k1, k2⟩ := h
  have nd := sc_Reader_branching.nd
  refine ⟨_, pss_cons (ps_fldaug (pv 0) (pe_int) in_add)
      (pss_cons (ps_fldaug (pv 0) (pe_int) in_add)
      (pss_cons (ps_set (i := 2) nd rfl (by first | exact Or.inl rfl | exact Or.inr rfl) (pe_methR (pv 0) T.c_Reader T.t_Reader_take (fn_Reader_take T) (hr.mono (by decide)) pc (pa_cons (pe_fld (pv 0) rfl) pa_nil)))
      (pss_cons (ps_set (i := 3) nd rfl (by first | exact Or.inl rfl | exact Or.inr rfl) (pe_methR (pv 0) T.c_Reader T.t_Reader_take_number (fn_Reader_take_number T) (hr.mono (by decide)) pc (pa_cons (pe_int) (pa_cons (pe_gi T.i_MOST_PARTS) pa_nil))))
      (pss_cons (ps_if (pt_cmpR op_eq (pv 1) (pe_str) (nomark _)) (pss_one (ps_ret (pe_tup (pa_cons (pv 1) (pa_cons (pv 2) (pa_cons (pv 3) pa_nil)))))) (pss_nil))
      (pss_cons (ps_fldaug (pv 0) (pe_int) in_add)
      (pss_one (ps_ret (pe_tup (pa_cons (pv 1) (pa_cons (pv 2) (pa_cons (pv 3) (pa_cons (pe_op op_sub (pe_fld (pv 0) rfl) (pe_int)) pa_nil)))))))))))), ?_⟩
  obtain ⟨dx, lw, ln, W, at_, hp, hw, hn, hd, ha, hl⟩ := id hr0
  refine ⟨_, rfl, p, _, _, _, _, rfl, hp, T.c_Reader, T.a_Reader_at, rfl, _, _, rfl, rfl, _, _, hp, (by show 5 < 1000; decide), ?_⟩
  have s1 := Stp.put (ms := [p]) (o := .ins (ga K "Reader") dx (putF "at" (.int ((at_ : Int) + 1)) (rdF lw ln at_ b m))) e hb (.head _)
  have hr1 := rd_at hp hw hn hd hl
  obtain ⟨dx1, lw1, ln1, W1, at1, hp1, hw1, hn1, hd1, ha1, hl1⟩ := id hr1
  refine ⟨_, rfl, p, _, _, _, _, rfl, hp1, T.c_Reader, T.a_Reader_branches, rfl, _, _, rfl, rfl, _, _, hp1, (by show 5 < 1000; decide), ?_⟩
  have s2 := s1.trans (Stp.put (ms := [p]) (o := .ins (ga K "Reader") dx1 (putF "branches" (.int ((b : Int) + 1)) (rdF lw1 ln1 at1 b m))) s1.in_ hb (.head _))
  have hr2 := rd_br hp1 hw1 hn1 hd1 ha1 hl1
  clear hr1 hp hw hn hd ha hl hp1 hw1 hn1 hd1 ha1 hl1 hr0
  obtain ⟨dx2, lw2, ln2, W2, at2, hp2, hw2, hn2, _⟩ := id hr2
  refine ⟨_, rfl, p, dx2, _, rfl, hp2, rfl, _, rfl, p, _, _, _, _, rfl, hp2, T.c_Reader, T.a_Reader_names, rfl, B, L, p, ln2, N, _, N, x, b + 1, m, rfl, s2.in_, hb, hr2, .inl (SqL.of hn2), hx, fun H3 t3 hr3 => ?_⟩
  have s3 := s2.trans t3
  obtain ⟨dx3, lw3, ln3, W3, at3, hp3, _⟩ := id hr3
  refine ⟨_, rfl, p, dx3, _, rfl, hp3, rfl, B, L, p, N, R, 1, 8, n, b + 1, m, rfl, s3.in_, hb, hr3, by omega, by omega, n1, n8, fun H4 t4 hr4 => ?_⟩
  have s4 := s3.trans t4
  refine ⟨_, rfl, rfl, _, rfl, ite2 (fun c => ?_) fun c => ?_⟩
  · have ew : wd = "draw" := V.str.inj (of_decide_eq_true c)
    refine ⟨_, rfl, _, rfl, _, rfl, (by show 3 ≤ sizeLine; decide), fun u nu => ?_⟩
    have t5 := Stp.new (ms := []) (o := .tup [V.str wd, V.str x, V.int n]) s4.in_ nu
    exact k1 ew _ _ _ (s4.trans t5.nil) (hr4.stp t5) (.tup (SqT.of upd_same) (.cons (.str _) (.cons (.str _) (.cons (.int _) .nil))))
  · have ew : wd ≠ "draw" := fun z => c (by rw [z]; rfl)
    obtain ⟨dx4, lw4, ln4, W4, at4, hp4, hw4, hn4, hd4, ha4, hl4⟩ := id hr4
    refine ⟨_, rfl, p, _, _, _, _, rfl, hp4, T.c_Reader, T.a_Reader_moves, rfl, _, _, rfl, rfl, _, _, hp4, (by show 5 < 1000; decide), ?_⟩
    have s5 := s4.trans (Stp.put (ms := [p]) (o := .ins (ga K "Reader") dx4 (putF "moves" (.int ((m : Int) + 1)) (rdF lw4 ln4 at4 (b + 1) m))) s4.in_ hb (.head _))
    have hr5 := rd_mv hp4 hw4 hn4 hd4 ha4 hl4
    refine ⟨_, rfl, _, rfl, _, rfl, _, rfl, p, _, _, _, _, rfl, upd_same, T.c_Reader, T.a_Reader_moves, rfl, _, _, rfl, rfl, (by show 4 ≤ sizeLine; decide), fun u nu => ?_⟩
    have t6 := Stp.new (ms := []) (o := .tup [V.str wd, V.str x, V.int n, V.int ((m : Int) + 1 - 1)]) s5.in_ nu
    refine k2 ew _ _ _ (s5.trans t6.nil) (hr5.stp t6) ?_
    have em : (m : Int) + 1 - 1 = (m : Int) := by omega
    have hh : Dp K (upd B u (.tup [V.str wd, V.str x, V.int n, V.int ((m : Int) + 1 - 1)])) (.ref u) (.tuple [.str wd, .str x, .int n, .int ((m : Int) + 1 - 1)]) := .tup (SqT.of upd_same) (.cons (.str _) (.cons (.str _) (.cons (.int _) (.cons (.int _) .nil))))
    rw [em] at hh ⊢
    exact hh
end
end LL
namespace LL
open PySem PySem.Spec PyProof.Rows L2 He Evl
def PT_ : List Str := ["pay", "take"]
def CC_ : List Str := ["chooser", "comer"]
theorem isb_nn {K : PySem.W.Frag} {H : Hp} {v : V} {ds : List PyData} (h : Dp K H v (.tuple ds)) : v ≠ .non := by
  obtain ⟨a, vs, rfl, _⟩ := dp_tup h
  exact fun z => nomatch z
theorem stF : ∀ s ∈ PT_, s ∉ MV_ ∧ s ≠ "set" ∧ s ≠ "show" := by decide +kernel
theorem stM : ∀ s ∈ STM_, True := fun _ _ => trivial
theorem stB : ∀ s, s ∉ STM_ → s ∉ MV_ ∧ s ≠ "set" ∧ s ≠ "show" ∧ s ∉ PT_ ∧ s ≠ "if" := by
  intro s h
  simp only [STM_, MV_, PT_, List.mem_cons, List.not_mem_nil, or_false, not_or] at *
  exact ⟨⟨h.1, h.2.1, h.2.2.1⟩, h.2.2.2.1, h.2.2.2.2.1, ⟨h.2.2.2.2.2.1, h.2.2.2.2.2.2.1⟩, h.2.2.2.2.2.2.2⟩
section
variable {P : Program} {w : World} {K : PySem.W.Frag} {mg : Str → Option Value} {base : Heap}
def spStm (K : PySem.W.Frag) (r : Nat) : Sp := fun vs H Q _ => ∃ (B : Hp) (L : Addr × Addr) (p : Addr) (N : List Str) (b m : Nat), vs = [.ref p, .int (r : Int)] ∧ Ex B H ∧ B p = none ∧ (∀ x ∈ N, IsName x) ∧
  ((∃ (d : PyData) (ws R : List Str) (b2 m2 : Nat), Rd_ K p L N (ws ++ R) b m H ∧ IsB N r b m b2 m2 [d] ws ∧ ∀ (v : V) (B2 H2 : Hp), Stp [p] B H B2 H2 → Rd_ K p L N R b2 m2 H2 → Dp K B2 v d → v ≠ .non → Q v H2) ∨
   ∃ R : List Str, Rd_ K p L N R b m H ∧ StopW R ∧ ∀ H2, Stp [p] B H B H2 → Rd_ K p L N R b m H2 → Q .non H2)
def spBlk (K : PySem.W.Frag) (r : Nat) : Sp := fun vs H Q _ => ∃ (B : Hp) (L : Addr × Addr) (p : Addr) (N : List Str) (b m : Nat) (ds : List PyData) (ws R : List Str) (b2 m2 : Nat), vs = [.ref p, .int (r : Int)] ∧ Ex B H ∧ B p = none ∧ (∀ x ∈ N, IsName x) ∧
  Rd_ K p L N (ws ++ R) b m H ∧ IsB N r b m b2 m2 ds ws ∧ ds.length ≤ 500 ∧ StopW R ∧ ∀ (v : V) (B2 H2 : Hp), Stp [p] B H B2 H2 → Rd_ K p L N R b2 m2 H2 → Dp K B2 v (.tuple ds) → Q v H2
def spCh (K : PySem.W.Frag) (r : Nat) : Sp := fun vs H Q _ => ∃ (B : Hp) (L : Addr × Addr) (p : Addr) (N : List Str) (b m b1 m1 b2 m2 : Nat) (e : PyData) (ts os : List PyData) (we wt wo R : List Str), vs = [.ref p, .int (r : Int)] ∧ Ex B H ∧ B p = none ∧ (∀ x ∈ N, IsName x) ∧
  Rd_ K p L N (we ++ (wt ++ (elseW os wo ++ (("end" : Str) :: R)))) b m H ∧ IsE N 6 e we ∧ IsB N r b m b1 m1 ts wt ∧ IsB N r b1 m1 b2 m2 os wo ∧ ts.length ≤ 3 ∧ os.length ≤ 2 ∧
  ∀ (v : V) (B2 H2 : Hp), Stp [p] B H B2 H2 → Rd_ K p L N R b2 m2 H2 → Dp K B2 v (.tuple [.str "if", e, .tuple ts, .tuple os]) → Q v H2
def spChP (K : PySem.W.Frag) : Nat → Sp
  | 0 => fun _ _ _ _ => False
  | r + 1 => spCh K r
theorem fn_stm1 (T : Txt K mg) (r : Nat) (IH : Fn P w K mg base (8 + 3 * r) (ma K (ga K "Reader") "choice") (spChP K r)) : Fn P w K mg base (8 + 3 * r + 1) (ma K (ga K "Reader") "statement") (spStm K r) := by
  refine fn_def T.d_Reader_statement sc_Reader_statement (fun _ _ _ _ _ _ us hl => match us, hl with | [_, _], _ => rfl) (fun vs H Q E h => ?_) (fun cdv A outer s H vs Q E hr h => ?_)
  · obtain ⟨B, L, p, N, b, m, rfl, _⟩ := h
    rfl
  obtain ⟨B, L, p, N, b, m, rfl, e, hb, hN, h⟩ := h
  have nd := sc_Reader_statement.nd
  have hr1 : Room 1 _ := hr.mono (by omega)
  have hr2 : Room 2 _ := hr.mono (by omega)
  have hr3 : Room 3 _ := hr.mono (by omega)
  have hr8 : Room 8 _ := hr.mono (by omega)
  refine ⟨_, pss_cons (ps_set (i := 2) nd rfl (by first | exact Or.inl rfl | exact Or.inr rfl) (pe_methR0 (pv 0) T.c_Reader T.t_Reader_word (fn_Reader_word T) hr1 pc))
      (pss_cons (ps_if (PW.pt (pw_and (pt_cmpR op_in_seq (pv 2) (pe_tup (pa_cons (pe_str) (pa_cons (pe_str) (pa_cons (pe_str) pa_nil)))) rfl) (pw_and (pt_truth (pe_fld (pv 0) rfl) (by intro _; rfl)) (pw_and1 (pt_cmpR op_lt (pe_fld (pv 0) rfl) (pe_gi T.i_MOST_BRANCHES) (nomark _)))))) (pss_one (ps_ret (pe_methR (pv 0) T.c_Reader T.t_Reader_branching (fn_Reader_branching T) hr3 pc (pa_cons (pv 2) pa_nil)))) (pss_nil))
      (pss_cons (ps_if (PW.pt (pw_and (pt_cmpR op_eq (pv 2) (pe_str) (nomark _)) (pw_and1 (pt_truth (pe_fld (pv 0) rfl) (by intro _; rfl))))) (pss_cons (ps_fldaug (pv 0) (pe_int) in_add)
      (pss_one (ps_ret (pe_tup (pa_cons (pv 2) (pa_cons (pe_methR (pv 0) T.c_Reader T.t_Reader_take (fn_Reader_take T) hr2 pc (pa_cons (pe_fld (pv 0) rfl) pa_nil)) (pa_cons (pe_methR (pv 0) T.c_Reader T.t_Reader_expression (fn_Reader_expression T) hr8 pc (pa_cons (pe_gi T.i_DEEPEST) pa_nil)) pa_nil))))))) (pss_nil))
      (pss_cons (ps_if (pt_cmpR op_eq (pv 2) (pe_str) (nomark _)) (pss_cons (ps_fldaug (pv 0) (pe_int) in_add)
      (pss_one (ps_ret (pe_tup (pa_cons (pv 2) (pa_cons (pe_methR (pv 0) T.c_Reader T.t_Reader_take (fn_Reader_take T) hr2 pc (pa_cons (pe_gr T.g_SEATS) pa_nil)) (pa_cons (pe_methR (pv 0) T.c_Reader T.t_Reader_expression (fn_Reader_expression T) hr8 pc (pa_cons (pe_gi T.i_DEEPEST) pa_nil)) pa_nil))))))) (pss_nil))
      (pss_cons (ps_if (pt_cmpR op_in_seq (pv 2) (pe_tup (pa_cons (pe_str) (pa_cons (pe_str) pa_nil))) rfl) (pss_cons (ps_fldaug (pv 0) (pe_int) in_add)
      (pss_one (ps_ret (pe_tup (pa_cons (pv 2) (pa_cons (pe_methR (pv 0) T.c_Reader T.t_Reader_expression (fn_Reader_expression T) hr8 pc (pa_cons (pe_gi T.i_DEEPEST) pa_nil)) pa_nil)))))) (pss_nil))
      (pss_cons (ps_if (PW.pt (pw_and (pt_cmpR op_eq (pv 2) (pe_str) (nomark _)) (pw_and1 (pt_cmpR op_gt (pv 1) (pe_int) (nomark _))))) (pss_cons (ps_fldaug (pv 0) (pe_int) in_add)
      (pss_one (ps_ret (pe_methR (pv 0) T.c_Reader T.t_Reader_choice IH hr pc (pa_cons (pe_op op_sub (pv 1) (pe_int)) pa_nil))))) (pss_nil))
      (pss_one (ps_ret (pe_non)))))))), ?_⟩
  rcases h with ⟨d, ws, R, b2, m2, hr0, ib, k⟩ | ⟨R, hr0, hstop, k⟩
  · cases ib with
    | @pay _ _ _ _ _ s e' we _ _ hs he h =>
      cases h
      rw [List.append_nil] at hr0
      have hf := stF s hs
      obtain ⟨dx, lw, ln, W, aa, hp, hw, hn, hd, ha, hl⟩ := id hr0
      refine ⟨_, rfl, p, dx, _, rfl, hp, rfl, L, p, N, _, b, m, rfl, hr0, ?_⟩
      refine ⟨_, rfl, (by show 3 ≤ sizeLine; decide), fun t1 nt1 => ⟨t1, MV_.map V.str, rfl, .inr (SqT.of upd_same), rfl, flat_strs _, _, rfl, ite2 (fun c => ?_) fun _ => iteF ?_⟩⟩
      · have c' : inV (.str s) (MV_.map V.str) = true := c
        rw [inV_strs, decide_eq_false (hf.1)] at c'
        exact Bool.noConfusion c'
      have c1 := Stp.cell (ms := []) (o := .tup (MV_.map V.str)) e nt1
      have s1 : Stp [p] _ _ _ _ := c1.nil
      have hr_1 := hr0.stp c1
      refine ⟨_, rfl, rfl, _, rfl, ite2 (fun c => absurd (V.str.inj (of_decide_eq_true c)) (hf.2.1)) fun _ => iteF ?_⟩
      refine ⟨_, rfl, rfl, _, rfl, ite2 (fun c => absurd (V.str.inj (of_decide_eq_true c)) (hf.2.2)) fun _ => ?_⟩
      refine ⟨_, rfl, (by show 2 ≤ sizeLine; decide), fun t2 nt2 => ⟨t2, PT_.map V.str, rfl, .inr (SqT.of upd_same), rfl, flat_strs _, _, rfl, ite2 (fun _ => ?_) fun c => ?_⟩⟩
      rotate_left
      · have c' : ¬ inV (.str s) (PT_.map V.str) = true := c
        rw [inV_strs, decide_eq_true (show s ∈ PT_ from hs)] at c'
        exact absurd rfl c'
      have c2 := Stp.cell (ms := []) (o := .tup (PT_.map V.str)) s1.in_ nt2
      have s2 : Stp [p] _ _ _ _ := s1.trans c2.nil
      have hr_2 := hr_1.stp c2
      obtain ⟨dx2, lw2, ln2, W2, aa2, hp2, hw2, hn2, hd2, ha2, hl2⟩ := id hr_2
      refine ⟨_, rfl, p, _, _, _, _, rfl, hp2, T.c_Reader, T.a_Reader_at, rfl, _, _, rfl, rfl, _, _, hp2, (by show 5 < 1000; decide), ?_⟩
      have s3 := s2.trans (Stp.put (ms := [p]) (o := .ins (ga K "Reader") dx2 (putF "at" (.int ((aa2 : Int) + 1)) (rdF lw2 ln2 aa2 b m))) s2.in_ hb (.head _))
      have hr_3 := rd_at (x := s) (R := we ++ R) hp2 hw2 hn2 (by rw [hd2]; simp) hl2
      obtain ⟨dx3, lw3, ln3, W3, aa3, hp3, hw3, hn3, hd3, ha3, hl3⟩ := id hr_3
      refine ⟨_, rfl, ?_⟩
      refine ⟨_, rfl, p, dx3, _, rfl, hp3, rfl, B, L, p, N, R, _, _, b, m, rfl, s3.in_, hb, hr_3, he, hN, fun v9 B9 H9 t9 hr9 hd9 => ?_⟩
      have s9 := s3.trans t9
      refine ⟨(by show 2 ≤ sizeLine; decide), fun u nu => ?_⟩
      have t10 := Stp.new (ms := []) (o := .tup [V.str s, v9]) s9.in_ nu
      exact k _ _ _ (s9.trans t10.nil) (hr9.stp t10) (.tup (SqT.of upd_same) (.cons (.str _) (.cons (dp_mono t10.base hd9) .nil))) (fun z => nomatch z)
    | @show_ _ _ _ _ _ s e' we _ _ hs he h =>
      cases h
      rw [List.append_nil] at hr0
      obtain ⟨dx, lw, ln, W, aa, hp, hw, hn, hd, ha, hl⟩ := id hr0
      refine ⟨_, rfl, p, dx, _, rfl, hp, rfl, L, p, N, _, b, m, rfl, hr0, ?_⟩
      refine ⟨_, rfl, (by show 3 ≤ sizeLine; decide), fun t1 nt1 => ⟨t1, MV_.map V.str, rfl, .inr (SqT.of upd_same), rfl, flat_strs _, _, rfl, ite2 (fun c => ?_) fun _ => iteF ?_⟩⟩
      · have c' : inV (.str "show") (MV_.map V.str) = true := c
        rw [inV_strs, decide_eq_false (by decide +kernel)] at c'
        exact Bool.noConfusion c'
      have c1 := Stp.cell (ms := []) (o := .tup (MV_.map V.str)) e nt1
      have s1 : Stp [p] _ _ _ _ := c1.nil
      have hr_1 := hr0.stp c1
      refine ⟨_, rfl, rfl, _, rfl, ite2 (fun c => absurd (V.str.inj (of_decide_eq_true c)) (by show ¬ (("show" : Str) = "set"); decide +kernel)) fun _ => iteF ?_⟩
      refine ⟨_, rfl, rfl, _, rfl, ite2 (fun _ => ?_) fun c => absurd rfl c⟩
      obtain ⟨dx1, lw1, ln1, W1, aa1, hp1, hw1, hn1, hd1, ha1, hl1⟩ := id hr_1
      refine ⟨_, rfl, p, _, _, _, _, rfl, hp1, T.c_Reader, T.a_Reader_at, rfl, _, _, rfl, rfl, _, _, hp1, (by show 5 < 1000; decide), ?_⟩
      have s3 := s1.trans (Stp.put (ms := [p]) (o := .ins (ga K "Reader") dx1 (putF "at" (.int ((aa1 : Int) + 1)) (rdF lw1 ln1 aa1 b m))) s1.in_ hb (.head _))
      have hr_3 := rd_at (x := "show") (R := s :: (we ++ R)) hp1 hw1 hn1 (by rw [hd1]; simp) hl1
      obtain ⟨dx3, lw3, ln3, W3, aa3, hp3, hw3, hn3, hd3, ha3, hl3⟩ := id hr_3
      refine ⟨_, rfl, _, rfl, p, dx3, _, rfl, hp3, rfl, B, L, p, ga K "SEATS", N, we ++ R, CC_, s, b, m, rfl, s3.in_, hb, hr_3, .inr (tupB_ok T.p_SEATS _), hs, fun H4 t4 hr_4 => ?_⟩
      have s4 := s3.trans t4
      obtain ⟨dx4, lw4, ln4, W4, aa4, hp4, hw4, hn4, hd4, ha4, hl4⟩ := id hr_4
      refine ⟨_, rfl, p, dx4, _, rfl, hp4, rfl, B, L, p, N, R, _, _, b, m, rfl, s4.in_, hb, hr_4, he, hN, fun v9 B9 H9 t9 hr9 hd9 => ?_⟩
      have s9 := s4.trans t9
      refine ⟨(by show 3 ≤ sizeLine; decide), fun u nu => ?_⟩
      have t10 := Stp.new (ms := []) (o := .tup [V.str "show", V.str s, v9]) s9.in_ nu
      exact k _ _ _ (s9.trans t10.nil) (hr9.stp t10) (.tup (SqT.of upd_same) (.cons (.str _) (.cons (.str _) (.cons (dp_mono t10.base hd9) .nil)))) (fun z => nomatch z)
    | @set_ _ _ _ _ _ s e' we _ _ hs he h =>
      cases h
      rw [List.append_nil] at hr0
      obtain ⟨dx, lw, ln, W, aa, hp, hw, hn, hd, ha, hl⟩ := id hr0
      refine ⟨_, rfl, p, dx, _, rfl, hp, rfl, L, p, N, _, b, m, rfl, hr0, ?_⟩
      refine ⟨_, rfl, (by show 3 ≤ sizeLine; decide), fun t1 nt1 => ⟨t1, MV_.map V.str, rfl, .inr (SqT.of upd_same), rfl, flat_strs _, _, rfl, ite2 (fun c => ?_) fun _ => iteF ?_⟩⟩
      · have c' : inV (.str "set") (MV_.map V.str) = true := c
        rw [inV_strs, decide_eq_false (by decide +kernel)] at c'
        exact Bool.noConfusion c'
      have c1 := Stp.cell (ms := []) (o := .tup (MV_.map V.str)) e nt1
      have s1 : Stp [p] _ _ _ _ := c1.nil
      have hr_1 := hr0.stp c1
      obtain ⟨dx1, lw1, ln1, W1, aa1, hp1, hw1, hn1, hd1, ha1, hl1⟩ := id hr_1
      refine ⟨_, rfl, rfl, _, rfl, ite2 (fun _ => ?_) fun c => absurd rfl c⟩
      refine ⟨_, rfl, p, _, _, _, _, rfl, hp1, T.c_Reader, T.a_Reader_names, rfl, _, .inl ⟨_, SqL.of hn1, rfl⟩, ite2 (fun _ => ?_) fun c => ?_⟩
      rotate_left
      · exfalso
        apply c
        cases N with
        | nil => cases hs
        | cons _ _ => rfl
      refine ⟨_, rfl, p, _, _, _, _, rfl, hp1, T.c_Reader, T.a_Reader_at, rfl, _, _, rfl, rfl, _, _, hp1, (by show 5 < 1000; decide), ?_⟩
      have s3 := s1.trans (Stp.put (ms := [p]) (o := .ins (ga K "Reader") dx1 (putF "at" (.int ((aa1 : Int) + 1)) (rdF lw1 ln1 aa1 b m))) s1.in_ hb (.head _))
      have hr_3 := rd_at (x := "set") (R := s :: (we ++ R)) hp1 hw1 hn1 (by rw [hd1]; simp) hl1
      obtain ⟨dx3, lw3, ln3, W3, aa3, hp3, hw3, hn3, hd3, ha3, hl3⟩ := id hr_3
      refine ⟨_, rfl, _, rfl, p, dx3, _, rfl, hp3, rfl, _, rfl, p, _, _, _, _, rfl, hp3, T.c_Reader, T.a_Reader_names, rfl, B, L, p, ln3, N, we ++ R, N, s, b, m, rfl, s3.in_, hb, hr_3, .inl (SqL.of hn3), hs, fun H4 t4 hr_4 => ?_⟩
      have s4 := s3.trans t4
      obtain ⟨dx4, lw4, ln4, W4, aa4, hp4, hw4, hn4, hd4, ha4, hl4⟩ := id hr_4
      refine ⟨_, rfl, p, dx4, _, rfl, hp4, rfl, B, L, p, N, R, _, _, b, m, rfl, s4.in_, hb, hr_4, he, hN, fun v9 B9 H9 t9 hr9 hd9 => ?_⟩
      have s9 := s4.trans t9
      refine ⟨(by show 3 ≤ sizeLine; decide), fun u nu => ?_⟩
      have t10 := Stp.new (ms := []) (o := .tup [V.str "set", V.str s, v9]) s9.in_ nu
      exact k _ _ _ (s9.trans t10.nil) (hr9.stp t10) (.tup (SqT.of upd_same) (.cons (.str _) (.cons (.str _) (.cons (dp_mono t10.base hd9) .nil)))) (fun z => nomatch z)
    | @draw _ _ _ _ _ s n _ _ hs h0 h1 hb10 h =>
      cases h
      obtain ⟨dx, lw, ln, W, aa, hp, hw, hn, hd, ha, hl⟩ := id hr0
      refine ⟨_, rfl, p, dx, _, rfl, hp, rfl, L, p, N, _, b, m, rfl, hr0, ?_⟩
      refine ⟨_, rfl, (by show 3 ≤ sizeLine; decide), fun t1 nt1 => ⟨t1, MV_.map V.str, rfl, .inr (SqT.of upd_same), rfl, flat_strs _, _, rfl, ite2 (fun _ => ?_) fun c => ?_⟩⟩
      rotate_left
      · have c' : ¬ inV (.str ("draw" : Str)) (MV_.map V.str) = true := c
        rw [inV_strs, decide_eq_true (show ("draw" : Str) ∈ MV_ from .head _)] at c'
        exact absurd rfl c'
      have c1 := Stp.cell (ms := []) (o := .tup (MV_.map V.str)) e nt1
      have s1 : Stp [p] _ _ _ _ := c1.nil
      have hr_1 := hr0.stp c1
      obtain ⟨dx1, lw1, ln1, W1, aa1, hp1, hw1, hn1, hd1, ha1, hl1⟩ := id hr_1
      refine ⟨_, rfl, p, _, _, _, _, rfl, hp1, T.c_Reader, T.a_Reader_names, rfl, _, .inl ⟨_, SqL.of hn1, rfl⟩, ite2 (fun _ => ?_) fun c => ?_⟩
      rotate_left
      · exfalso
        apply c
        cases N with
        | nil => cases hs
        | cons _ _ => rfl
      refine ⟨_, rfl, p, _, _, _, _, rfl, hp1, T.c_Reader, T.a_Reader_branches, rfl, _, _, rfl, rfl, _, rfl, ite2 (fun _ => ?_) fun c => absurd (decide_eq_true (by omega)) c⟩
      refine ⟨_, rfl, p, dx1, _, rfl, hp1, rfl, _, rfl, B, L, p, N, R, ("draw" : Str), s, n, b, m, rfl, s1.in_, hb, hr_1, hs, h0, h1, ?_, ?_⟩
      · exact fun _ v B2 H2 t2 hr2 hd2 => k v B2 H2 (s1.trans t2) hr2 hd2 (isb_nn hd2)
      · exact fun z => absurd rfl z
    | @move _ _ _ _ _ wd s n _ _ hc hs h0 h1 hb10 h =>
      cases h
      obtain ⟨dx, lw, ln, W, aa, hp, hw, hn, hd, ha, hl⟩ := id hr0
      refine ⟨_, rfl, p, dx, _, rfl, hp, rfl, L, p, N, _, b, m, rfl, hr0, ?_⟩
      refine ⟨_, rfl, (by show 3 ≤ sizeLine; decide), fun t1 nt1 => ⟨t1, MV_.map V.str, rfl, .inr (SqT.of upd_same), rfl, flat_strs _, _, rfl, ite2 (fun _ => ?_) fun c => ?_⟩⟩
      rotate_left
      · have c' : ¬ inV (.str wd) (MV_.map V.str) = true := c
        rw [inV_strs, decide_eq_true (show wd ∈ MV_ from .tail _ hc)] at c'
        exact absurd rfl c'
      have c1 := Stp.cell (ms := []) (o := .tup (MV_.map V.str)) e nt1
      have s1 : Stp [p] _ _ _ _ := c1.nil
      have hr_1 := hr0.stp c1
      obtain ⟨dx1, lw1, ln1, W1, aa1, hp1, hw1, hn1, hd1, ha1, hl1⟩ := id hr_1
      refine ⟨_, rfl, p, _, _, _, _, rfl, hp1, T.c_Reader, T.a_Reader_names, rfl, _, .inl ⟨_, SqL.of hn1, rfl⟩, ite2 (fun _ => ?_) fun c => ?_⟩
      rotate_left
      · exfalso
        apply c
        cases N with
        | nil => cases hs
        | cons _ _ => rfl
      refine ⟨_, rfl, p, _, _, _, _, rfl, hp1, T.c_Reader, T.a_Reader_branches, rfl, _, _, rfl, rfl, _, rfl, ite2 (fun _ => ?_) fun c => absurd (decide_eq_true (by omega)) c⟩
      refine ⟨_, rfl, p, dx1, _, rfl, hp1, rfl, _, rfl, B, L, p, N, R, wd, s, n, b, m, rfl, s1.in_, hb, hr_1, hs, h0, h1, ?_, ?_⟩
      · exact fun z => absurd z ((by decide +kernel : ∀ c ∈ (["choose", "come"] : List Str), c ≠ "draw") _ hc)
      · exact fun _ v B2 H2 t2 hr2 hd2 => k v B2 H2 (s1.trans t2) hr2 hd2 (isb_nn hd2)
    | @ite r' _ _ b1 m1 b4 m4 _ _ e' we wt wo _ ts os _ he ht ho lt lo h =>
      cases h
      obtain ⟨dx, lw, ln, W, aa, hp, hw, hn, hd, ha, hl⟩ := id hr0
      refine ⟨_, rfl, p, dx, _, rfl, hp, rfl, L, p, N, _, b, m, rfl, hr0, ?_⟩
      refine ⟨_, rfl, (by show 3 ≤ sizeLine; decide), fun t1 nt1 => ⟨t1, MV_.map V.str, rfl, .inr (SqT.of upd_same), rfl, flat_strs _, _, rfl, ite2 (fun c => ?_) fun _ => iteF ?_⟩⟩
      · have c' : inV (.str "if") (MV_.map V.str) = true := c
        rw [inV_strs, decide_eq_false (by decide +kernel)] at c'
        exact Bool.noConfusion c'
      have c1 := Stp.cell (ms := []) (o := .tup (MV_.map V.str)) e nt1
      have s1 : Stp [p] _ _ _ _ := c1.nil
      have hr_1 := hr0.stp c1
      refine ⟨_, rfl, rfl, _, rfl, ite2 (fun c => absurd (V.str.inj (of_decide_eq_true c)) (by show ¬ (("if" : Str) = "set"); decide +kernel)) fun _ => iteF ?_⟩
      refine ⟨_, rfl, rfl, _, rfl, ite2 (fun c => absurd (V.str.inj (of_decide_eq_true c)) (by show ¬ (("if" : Str) = "show"); decide +kernel)) fun _ => ?_⟩
      refine ⟨_, rfl, (by show 2 ≤ sizeLine; decide), fun t2 nt2 => ⟨t2, PT_.map V.str, rfl, .inr (SqT.of upd_same), rfl, flat_strs _, _, rfl, ite2 (fun c => ?_) fun _ => ?_⟩⟩
      · have c' : inV (.str "if") (PT_.map V.str) = true := c
        rw [inV_strs, decide_eq_false (by decide +kernel)] at c'
        exact Bool.noConfusion c'
      have c2 := Stp.cell (ms := []) (o := .tup (PT_.map V.str)) s1.in_ nt2
      have s2 : Stp [p] _ _ _ _ := s1.trans c2.nil
      have hr_2 := hr_1.stp c2
      refine ⟨_, rfl, rfl, _, rfl, ite2 (fun _ => ?_) fun c => absurd rfl c⟩
      refine ⟨_, rfl, _, _, rfl, rfl, _, rfl, ite2 (fun _ => ?_) fun c => absurd (decide_eq_true (by omega)) c⟩
      obtain ⟨dx2, lw2, ln2, W2, aa2, hp2, hw2, hn2, hd2, ha2, hl2⟩ := id hr_2
      refine ⟨_, rfl, p, _, _, _, _, rfl, hp2, T.c_Reader, T.a_Reader_at, rfl, _, _, rfl, rfl, _, _, hp2, (by show 5 < 1000; decide), ?_⟩
      have s3 := s2.trans (Stp.put (ms := [p]) (o := .ins (ga K "Reader") dx2 (putF "at" (.int ((aa2 : Int) + 1)) (rdF lw2 ln2 aa2 b m))) s2.in_ hb (.head _))
      have hr_3 := rd_at (x := "if") (R := we ++ (wt ++ (elseW os wo ++ (("end" : Str) :: R)))) hp2 hw2 hn2 (by rw [hd2]; simp) hl2
      obtain ⟨dx3, lw3, ln3, W3, aa3, hp3, hw3, hn3, hd3, ha3, hl3⟩ := id hr_3
      have er : ((r' + 1 : Nat) : Int) - 1 = (r' : Int) := by omega
      exact ⟨_, rfl, p, dx3, _, rfl, hp3, rfl, _, rfl, _, _, rfl, rfl, B, L, p, N, b, m, b1, m1, b2, m2, e', ts, os, we, wt, wo, R, by show [V.ref p, V.int (((r' + 1 : Nat) : Int) - 1)] = _; rw [er], s3.in_, hb, hN, hr_3, he, ht, ho, lt, lo, fun v B2 H2 t2 hr2 hd2 => k v B2 H2 (s3.trans t2) hr2 hd2 (isb_nn hd2)⟩
  · have hf := stB _ hstop
    obtain ⟨dx, lw, ln, W, aa, hp, hw, hn, hd, ha, hl⟩ := id hr0
    refine ⟨_, rfl, p, dx, _, rfl, hp, rfl, L, p, N, _, b, m, rfl, hr0, ?_⟩
    refine ⟨_, rfl, (by show 3 ≤ sizeLine; decide), fun t1 nt1 => ⟨t1, MV_.map V.str, rfl, .inr (SqT.of upd_same), rfl, flat_strs _, _, rfl, ite2 (fun c => ?_) fun _ => iteF ?_⟩⟩
    · have c' : inV (.str _) (MV_.map V.str) = true := c
      rw [inV_strs, decide_eq_false (hf.1)] at c'
      exact Bool.noConfusion c'
    have c1 := Stp.cell (ms := []) (o := .tup (MV_.map V.str)) e nt1
    have s1 : Stp [p] _ _ _ _ := c1.nil
    have hr_1 := hr0.stp c1
    refine ⟨_, rfl, rfl, _, rfl, ite2 (fun c => absurd (V.str.inj (of_decide_eq_true c)) (hf.2.1)) fun _ => iteF ?_⟩
    refine ⟨_, rfl, rfl, _, rfl, ite2 (fun c => absurd (V.str.inj (of_decide_eq_true c)) (hf.2.2.1)) fun _ => ?_⟩
    refine ⟨_, rfl, (by show 2 ≤ sizeLine; decide), fun t2 nt2 => ⟨t2, PT_.map V.str, rfl, .inr (SqT.of upd_same), rfl, flat_strs _, _, rfl, ite2 (fun c => ?_) fun _ => ?_⟩⟩
    · have c' : inV (.str _) (PT_.map V.str) = true := c
      rw [inV_strs, decide_eq_false (hf.2.2.2.1)] at c'
      exact Bool.noConfusion c'
    have c2 := Stp.cell (ms := []) (o := .tup (PT_.map V.str)) s1.in_ nt2
    have s2 : Stp [p] _ _ _ _ := s1.trans c2.nil
    have hr_2 := hr_1.stp c2
    refine ⟨_, rfl, rfl, _, rfl, ite2 (fun c => absurd (V.str.inj (of_decide_eq_true c)) (hf.2.2.2.2)) fun _ => iteF ?_⟩
    exact k _ s2 hr_2
end
end LL
namespace LL
open PySem PySem.Spec PyProof.Rows L2 He Evl
section
variable {P : Program} {w : World} {K : PySem.W.Frag} {mg : Str → Option Value} {base : Heap}
def BJ (K : PySem.W.Frag) (L : Addr × Addr) (p c : Addr) (B H0 : Hp) (N R : List Str) (r b2 m2 : Nat) (ds : List PyData) (vd : List V) (v : V) (H' : Hp) : Prop := ∃ (B' : Hp) (dd : List PyData), Stp [c, p] B H0 B' H' ∧ H' c = some (.lst vd) ∧ DpAll K B' vd dd ∧ B' p = none ∧
  ((v = .non ∧ dd = ds ∧ Rd_ K p L N R b2 m2 H') ∨ ∃ (d : PyData) (todo : List PyData) (wt : List Str) (b' m' : Nat), v ≠ .non ∧ Dp K B' v d ∧ dd ++ d :: todo = ds ∧ Rd_ K p L N (wt ++ R) b' m' H' ∧ IsB N r b' m' b2 m2 todo wt)
theorem callJ {L : Addr × Addr} {p c : Addr} {B H0 : Hp} {N R : List Str} {r b2 m2 : Nat} {ds : List PyData} (hcp : c ≠ p) (hN : ∀ x ∈ N, IsName x) (hstop : StopW R) {B' H' : Hp} {vd : List V} {dd todo : List PyData} {wt : List Str} {b' m' : Nat} {Q : VK} {E : XK}
    (s : Stp [c, p] B H0 B' H') (hc : H' c = some (.lst vd)) (hd : DpAll K B' vd dd) (hb : B' p = none) (he : dd ++ todo = ds) (hr : Rd_ K p L N (wt ++ R) b' m' H') (ib : IsB N r b' m' b2 m2 todo wt) (k : ∀ v H2, BJ K L p c B H0 N R r b2 m2 ds vd v H2 → Q v H2) :
    spStm K r [.ref p, .int (r : Int)] H' Q E := by
  obtain ⟨o, ho⟩ : ∃ o, H' p = some o := by
    obtain ⟨_, _, _, _, _, hp, _⟩ := hr
    exact ⟨_, hp⟩
  have hcn : c ∉ [p] := by simpa using hcp
  cases todo with
  | nil =>
    cases ib
    exact ⟨B', L, p, N, _, _, rfl, s.in_, hb, hN, .inr ⟨R, hr, hstop, fun H2 t hr2 => k _ _ ⟨B', dd, s.trans (t.wk (by simp)), t.fr c _ hcn hc, hd, hb, .inl ⟨rfl, by rw [← he, List.append_nil], hr2⟩⟩⟩⟩
  | cons d todo =>
    obtain ⟨b1, m1, w1, w2, rfl, i1, i2⟩ := ib.split
    rw [List.append_assoc] at hr
    exact ⟨B', L, p, N, _, _, rfl, s.in_, hb, hN, .inl ⟨d, w1, w2 ++ R, b1, m1, hr, i1, fun v B2 H2 t hr2 hd2 nn => k _ _ ⟨B2, dd, s.trans (t.wk (by simp)), t.fr c _ hcn hc, dpa_mono t.base hd, t.off hb ho, .inr ⟨d, todo, w2, b1, m1, nn, hd2, he, hr2, i2⟩⟩⟩⟩
theorem fn_blk1 (T : Txt K mg) (r : Nat) (IH : Fn P w K mg base (8 + 3 * r + 1) (ma K (ga K "Reader") "statement") (spStm K r)) : Fn P w K mg base (8 + 3 * r + 1 + 1) (ma K (ga K "Reader") "block") (spBlk K r) := by
  refine fn_def T.d_Reader_block sc_Reader_block (fun _ _ _ _ _ _ us hl => match us, hl with | [_, _], _ => rfl) (fun vs H Q E h => ?_) (fun cdv A outer s H vs Q E hr h => ?_)
  · obtain ⟨B, L, p, N, b, m, ds, ws, R, b2, m2, rfl, _⟩ := h
    rfl
  obtain ⟨B, L, p, N, b, m, ds, ws, R, b2, m2, rfl, e, hb, hN, hr0, ib, h500, hstop, k⟩ := h
  have nd := sc_Reader_block.nd
  refine ⟨_, pss_cons (ps_set (i := 2) nd rfl (by first | exact Or.inl rfl | exact Or.inr rfl) (pe_lst pa_nil))
      (pss_cons (ps_set (i := 3) nd rfl (by first | exact Or.inl rfl | exact Or.inr rfl) (pe_methR (pv 0) T.c_Reader T.t_Reader_statement IH hr pc (pa_cons (pv 1) pa_nil)))
      (pss_cons (ps_while (passes_of rfl) (pt_cmpR op_notN (pv 3) (pe_non) (nomark _)) (pss_cons (ps_expr (pe_bm PySem.F.plainAttrs_list PySem.F.slot_list_append PySem.F.type_list_append mt_append (pv 2) (pa_cons (pv 3) pa_nil)))
      (pss_one (ps_set (i := 3) nd rfl (by first | exact Or.inl rfl | exact Or.inr rfl) (pe_methR (pv 0) T.c_Reader T.t_Reader_statement IH hr pc (pa_cons (pv 1) pa_nil))))))
      (pss_one (ps_ret (pe_callTy call_tuple_of (by rfl) T.f_tuple (by decide +kernel) (pa_cons (pv 2) pa_nil)))))), ?_⟩
  refine ⟨(by show 0 ≤ sizeLine; decide), fun c nc => ?_⟩
  have e0 : Ex B (upd H c (.lst [])) := Ex.mut e (ex_none e nc)
  obtain ⟨dx, lw, ln, W, aa, hp, hw, hn, _, _, _, hL⟩ := id hr0
  have hc1 : c ≠ L.1 := fun z => by rw [← hL] at z; rw [← (show c = lw from z), nc] at hw; cases hw
  have hc2 : c ≠ L.2 := fun z => by rw [← hL] at z; rw [← (show c = ln from z), nc] at hn; cases hn
  have hcp : c ≠ p := fun z => by rw [← z, nc] at hp; cases hp
  have hr1 := hr0.ex (Ex.new (o := .lst []) nc)
  have hp1 := (Ex.new (o := .lst []) nc) _ _ hp
  refine ⟨_, rfl, p, dx, _, rfl, hp1, rfl, _, rfl, callJ (E := E) (B := B) (H0 := upd H c (.lst [])) (ds := ds) (vd := []) (dd := []) (todo := ds) (c := c) hcp hN hstop (Stp.refl e0) upd_same .nil hb rfl hr1 ib fun v H2 hJ => ?_⟩
  dsimp only [gName, tSeq]
  refine while_by (fun σ H' => ∃ v vd, BJ K L p c B (upd H c (.lst [])) N R r b2 m2 ds vd v H' ∧ σ = [some (.ref p), some (.int (r : Int)), some (.ref c), some v])
    (fun _ H' => match H' c with | some (.lst xs) => 1000 - xs.length | _ => 0) ⟨v, [], hJ, rfl⟩ ?_ ?_
  · rintro σ H' ⟨v, vd, ⟨B', dd, s1, hc, hd, hb', hh⟩, rfl⟩
    refine ⟨_, rfl, rfl, _, rfl, ite2 (fun c1 => ?_) fun c1 => ?_⟩
    · rcases hh with ⟨rfl, _, _⟩ | ⟨d, todo, wt, b', m', nn, hdv, hdd, hr', ib'⟩
      · exact absurd c1 (by decide)
      have hlen := congrArg List.length hdd
      rw [List.length_append, List.length_cons] at hlen
      have hvl := dp_all_len hd
      have hcb : B' c = none := s1.off (ex_none e nc) upd_same
      have t2 := Stp.put (ms := [c]) (o := .lst (vd ++ [v])) s1.in_ hcb (.head _)
      have s2 := s1.trans (t2.wk (ns := [c, p]) (by simp))
      have hr2 : Rd_ K p L N (wt ++ R) b' m' (upd H' c (.lst (vd ++ [v]))) := by
        obtain ⟨dx, lw, ln, W, aa, h1, h2, h3, h4⟩ := hr'
        have h5 := h4.2.2.2
        subst h5
        exact ⟨dx, lw, ln, W, aa, by rw [upd_ne hcp.symm]; exact h1, by rw [upd_ne hc1.symm]; exact h2, by rw [upd_ne hc2.symm]; exact h3, h4⟩
      obtain ⟨dx2, lw2, ln2, W2, aa2, hp2, _⟩ := id hr2
      refine ⟨_, rfl, .inl ⟨rfl, _, SqL.of hc⟩, _, rfl, c, _, _, rfl, rfl, hc, small1000 (by omega), ?_⟩
      refine ⟨_, rfl, p, dx2, _, rfl, hp2, rfl, _, rfl, callJ (E := E) (ds := ds) hcp hN hstop s2 upd_same (dpa_app hd hdv) hb' (by rw [List.append_assoc]; exact hdd) hr2 ib' fun v2 H2 hJ => ?_⟩
      refine ⟨⟨v2, _, hJ, rfl⟩, ?_⟩
      obtain ⟨_, _, _, hc2, _⟩ := hJ
      show (match H2 c with | some (.lst xs) => 1000 - xs.length | _ => 0) < (match H' c with | some (.lst xs) => 1000 - xs.length | _ => 0)
      rw [hc2, hc]
      show 1000 - (vd ++ [v]).length < 1000 - vd.length
      rw [List.length_append, List.length_singleton]
      omega
    · rcases hh with ⟨rfl, rfl, hr2⟩ | ⟨d, todo, wt, b', m', nn, _⟩
      · refine ⟨_, rfl, c, _, rfl, .inl ⟨SqL.of hc, fun l nl => ?_⟩⟩
        have s3 := Stp.with nc s1
        have t4 := Stp.new (ms := []) (o := .tup vd) s1.in_ nl
        exact k _ _ _ (s3.trans t4.nil) (hr2.stp t4) (.tup (SqT.of upd_same) (dpa_mono t4.base hd))
      · exfalso
        apply c1
        show (!decide (v = .non)) = true
        rw [decide_eq_false nn]
        rfl
  · rintro σ H' Q1 Q2 f ⟨v, e1, h1, kk, h2, q⟩
    exact ⟨v, e1, h1, kk, h2, f _ _ q⟩
theorem stopE {os : List PyData} {wo R : List Str} : StopW (elseW os wo ++ (("end" : Str) :: R)) := by
  unfold elseW
  split
  · show ("end" : Str) ∉ STM_
    decide +kernel
  · show ("else" : Str) ∉ STM_
    decide +kernel
theorem fn_ch1 (T : Txt K mg) (r : Nat) (IH : Fn P w K mg base (8 + 3 * r + 1 + 1) (ma K (ga K "Reader") "block") (spBlk K r)) : Fn P w K mg base (8 + 3 * r + 1 + 1 + 1) (ma K (ga K "Reader") "choice") (spCh K r) := by
  refine fn_def T.d_Reader_choice sc_Reader_choice (fun _ _ _ _ _ _ us hl => match us, hl with | [_, _], _ => rfl) (fun vs H Q E h => ?_) (fun cdv A outer s H vs Q E hr h => ?_)
  · obtain ⟨B, L, p, N, b, m, b1, m1, b2, m2, d, ts, os, we, wt, wo, R, rfl, _⟩ := h
    rfl
  obtain ⟨B, L, p, N, b, m, b1, m1, b2, m2, d, ts, os, we, wt, wo, R, rfl, e, hb, hN, hr0, he, ht, ho, lt, lo, k⟩ := h
  have nd := sc_Reader_choice.nd
  have hr1 : Room 1 _ := hr.mono (by omega)
  have hr2 : Room 2 _ := hr.mono (by omega)
  have hr8 : Room 8 _ := hr.mono (by omega)
  refine ⟨_, pss_cons (ps_set (i := 2) nd rfl (by first | exact Or.inl rfl | exact Or.inr rfl) (pe_methR (pv 0) T.c_Reader T.t_Reader_expression (fn_Reader_expression T) hr8 pc (pa_cons (pe_gi T.i_DEEPEST) pa_nil)))
      (pss_cons (ps_set (i := 3) nd rfl (by first | exact Or.inl rfl | exact Or.inr rfl) (pe_methR (pv 0) T.c_Reader T.t_Reader_block IH hr pc (pa_cons (pv 1) pa_nil)))
      (pss_cons (ps_set (i := 4) nd rfl (by first | exact Or.inl rfl | exact Or.inr rfl) (pe_tup pa_nil))
      (pss_cons (ps_if (pt_cmpR op_eq (pe_methR0 (pv 0) T.c_Reader T.t_Reader_word (fn_Reader_word T) hr1 pc) (pe_str) (nomark _)) (pss_cons (ps_fldaug (pv 0) (pe_int) in_add)
      (pss_cons (ps_set (i := 4) nd rfl (by first | exact Or.inl rfl | exact Or.inr rfl) (pe_methR (pv 0) T.c_Reader T.t_Reader_block IH hr pc (pa_cons (pv 1) pa_nil)))
      (pss_one (ps_if (pt_not (pt_truth (pv 4) (by intro _; rfl))) (pss_one (ps_never)) (pss_nil))))) (pss_nil))
      (pss_cons (ps_expr (pe_methR (pv 0) T.c_Reader T.t_Reader_take (fn_Reader_take T) hr2 pc (pa_cons (pe_tup (pa_cons (pe_str) pa_nil)) pa_nil)))
      (pss_one (ps_ret (pe_tup (pa_cons (pe_str) (pa_cons (pv 2) (pa_cons (pv 3) (pa_cons (pv 4) pa_nil))))))))))), ?_⟩
  obtain ⟨dx, lw, ln, W, aa, hp, _⟩ := id hr0
  refine ⟨_, rfl, p, dx, _, rfl, hp, rfl, B, L, p, N, _, we, d, b, m, rfl, e, hb, hr0, he, hN, fun v1 B1 H1 t1 hr1 hd1 => ?_⟩
  have hb1 := t1.off hb hp
  obtain ⟨dx1, lw1, ln1, W1, aa1, hp1, _⟩ := id hr1
  refine ⟨_, rfl, p, dx1, _, rfl, hp1, rfl, _, rfl, B1, L, p, N, b, m, ts, wt, _, b1, m1, rfl, t1.in_, hb1, hN, hr1, ht, by omega, stopE, fun v2 B2 H2 t2 hr2 hd2 => ?_⟩
  have hb2 := t2.off hb1 hp1
  have s2 := t1.trans t2
  refine ⟨(by show 0 ≤ sizeLine; decide), fun o no => ?_⟩
  have t3 := Stp.new (ms := [p]) (o := .tup []) s2.in_ no
  have t3n := Stp.new (ms := []) (o := .tup []) s2.in_ no
  have hr3 := hr2.stp t3n
  obtain ⟨dx2, lw2, ln2, W2, aa2, hp2, _⟩ := id hr2
  have hp3 := t3n.fr _ _ (by simp) hp2
  have hb3 : (upd B2 o (.tup [])) p = none := t3n.off hb2 hp2
  refine ⟨_, rfl, p, dx2, _, rfl, hp3, rfl, L, p, N, _, _, _, rfl, hr3, ?_⟩
  by_cases hos : os = []
  · subst hos
    obtain ⟨rfl, rfl, rfl⟩ : wo = [] ∧ b2 = b1 ∧ m2 = m1 := by cases ho; exact ⟨rfl, rfl, rfl⟩
    have hew : elseW [] ([] : List Str) = [] := rfl
    refine ⟨rfl, _, rfl, ite2 (fun c => ?_) fun _ => ?_⟩
    · exact absurd c (by show ¬ decide ((.str "end" : V) = .str "else") = true; decide +kernel)
    ·
      have s3 := s2.trans t3
      obtain ⟨dx3, lw3, ln3, W3, aa3, hp3, _⟩ := id hr3
      refine ⟨_, rfl, p, dx3, _, rfl, hp3, rfl, (by show 1 ≤ sizeLine; decide), fun t nt => ?_⟩
      have t4 := Stp.cell (ms := []) (o := .tup [V.str "end"]) s3.in_ nt
      refine ⟨_, L, p, t, N, R, ["end"], "end", b2, m2, rfl, t4.in_, hb3, hr3.stp t4, .inr (SqT.of upd_same), .head _, fun H5 t5 hr5 => ?_⟩
      have s5 := (s3.trans t4.nil).trans t5
      refine ⟨_, rfl, _, rfl, _, rfl, (by show 4 ≤ sizeLine; decide), fun u nu => ?_⟩
      have t7 := Stp.new (ms := []) (o := .tup [V.str "if", v1, v2, .ref o]) s5.in_ nu
      exact k _ _ _ (s5.trans t7.nil) (hr5.stp t7) (.tup (SqT.of upd_same) (.cons (.str _) (.cons (dp_mono ((t2.base.trans (t3.base.trans (t4.base.trans t5.base))).trans t7.base) hd1) (.cons (dp_mono ((t3.base.trans (t4.base.trans t5.base)).trans t7.base) hd2) (.cons (.tup (SqT.of (t7.base _ _ (t5.base _ _ (t4.base _ _ upd_same)))) .nil) .nil)))))
  · have hew : elseW os wo = ("else" : Str) :: wo := if_neg hos
    rw [hew] at hr3
    obtain ⟨dx4, lw4, ln4, W4, aa4, hp4, hw4, hn4, hd4, ha4, hl4⟩ := id hr3
    refine ⟨rfl, _, rfl, ite2 (fun _ => ?_) fun c => absurd (show decide ((.str ((elseW os wo ++ (("end" : Str) :: R)).headD "") : V) = .str "else") = true by rw [hew]; exact decide_eq_true rfl) c⟩
    refine ⟨_, rfl, p, _, _, _, _, rfl, hp4, T.c_Reader, T.a_Reader_at, rfl, _, _, rfl, rfl, _, _, hp4, (by show 5 < 1000; decide), ?_⟩
    have s4 := (s2.trans t3).trans (Stp.put (ms := [p]) (o := .ins (ga K "Reader") dx4 (putF "at" (.int ((aa4 : Int) + 1)) (rdF lw4 ln4 aa4 b1 m1))) t3.in_ hb3 (.head _))
    have hr5 := rd_at (x := "else") (R := wo ++ (("end" : Str) :: R)) hp4 hw4 hn4 hd4 hl4
    obtain ⟨dx5, lw5, ln5, W5, aa5, hp5, _⟩ := id hr5
    have hse : StopW (("end" : Str) :: R) := by
      show ("end" : Str) ∉ STM_
      decide +kernel
    refine ⟨_, rfl, p, dx5, _, rfl, hp5, rfl, _, rfl, _, L, p, N, b1, m1, os, wo, _, b2, m2, rfl, s4.in_, hb3, hN, hr5, ho, by omega, hse, fun v6 B6 H6 t6 hr6 hd6 => ?_⟩
    have hb6 := t6.off hb3 hp5
    obtain ⟨ao, vso, rfl, so, dvo⟩ := dp_tup hd6
    have hlo := dp_all_len dvo
    refine ⟨_, rfl, _, .inr (.inl ⟨_, ex_t t6.in_ so, rfl⟩), ite2 (fun c => ?_) fun _ => ?_⟩
    · exfalso
      cases vso with
      | nil => exact hos (List.eq_nil_of_length_eq_zero hlo.symm)
      | cons _ _ => exact absurd c (by show ¬ (!true) = true; decide)
    ·
      have s3 := s4.trans t6
      obtain ⟨dx3, lw3, ln3, W3, aa3, hp3, _⟩ := id hr6
      refine ⟨_, rfl, p, dx3, _, rfl, hp3, rfl, (by show 1 ≤ sizeLine; decide), fun t nt => ?_⟩
      have t4 := Stp.cell (ms := []) (o := .tup [V.str "end"]) s3.in_ nt
      refine ⟨_, L, p, t, N, R, ["end"], "end", b2, m2, rfl, t4.in_, hb6, hr6.stp t4, .inr (SqT.of upd_same), .head _, fun H5 t5 hr5 => ?_⟩
      have s5 := (s3.trans t4.nil).trans t5
      refine ⟨_, rfl, _, rfl, _, rfl, (by show 4 ≤ sizeLine; decide), fun u nu => ?_⟩
      have t7 := Stp.new (ms := []) (o := .tup [V.str "if", v1, v2, .ref ao]) s5.in_ nu
      exact k _ _ _ (s5.trans t7.nil) (hr5.stp t7) (.tup (SqT.of upd_same) (.cons (.str _) (.cons (dp_mono ((t2.base.trans (t3.base.trans (t6.base.trans (t4.base.trans t5.base)))).trans t7.base) hd1) (.cons (dp_mono ((t3.base.trans (t6.base.trans (t4.base.trans t5.base))).trans t7.base) hd2) (.cons (dp_mono (t4.base.trans (t5.base.trans t7.base)) hd6) .nil)))))
end
end LL
namespace LL
open PySem PySem.Spec PyProof.Rows L2 He Evl
/-- a word of a game's text -/
def WOk (x : Str) : Prop := 1 ≤ x.length ∧ x.length ≤ 8 ∧ 32 ∉ x.cps.toList ∧ ∀ c ∈ x.cps.toList, c < 1114112
theorem wok_name {x : Str} (h : IsName x) : WOk x := ⟨h.l1, h.l8, fun z => by have := h.lo _ z; omega, fun c z => by have := h.lo _ z; omega⟩
theorem wok_num {i : Int} (h0 : 0 ≤ i) (h1 : i ≤ 65535) : WOk (istr i) := ⟨(istr_len h0 h1).1, by have := (istr_len h0 h1).2; omega, fun z => by have := istr_dig h0 _ z; omega, fun c z => by have := istr_dig h0 _ z; omega⟩
theorem wok_c : ∀ x ∈ (["var", "set", "draw", "choose", "come", "show", "chooser", "comer", "pay", "take", "if", "else", "end", "+", "-", "*", "/", "mod", "<", "="] : List Str), 1 ≤ x.length ∧ x.length ≤ 8 ∧ 32 ∉ x.cps.toList ∧ ∀ c ∈ x.cps.toList, c < 1114112 := by decide +kernel
theorem IsE.wok {ns : List Str} (hN : ∀ x ∈ ns, IsName x) {n : Nat} {d : PyData} {ws : List Str} (h : IsE ns n d ws) : ∀ x ∈ ws, WOk x := by
  induction h with
  | num h0 h1 =>
    intro x hx
    rw [List.mem_singleton.mp hx]
    exact wok_num h0 h1
  | var h =>
    intro x hx
    rw [List.mem_singleton.mp hx]
    exact wok_name (hN _ h)
  | @op n s a b wa wb hs _ _ iha ihb =>
    intro x hx
    rcases List.mem_cons.mp hx with rfl | hx
    · refine wok_c _ ?_
      exact List.mem_append_right (["var", "set", "draw", "choose", "come", "show", "chooser", "comer", "pay", "take", "if", "else", "end"] : List Str) (show x ∈ (["+", "-", "*", "/", "mod", "<", "="] : List Str) from hs)
    · rcases List.mem_append.mp hx with hx | hx
      · exact iha x hx
      · exact ihb x hx
theorem IsB.wok {ns : List Str} (hN : ∀ x ∈ ns, IsName x) {r b m b1 m1 : Nat} {ds : List PyData} {ws : List Str} (h : IsB ns r b m b1 m1 ds ws) : ∀ x ∈ ws, WOk x := by
  induction h with
  | nil => exact fun _ h => nomatch h
  | pay hs he h ih =>
    intro x hx
    simp only [List.mem_append, List.mem_cons, List.not_mem_nil, or_false] at hx hs
    rcases hx with (rfl | hx) | hx
    · exact wok_c _ (by rcases hs with rfl | rfl <;> simp)
    · exact he.wok hN x hx
    · exact ih x hx
  | show_ hs he h ih =>
    intro x hx
    simp only [List.mem_append, List.mem_cons, List.not_mem_nil, or_false] at hx hs
    rcases hx with (rfl | rfl | hx) | hx
    · exact wok_c _ (by simp)
    · exact wok_c _ (by rcases hs with rfl | rfl <;> simp)
    · exact he.wok hN x hx
    · exact ih x hx
  | set_ hs he h ih =>
    intro x hx
    simp only [List.mem_append, List.mem_cons] at hx
    rcases hx with (rfl | rfl | hx) | hx
    · exact wok_c _ (by simp)
    · exact wok_name (hN _ hs)
    · exact he.wok hN x hx
    · exact ih x hx
  | draw hs h0 h1 hb h ih =>
    intro x hx
    simp only [List.mem_cons] at hx
    rcases hx with rfl | rfl | rfl | hx
    · exact wok_c _ (by simp)
    · exact wok_name (hN _ hs)
    · exact wok_num (by omega) (by omega)
    · exact ih x hx
  | move hc hs h0 h1 hb h ih =>
    intro x hx
    simp only [List.mem_cons, List.not_mem_nil, or_false] at hx hc
    rcases hx with rfl | rfl | rfl | hx
    · exact wok_c _ (by rcases hc with rfl | rfl <;> simp)
    · exact wok_name (hN _ hs)
    · exact wok_num (by omega) (by omega)
    · exact ih x hx
  | @ite _ _ _ _ _ _ _ _ _ _ we wt wo ws ts os ds he ht ho lt lo h iht iho ih =>
    intro x hx
    simp only [List.mem_append, List.mem_cons, List.not_mem_nil, or_false] at hx
    rcases hx with ((((rfl | hx) | hx) | hx) | rfl) | hx
    · exact wok_c _ (by simp)
    · exact he.wok hN x hx
    · exact iht x hx
    · unfold elseW at hx
      split at hx
      · exact absurd hx (by simp)
      · rcases List.mem_cons.mp hx with rfl | hx
        · exact wok_c _ (by simp)
        · exact iho x hx
    · exact wok_c _ (by simp)
    · exact ih x hx
/-- a game's words -/
def gW (xs : List (Str × Int)) (ws : List Str) : List Str := (xs.flatMap fun x => [("var" : Str), x.1, istr x.2]) ++ ws
theorem gW_cons {x : Str × Int} {xs : List (Str × Int)} {ws : List Str} : gW (x :: xs) ws = ("var" : Str) :: x.1 :: istr x.2 :: gW xs ws := rfl
theorem gW_len (xs : List (Str × Int)) (ws : List Str) : (gW xs ws).length = 3 * xs.length + ws.length := by
  induction xs with
  | nil => simp [gW]
  | cons x xs ih => rw [gW_cons, List.length_cons, List.length_cons, List.length_cons, List.length_cons, ih]; omega
theorem IsG.names {xs : List (Str × Int)} {ds : List PyData} {ws : List Str} (h : IsG xs ds ws) : ∀ x ∈ xs.map Prod.fst, IsName x := by
  intro x hx
  obtain ⟨y, hy, rfl⟩ := List.mem_map.mp hx
  exact (h.ok y hy).1
theorem IsG.wok {xs : List (Str × Int)} {ds : List PyData} {ws : List Str} (h : IsG xs ds ws) : ∀ x ∈ gW xs ws, WOk x := by
  obtain ⟨b, m, ib⟩ := h.rows
  intro x hx
  rcases List.mem_append.mp hx with hx | hx
  · obtain ⟨y, hy, hx⟩ := List.mem_flatMap.mp hx
    obtain ⟨h1, h2, h3⟩ := h.ok y hy
    simp only [List.mem_cons, List.not_mem_nil, or_false] at hx
    rcases hx with rfl | rfl | rfl
    · exact wok_c _ (by simp)
    · exact wok_name h1
    · exact wok_num (by omega) h3
  · exact ib.wok h.names x hx
theorem IsG.len {xs : List (Str × Int)} {ds : List PyData} {ws : List Str} (h : IsG xs ds ws) : (gW xs ws).length ≤ 458304 := by
  obtain ⟨b, m, ib⟩ := h.rows
  have h1 := ib.big (by omega) h.l9
  have h2 := h.l5
  rw [gW_len]
  omega
/-- the text of words -/
def txt (W : List Str) : Str := Txt.join " " W
theorem map_S (W : List Str) : (W.map fun x => x.cps.toList).map SX.S = W := by
  rw [List.map_map]
  conv => rhs; rw [← List.map_id W]
  exact List.map_congr_left fun x _ => SX.S_tl x
theorem txt_S (W : List Str) : txt W = SX.S (TL.joinL [32] (W.map fun x => x.cps.toList)) := by
  have h := SX.join_S [32] (W.map fun x => x.cps.toList)
  rw [map_S] at h
  exact h
theorem txt_split {W : List Str} (hne : W ≠ []) (h : ∀ x ∈ W, WOk x) : Txt.split (txt W) " " = W := by
  have e : (" " : Str) = SX.S [32] := rfl
  rw [txt_S, e, SX.split_S (by decide) (by decide), SX.spl_join (by simpa using hne) ?_, map_S]
  intro p hp
  obtain ⟨x, hx, rfl⟩ := List.mem_map.mp hp
  exact (h x hx).2.2.1
theorem joinL_len : ∀ (W : List (List Nat)) (k : Nat), (∀ x ∈ W, x.length ≤ k) → (TL.joinL [32] W).length ≤ W.length * (k + 1)
  | [], _, _ => Nat.zero_le _
  | [p], k, h => by
    have := h p (.head _)
    show p.length ≤ 1 * (k + 1)
    omega
  | p :: q :: r, k, h => by
    have h1 := h p (.head _)
    have h2 := joinL_len (q :: r) k fun x hx => h x (.tail _ hx)
    show (p ++ ([32] ++ TL.joinL [32] (q :: r))).length ≤ _
    rw [List.length_append, List.length_append, List.length_cons (a := p), Nat.add_mul]
    simp only [List.length_cons, List.length_nil] at h2 ⊢
    omega
theorem joinL_pos : ∀ (W : List (List Nat)), W ≠ [] → (∀ x ∈ W, 1 ≤ x.length) → 1 ≤ (TL.joinL [32] W).length
  | [], h, _ => absurd rfl h
  | [p], _, h => h p (.head _)
  | p :: q :: r, _, h => by
    have h1 := h p (.head _)
    show 1 ≤ (p ++ ([32] ++ TL.joinL [32] (q :: r))).length
    rw [List.length_append]
    omega
theorem len_S (x : Str) : x.cps.toList.length = x.length := by rw [Array.length_toList]; rfl
theorem txt_len {W : List Str} (h : ∀ x ∈ W, WOk x) (hl : W.length ≤ 458304) : (txt W).length ≤ 5000000 := by
  rw [txt_S, SX.S_len]
  refine Nat.le_trans (joinL_len _ 8 ?_) (by rw [List.length_map]; omega)
  intro p hp
  obtain ⟨x, hx, rfl⟩ := List.mem_map.mp hp
  rw [len_S]
  exact (h x hx).2.1
theorem txt_pos {W : List Str} (hne : W ≠ []) (h : ∀ x ∈ W, WOk x) : txt W ≠ "" := by
  intro z
  have h1 : (txt W).length = 0 := by rw [z]; rfl
  rw [txt_S, SX.S_len] at h1
  have h2 := joinL_pos (W.map fun x => x.cps.toList) (by simpa using hne) (by
    intro p hp
    obtain ⟨x, hx, rfl⟩ := List.mem_map.mp hp
    rw [len_S]
    exact (h x hx).1)
  omega
theorem joinL_lo : ∀ (W : List (List Nat)), (∀ x ∈ W, ∀ c ∈ x, c < 1114112) → ∀ c ∈ TL.joinL [32] W, c < 1114112
  | [], _, _, h => nomatch h
  | [p], h, c, hc => h p (.head _) c hc
  | p :: q :: r, h, c, hc => by
    have hc : c ∈ p ++ ([32] ++ TL.joinL [32] (q :: r)) := hc
    rcases List.mem_append.mp hc with hc | hc
    · exact h p (.head _) c hc
    rcases List.mem_append.mp hc with hc | hc
    · rw [List.mem_singleton.mp hc]; decide
    · exact joinL_lo (q :: r) (fun x hx => h x (.tail _ hx)) c hc
theorem S_lo {L : List Nat} (h : ∀ c ∈ L, c < 1114112) : (PyData.str (SX.S L)).canLay0 = true := by
  show (SX.S L).cps.all (· < 0x110000) = true
  rw [← Array.all_toList, List.all_eq_true]
  intro c hc
  exact decide_eq_true (h c (by simpa [SX.S] using hc))
theorem txt_lo {W : List Str} (h : ∀ x ∈ W, WOk x) : (PyData.str (txt W)).canLay0 = true := by
  rw [txt_S]
  refine S_lo (joinL_lo _ ?_)
  intro p hp
  obtain ⟨x, hx, rfl⟩ := List.mem_map.mp hp
  exact (h x hx).2.2.2
theorem txt_nil : txt [] = "" := by decide +kernel
section
variable {P : Program} {w : World} {K : PySem.W.Frag} {mg : Str → Option Value} {base : Heap}
theorem fn_all (T : Txt K mg) : ∀ r, Fn P w K mg base (8 + 3 * r + 1) (ma K (ga K "Reader") "statement") (spStm K r) ∧ Fn P w K mg base (8 + 3 * r + 1 + 1) (ma K (ga K "Reader") "block") (spBlk K r) ∧ Fn P w K mg base (8 + 3 * r + 1 + 1 + 1) (ma K (ga K "Reader") "choice") (spCh K r)
  | 0 => by
    have h1 := fn_stm1 (P := P) (w := w) (base := base) T 0 (fun _ _ _ _ _ _ _ _ _ _ _ h => h.elim)
    have h2 := fn_blk1 T 0 h1
    exact ⟨h1, h2, fn_ch1 T 0 h2⟩
  | r + 1 => by
    have h0 := (fn_all T r).2.2
    have h1 := fn_stm1 T (r + 1) h0
    have h2 := fn_blk1 T (r + 1) h1
    exact ⟨h1, h2, fn_ch1 T (r + 1) h2⟩
theorem fn_Reader_block (T : Txt K mg) : Fn P w K mg base 22 (ma K (ga K "Reader") "block") (spBlk K 4) := (fn_all T 4).2.1
end
end LL
namespace LL
open PySem PySem.Spec PyProof.Rows L2 He Evl
section
variable {P : Program} {w : World} {K : PySem.W.Frag} {mg : Str → Option Value} {base : Heap}
/-- a list or a tuple of data -/
def SqD (K : PySem.W.Frag) (B H : Hp) (a : Addr) (ds : List PyData) : Prop := ∃ vs, (SqL K H a vs ∨ SqT K B a vs) ∧ DpAll K B vs ds
def gmF (v1 v2 : V) : List (Str × V) := [("variables", v1), ("block", v2)]
def spGI (K : PySem.W.Frag) : Sp := fun vs H Q _ => ∃ (B : Hp) (x dx a1 a2 : Addr) (d1 d2 : List PyData), vs = [.ref x, .ref a1, .ref a2] ∧ Ex B H ∧ B x = none ∧ H x = some (.ins (ga K "Game") dx []) ∧ SqD K B H a1 d1 ∧ SqD K B H a2 d2 ∧
  ∀ (B2 H2 : Hp) (v1 v2 : V), Stp [x] B H B2 H2 → H2 x = some (.ins (ga K "Game") dx (gmF v1 v2)) → Dp K B2 v1 (.tuple d1) → Dp K B2 v2 (.tuple d2) → Q .non H2
theorem sqd_stp {ms : List Addr} {B H B2 H2 : Hp} {a : Addr} {ds : List PyData} (h : SqD K B H a ds) (s : Stp ms B H B2 H2) (n : a ∉ ms) : SqD K B2 H2 a ds := by
  obtain ⟨vs, h1, h2⟩ := h
  refine ⟨vs, ?_, dpa_mono s.base h2⟩
  rcases h1 with h1 | h1
  · rcases h1 with (h1 | ⟨u, h1⟩) | h1
    · exact .inl (.inl (.inl (s.fr _ _ n h1)))
    · exact .inl (.inl (.inr ⟨u, s.fr _ _ n h1⟩))
    · exact .inl (.inr h1)
  · exact .inr (ex_t s.base h1)
theorem sqd_put {B H : Hp} {a x C dx : Addr} {fs : List (Str × V)} {o : HO} {ds : List PyData} (h : SqD K B H a ds) (hx : H x = some (.ins C dx fs)) : SqD K B (upd H x o) a ds := by
  obtain ⟨vs, h1, h2⟩ := h
  refine ⟨vs, ?_, h2⟩
  rcases h1 with h1 | h1
  · rcases h1 with (h1 | ⟨u, h1⟩) | h1
    · exact .inl (.inl (.inl (by rw [upd_ne (fun z => by rw [z, hx] at h1; cases h1)]; exact h1)))
    · exact .inl (.inl (.inr ⟨u, by rw [upd_ne (fun z => by rw [z, hx] at h1; cases h1)]; exact h1⟩))
    · exact .inl (.inr h1)
  · exact .inr h1
theorem fn_Game_init (T : Txt K mg) : Fn P w K mg base 1 (ma K (ga K "Game") "__init__") (spGI K) := by
  refine fn_def T.d_Game_init sc_Game_init (fun _ _ _ _ _ _ us hl => match us, hl with | [_, _, _], _ => rfl) (fun vs H Q E h => ?_) (fun cdv A outer s H vs Q E hr h => ?_)
  · obtain ⟨B, x, dx, a1, a2, d1, d2, rfl, _⟩ := h
    rfl
  obtain ⟨B, x, dx, a1, a2, d1, d2, rfl, e, hb, hx, h1, h2, k⟩ := h
  have nd := sc_Game_init.nd
  refine ⟨_, Evl.pss_cut (ps_fld (pv 0) (pe_callTy call_tuple_of (by rfl) T.f_tuple (by decide +kernel) (pa_cons (pv 1) pa_nil)) rfl)
      (pss_one (ps_fld (pv 0) (pe_callTy call_tuple_of (by rfl) T.f_tuple (by decide +kernel) (pa_cons (pv 2) pa_nil)) rfl)), ?_⟩
  refine ⟨fun σ H' => ∃ (v1 : V) (B1 : Hp), Stp [x] B H B1 H' ∧ H' x = some (.ins (ga K "Game") dx [("variables", v1)]) ∧ Dp K B1 v1 (.tuple d1) ∧ B1 x = none ∧ SqD K B1 H' a2 d2 ∧ σ = [some (.ref x), some (.ref a1), some (.ref a2)], ?_, ?_⟩
  · obtain ⟨vs1, hs, hd⟩ := h1
    rcases hs with hs | hs
    · refine ⟨_, rfl, a1, vs1, rfl, .inl ⟨hs, fun l nl => ?_⟩⟩
      have t1 := Stp.new (ms := []) (o := .tup vs1) e nl
      have hx1 := t1.fr x _ (by simp) hx
      have hb1 := t1.off hb hx
      have s2 := t1.nil.trans (Stp.put (ms := [x]) (o := .ins (ga K "Game") dx (putF "variables" (.ref l) [])) t1.in_ hb1 (.head _))
      exact ⟨_, rfl, x, _, dx, _, rfl, hx1, T.c_Game, T.a_Game_variables, (by show 0 < 1000; decide), .ref l, _, s2, upd_same, .tup (SqT.of upd_same) (dpa_mono t1.base hd), hb1, sqd_put (sqd_stp h2 t1 (by simp)) hx1, rfl⟩
    · refine ⟨_, rfl, a1, vs1, rfl, .inr ⟨ex_t e hs, ?_⟩⟩
      have s2 := Stp.put (ms := [x]) (o := .ins (ga K "Game") dx (putF "variables" (.ref a1) [])) e hb (.head _)
      exact ⟨_, rfl, x, _, dx, _, rfl, hx, T.c_Game, T.a_Game_variables, (by show 0 < 1000; decide), .ref a1, _, s2, upd_same, .tup hs hd, hb, sqd_put h2 hx, rfl⟩
  rintro σ H1 ⟨v1, B1, s1, hx1, hd1, hb1, h21, rfl⟩
  obtain ⟨vs2, hs, hd⟩ := h21
  rcases hs with hs | hs
  · refine ⟨_, rfl, a2, vs2, rfl, .inl ⟨hs, fun l nl => ?_⟩⟩
    have t1 := Stp.new (ms := []) (o := .tup vs2) s1.in_ nl
    have hx2 := t1.fr x _ (by simp) hx1
    have hb2 := t1.off hb1 hx1
    have s2 := (s1.trans t1.nil).trans (Stp.put (ms := [x]) (o := .ins (ga K "Game") dx (putF "block" (.ref l) [("variables", v1)])) t1.in_ hb2 (.head _))
    exact ⟨_, rfl, x, _, dx, _, rfl, hx2, T.c_Game, T.a_Game_block, (by show 1 < 1000; decide), k _ _ v1 (.ref l) s2 upd_same (dp_mono t1.base hd1) (.tup (SqT.of upd_same) (dpa_mono t1.base hd))⟩
  · refine ⟨_, rfl, a2, vs2, rfl, .inr ⟨ex_t s1.in_ hs, ?_⟩⟩
    have s2 := s1.trans (Stp.put (ms := [x]) (o := .ins (ga K "Game") dx (putF "block" (.ref a2) [("variables", v1)])) s1.in_ hb1 (.head _))
    exact ⟨_, rfl, x, _, dx, _, rfl, hx1, T.c_Game, T.a_Game_block, (by show 1 < 1000; decide), k _ _ v1 (.ref a2) s2 upd_same hd1 (.tup hs hd)⟩
/-- a Game with its parts -/
def GameAt (K : PySem.W.Frag) (H : Hp) (g : V) (d1 d2 : List PyData) : Prop := ∃ (a dx : Addr) (v1 v2 : V), g = .ref a ∧ H a = some (.ins (ga K "Game") dx (gmF v1 v2)) ∧ Dp K H v1 (.tuple d1) ∧ Dp K H v2 (.tuple d2)
theorem GameAt.mono {H H2 : Hp} {g : V} {d1 d2 : List PyData} (h : GameAt K H g d1 d2) (e : Ex H H2) : GameAt K H2 g d1 d2 := by
  obtain ⟨a, dx, v1, v2, h1, h2, h3, h4⟩ := h
  exact ⟨a, dx, v1, v2, h1, e _ _ h2, dp_mono e h3, dp_mono e h4⟩
/-- Game(..) -/
theorem mk_game {B H : Hp} {a1 a2 : Addr} {d1 d2 : List PyData} {Q : VK} {E : XK} (e : Ex B H) (h1 : SqD K B H a1 d1) (h2 : SqD K B H a2 d2) (k : ∀ (g : V) (B2 H2 : Hp), Stp [] B H B2 H2 → GameAt K B2 g d1 d2 → Q g H2) :
    ∀ x dx, H x = none → H dx = none → dx ≠ x → spGI K [.ref x, .ref a1, .ref a2] (upd (upd H dx (.own x)) x (.ins (ga K "Game") dx [])) (fun v H2 => v = .non ∧ Q (.ref x) H2) E := by
  intro x dx nx ndx ne
  have t1 := Stp.new (ms := []) (o := .own x) e ndx
  have nx1 : (upd H dx (.own x)) x = none := by rw [upd_ne ne.symm]; exact nx
  have t2 := Stp.cell (ms := []) (o := .ins (ga K "Game") dx []) t1.in_ nx1
  have s2 := t1.trans t2
  refine ⟨_, x, dx, a1, a2, d1, d2, rfl, s2.in_, ex_none t1.in_ nx1, upd_same, sqd_stp h1 s2 (by simp), sqd_stp h2 s2 (by simp), fun B3 H3 v1 v2 s3 hx hd1 hd2 => ⟨rfl, ?_⟩⟩
  have s4 := Stp.close t1.in_ nx1 s3 hx
  have hb3 : B3 x = none := s3.off (ex_none t1.in_ nx1) upd_same
  have kk := (Stp.keep s3.in_ hx hb3).1
  exact k _ _ _ (t1.trans s4) ⟨x, dx, v1, v2, rfl, upd_same, dp_mono kk hd1, dp_mono kk hd2⟩
end
end LL
namespace LL
open PySem PySem.Spec PyProof.Rows L2 He Evl
section
variable {P : Program} {w : World} {K : PySem.W.Frag} {mg : Str → Option Value} {base : Heap}
def spRInit (K : PySem.W.Frag) : Sp := fun vs H Q _ => ∃ (B : Hp) (p dx : Addr) (W : List Str), vs = [.ref p, .str (txt W)] ∧ Ex B H ∧ B p = none ∧ H p = some (.ins (ga K "Reader") dx []) ∧ (∀ x ∈ W, WOk x) ∧ W.length ≤ 458304 ∧
  ∀ (B2 H2 : Hp) (lw ln : Addr), Stp [p] B H B2 H2 → Rd_ K p (lw, ln) [] W 0 0 H2 → B2 ln = none → ln ≠ lw → B2 p = none → H ln = none → Q .non H2
theorem fn_Reader_init (T : Txt K mg) : Fn P w K mg base 1 (ma K (ga K "Reader") "__init__") (spRInit K) := by
  refine fn_def T.d_Reader_init sc_Reader_init (fun _ _ _ _ _ _ us hl => match us, hl with | [_, _], _ => rfl) (fun vs H Q E h => ?_) (fun cdv A outer s H vs Q E hr h => ?_)
  · obtain ⟨B, p, dx, W, rfl, _⟩ := h
    rfl
  obtain ⟨B, p, dx, W, rfl, e, hb, hp, hW, hl, k⟩ := h
  have nd := sc_Reader_init.nd
  refine ⟨_, Evl.pss_cut (ps_fld (pv 0) (pe_ifExp (pt_cmpR op_ne (pv 1) (pe_str) (nomark _)) (pe_split (pv 1) (pe_str)) (pe_lst pa_nil)) rfl)
      (pss_cons (ps_fld (pv 0) (pe_int) rfl)
      (pss_cons (ps_fld (pv 0) (pe_lst pa_nil) rfl)
      (pss_cons (ps_fld (pv 0) (pe_int) rfl)
      (pss_one (ps_fld (pv 0) (pe_int) rfl))))), ?_⟩
  refine ⟨fun σ H' => ∃ (lw : Addr) (B1 : Hp), Stp [p] B H B1 H' ∧ H' p = some (.ins (ga K "Reader") dx [("words", .ref lw)]) ∧ H' lw = some (.lst (W.map V.str)) ∧ B1 p = none ∧ σ = [some (.ref p), some (.str (txt W))], ?_, ?_⟩
  · have fin : ∀ l, H l = none → (∃ v, [some (V.ref p), some (.str (txt W))][0]? = some (some v) ∧ ∃ a C dx' fs, v = .ref a ∧ (upd H l (.lst (W.map V.str))) a = some (.ins C dx' fs) ∧ Cls K C ∧ NoAttr K C "words" ∧ fs.length < 1000 ∧
        ∃ (lw : Addr) (B1 : Hp), Stp [p] B H B1 (upd (upd H l (.lst (W.map V.str))) a (.ins C dx' (putF "words" (.ref l) fs))) ∧ (upd (upd H l (.lst (W.map V.str))) a (.ins C dx' (putF "words" (.ref l) fs))) p = some (.ins (ga K "Reader") dx [("words", .ref lw)]) ∧ (upd (upd H l (.lst (W.map V.str))) a (.ins C dx' (putF "words" (.ref l) fs))) lw = some (.lst (W.map V.str)) ∧ B1 p = none ∧ [some (V.ref p), some (.str (txt W))] = [some (.ref p), some (.str (txt W))]) := by
      intro l nl
      have t1 := Stp.new (ms := []) (o := .lst (W.map V.str)) e nl
      have hp1 := t1.fr p _ (by simp) hp
      have hb1 := t1.off hb hp
      have s2 := t1.nil.trans (Stp.put (ms := [p]) (o := .ins (ga K "Reader") dx (putF "words" (.ref l) [])) t1.in_ hb1 (.head _))
      exact ⟨_, rfl, p, _, dx, _, rfl, hp1, T.c_Reader, T.a_Reader_words, (by show 0 < 1000; decide), l, _, s2, upd_same, by rw [upd_ne (lst_ne hp1 upd_same)]; exact upd_same, hb1, rfl⟩
    refine ⟨_, rfl, rfl, _, rfl, ite2 (fun c => ?_) fun c => ?_⟩
    · have hne : W ≠ [] := fun z => by
        rw [z, txt_nil] at c
        exact absurd c (by decide)
      have hlen := txt_len hW hl
      refine ⟨_, rfl, ⟨_, rfl⟩, txt W, " ", rfl, rfl, rfl, (by have : (6000000 : Nat) ≤ sizeLine := by decide
                                                               omega), fun l nl => ?_⟩
      rw [txt_split hne hW]
      exact fin l nl
    · have hne : W = [] := by
        cases W with
        | nil => rfl
        | cons x W => exact absurd (show (!decide ((.str (txt (x :: W)) : V) = .str "")) = true by rw [decide_eq_false (fun z => txt_pos (by simp) hW (V.str.inj z))]; rfl) c
      refine ⟨(by show 0 ≤ sizeLine; decide), fun l nl => ?_⟩
      have := fin l nl
      rw [hne] at this ⊢
      exact this
  rintro σ H1 ⟨lw, B1, s1, hp1, hw1, hb1, rfl⟩
  refine ⟨_, rfl, p, _, dx, _, rfl, hp1, T.c_Reader, T.a_Reader_at, (by show 1 < 1000; decide), ?_⟩
  have hwp : lw ≠ p := lst_ne hp1 hw1
  have s2 := s1.trans (Stp.put (ms := [p]) (o := .ins (ga K "Reader") dx (putF "at" (.int 0) [("words", .ref lw)])) s1.in_ hb1 (.head _))
  refine ⟨(by show 0 ≤ sizeLine; decide), fun ln nl => ?_⟩
  have hp2 : (upd H1 p (.ins (ga K "Reader") dx (putF "at" (.int 0) [("words", .ref lw)]))) p = _ := upd_same
  have hw2 : (upd H1 p (.ins (ga K "Reader") dx (putF "at" (.int 0) [("words", .ref lw)]))) lw = some (.lst (W.map V.str)) := by rw [upd_ne hwp]; exact hw1
  have t3 := Stp.cell (ms := []) (o := .lst []) s2.in_ nl
  have s3 := s2.trans t3.nil
  have hp3 := t3.fr p _ (by simp) hp2
  have hw3 := t3.fr lw _ (by simp) hw2
  have hnp : ln ≠ p := fun z => by rw [z, hp2] at nl; cases nl
  have hnw : ln ≠ lw := fun z => by rw [z, hw2] at nl; cases nl
  refine ⟨_, rfl, p, _, dx, _, rfl, hp3, T.c_Reader, T.a_Reader_names, (by show 2 < 1000; decide), ?_⟩
  refine ⟨_, rfl, p, _, dx, _, rfl, upd_same, T.c_Reader, T.a_Reader_branches, (by show 3 < 1000; decide), ?_⟩
  refine ⟨_, rfl, p, _, dx, _, rfl, upd_same, T.c_Reader, T.a_Reader_moves, (by show 4 < 1000; decide), ?_⟩
  rw [upd_twice, upd_twice]
  have s4 := s3.trans (Stp.put (ms := [p]) (o := .ins (ga K "Reader") dx (rdF lw ln 0 0 0)) s3.in_ hb1 (.head _))
  have hn0 : H ln = none := by
    cases hh : H ln with
    | none => rfl
    | some o => exact absurd nl (s2.al ln (by rw [hh]; exact fun z => nomatch z))
  refine k B1 _ lw ln s4 ⟨dx, lw, ln, W, 0, upd_same, ?_, ?_, rfl, Nat.zero_le _, by omega, rfl⟩ (ex_none s2.in_ nl) hnw hb1 hn0
  · rw [upd_ne hwp]; exact hw3
  · rw [upd_ne hnp]; exact upd_same
end
end LL
namespace LL
open PySem PySem.Spec PyProof.Rows L2 He Evl
theorem IsB.head {ns : List Str} {r b m b1 m1 : Nat} {ds : List PyData} {ws : List Str} (h : IsB ns r b m b1 m1 ds ws) : ws.headD "" ≠ "var" := by
  have hc : ∀ x ∈ (["", "pay", "take", "show", "set", "draw", "choose", "come", "if"] : List Str), x ≠ "var" := by decide +kernel
  cases h with
  | nil => exact hc _ (by simp)
  | pay hs _ _ => exact hc _ (by simp only [List.mem_cons, List.not_mem_nil, or_false] at hs; rcases hs with rfl | rfl <;> simp)
  | show_ _ _ _ => exact hc _ (by simp)
  | set_ _ _ _ => exact hc _ (by simp)
  | draw _ _ _ _ _ => exact hc _ (by simp)
  | move hs _ _ _ _ _ => exact hc _ (by simp only [List.mem_cons, List.not_mem_nil, or_false] at hs; rcases hs with rfl | rfl <;> simp)
  | ite _ _ _ _ _ _ => exact hc _ (by simp)
section
variable {P : Program} {w : World} {K : PySem.W.Frag} {mg : Str → Option Value} {base : Heap}
theorem Rd_.put {p c : Addr} {L : Addr × Addr} {N R : List Str} {br mv : Nat} {H : Hp} {o : HO} (h : Rd_ K p L N R br mv H) (h0 : c ≠ p) (h1 : c ≠ L.1) (h2 : c ≠ L.2) : Rd_ K p L N R br mv (upd H c o) := by
  obtain ⟨dx, lw, ln, W, a, g1, g2, g3, g4⟩ := h
  have h5 := g4.2.2.2
  subst h5
  exact ⟨dx, lw, ln, W, a, by rw [upd_ne h0.symm]; exact g1, by rw [upd_ne h1.symm]; exact g2, by rw [upd_ne h2.symm]; exact g3, g4⟩
theorem Rd_.names {p : Addr} {L : Addr × Addr} {N N2 R : List Str} {br mv : Nat} {H : Hp} (h : Rd_ K p L N R br mv H) (h1 : L.2 ≠ L.1) : Rd_ K p L N2 R br mv (upd H L.2 (.lst (N2.map V.str))) := by
  obtain ⟨dx, lw, ln, W, a, g1, g2, g3, g4⟩ := h
  have h5 := g4.2.2.2
  subst h5
  exact ⟨dx, lw, ln, W, a, by rw [upd_ne (lst_ne g1 g3).symm]; exact g1, by rw [upd_ne h1.symm]; exact g2, upd_same, g4⟩
def spGameM (K : PySem.W.Frag) : Sp := fun vs H Q _ => ∃ (B : Hp) (L : Addr × Addr) (p : Addr) (xs : List (Str × Int)) (ds : List PyData) (ws : List Str), vs = [.ref p] ∧ Ex B H ∧ B p = none ∧ B L.2 = none ∧ L.2 ≠ L.1 ∧ IsG xs ds ws ∧ Rd_ K p L [] (gW xs ws) 0 0 H ∧
  ∀ (g : V) (B2 H2 : Hp), Stp [p, L.2] B H B2 H2 → GameAt K B2 g (xs.map varD) ds → Q g H2
theorem fn_Reader_game (T : Txt K mg) : Fn P w K mg base 23 (ma K (ga K "Reader") "game") (spGameM K) := by
  refine fn_def T.d_Reader_game sc_Reader_game (fun _ _ _ _ _ _ us hl => match us, hl with | [_], _ => rfl) (fun vs H Q E h => ?_) (fun cdv A outer s H vs Q E hr h => ?_)
  · obtain ⟨B, L, p, xs, ds, ws, rfl, _⟩ := h
    rfl
  obtain ⟨B, L, p, xs, ds, ws, rfl, e, hb, hbn, hnw, hg, hr0, k⟩ := h
  have nd := sc_Reader_game.nd
  obtain ⟨b9, m9, ib⟩ := id hg.rows
  refine ⟨_, pss_cons (ps_set (i := 1) nd rfl (by first | exact Or.inl rfl | exact Or.inr rfl) (pe_lst pa_nil))
      (pss_cons (ps_while (passes_of rfl) (PW.pt (pw_and (pt_cmpR op_eq (pe_methR0 (pv 0) T.c_Reader T.t_Reader_word (fn_Reader_word T) (hr.mono (by decide)) pc) (pe_str) (nomark _)) (pw_and1 (pt_cmpR op_lt (pe_callB call_len_seq (by rfl) T.f_len PySem.boot_len (pa_cons (pv 1) pa_nil)) (pe_gi T.i_MOST_NAMES) (nomark _))))) (pss_cons (ps_fldaug (pv 0) (pe_int) in_add)
      (pss_cons (ps_set (i := 2) nd rfl (by first | exact Or.inl rfl | exact Or.inr rfl) (pe_methR0 (pv 0) T.c_Reader T.t_Reader_word (fn_Reader_word T) (hr.mono (by decide)) pc))
      (pss_cons (ps_if (PW.pt (pw_or (pt_not (pt_val (pe_fn T.d_is_name (fn_is_name T) (hr.mono (by decide)) T.g_is_name pc (pa_cons (pv 2) pa_nil)))) (pw_or1 (pt_cmpR op_in_seq (pv 2) (pe_fld (pv 0) rfl) rfl)))) (pss_one (ps_never)) (pss_nil))
      (pss_cons (ps_fldaug (pv 0) (pe_int) in_add)
      (pss_cons (ps_expr (pe_bm PySem.F.plainAttrs_list PySem.F.slot_list_append PySem.F.type_list_append mt_append (pv 1) (pa_cons (pe_tup (pa_cons (pv 2) (pa_cons (pe_methR (pv 0) T.c_Reader T.t_Reader_take_number (fn_Reader_take_number T) (hr.mono (by decide)) pc (pa_cons (pe_int) (pa_cons (pe_gi T.i_GREATEST) pa_nil))) pa_nil))) pa_nil)))
      (pss_one (ps_expr (pe_bm PySem.F.plainAttrs_list PySem.F.slot_list_append PySem.F.type_list_append mt_append (pe_fld (pv 0) rfl) (pa_cons (pv 2) pa_nil))))))))))
      (pss_cons (ps_set (i := 3) nd rfl (by first | exact Or.inl rfl | exact Or.inr rfl) (pe_methR (pv 0) T.c_Reader T.t_Reader_block (fn_Reader_block T) (hr.mono (by decide)) pc (pa_cons (pe_gi T.i_DEEPEST_IF) pa_nil)))
      (pss_cons (ps_if (pt_cmpR op_lt (pe_fld (pv 0) rfl) (pe_callB call_len_seq (by rfl) T.f_len PySem.boot_len (pa_cons (pe_fld (pv 0) rfl) pa_nil)) (nomark _)) (pss_one (ps_never)) (pss_nil))
      (pss_one (ps_ret (StX.pe_makeR T.m_Game (fn_Game_init T) (hr.mono (by decide)) rfl T.g_Game pc (pa_cons (pv 1) (pa_cons (pv 3) pa_nil)))))))), ?_⟩
  refine ⟨(by show 0 ≤ sizeLine; decide), fun c nc => ?_⟩
  obtain ⟨dx, lw, ln, W, aa, hp, hw, hn, _, _, _, hL⟩ := id hr0
  have hc1 : c ≠ L.1 := fun z => by rw [← hL] at z; rw [← (show c = lw from z), nc] at hw; cases hw
  have hc2 : c ≠ L.2 := fun z => by rw [← hL] at z; rw [← (show c = ln from z), nc] at hn; cases hn
  have hcp : c ≠ p := fun z => by rw [← z, nc] at hp; cases hp
  have hpn : L.2 ≠ p := by rw [← hL]; exact lst_ne hp hn
  clear hp hw hn hL
  have hcB := ex_none e nc
  have e0 : Ex B (upd H c (.lst [])) := Ex.mut e hcB
  dsimp only [gName, tSeq]
  refine while_by (fun σ H' => ∃ (i : Nat) (B' : Hp) (vs : List V) (v2 : Option V), i ≤ xs.length ∧ Stp [c, p, L.2] B (upd H c (.lst [])) B' H' ∧ H' c = some (.lst vs) ∧ DpAll K B' vs ((xs.take i).map varD) ∧ Rd_ K p L ((xs.take i).map Prod.fst) (gW (xs.drop i) ws) 0 0 H' ∧ B' p = none ∧ B' L.2 = none ∧
      σ = [some (.ref p), some (.ref c), v2, none])
    (fun _ H' => match H' c with | some (.lst xs) => 10 - xs.length | _ => 0) ⟨0, B, [], none, Nat.zero_le _, Stp.refl e0, upd_same, .nil, hr0.put hcp hc1 hc2, hb, hbn, rfl⟩ ?_ ?_
  · rintro σ H1 ⟨i, B1, vs, v2, hi, s1, hc, hd, hr1, hb1, hbn1, rfl⟩
    have hvl := dp_all_len hd
    rw [List.length_map, List.length_take] at hvl
    have hl5 := hg.l5
    obtain ⟨dx, lw, ln, W, aa, hp, hw, hn, hdr, ha, hl⟩ := id hr1
    refine ⟨_, rfl, p, dx, _, rfl, hp, rfl, L, p, _, _, 0, 0, rfl, hr1, ?_⟩
    rcases Nat.lt_or_ge i xs.length with hlt | hge
    · -- one more
      have hdi : xs.drop i = xs[i] :: xs.drop (i + 1) := List.drop_eq_getElem_cons hlt
      have hxi := hg.ok _ (List.getElem_mem hlt)
      have hti : xs.take (i + 1) = xs.take i ++ [xs[i]] := by rw [List.take_add_one, List.getElem?_eq_getElem hlt]; rfl
      rw [hdi, gW_cons] at hr1 hdr ⊢
      refine ⟨rfl, _, rfl, ite2 (fun _ => ?_) fun c => absurd rfl c⟩
      refine ⟨_, rfl, c, _, rfl, .inl (SqL.of hc), _, _, rfl, rfl, _, rfl, ite2 (fun _ => ?_) fun c => absurd (decide_eq_true (by omega)) c⟩
      refine ⟨_, rfl, p, _, _, _, _, rfl, hp, T.c_Reader, T.a_Reader_at, rfl, _, _, rfl, rfl, _, _, hp, (by show 5 < 1000; decide), ?_⟩
      have s2 := s1.trans (Stp.put (ms := [c, p, L.2]) (o := .ins (ga K "Reader") dx (putF "at" (.int ((aa : Int) + 1)) (rdF lw ln aa 0 0))) s1.in_ hb1 (by simp))
      have hr2 := rd_at hp hw hn hdr hl
      have hc_2 : (upd H1 p (.ins (ga K "Reader") dx (putF "at" (.int ((aa : Int) + 1)) (rdF lw ln aa 0 0)))) c = _ := (upd_ne hcp).trans hc
      obtain ⟨dx2, lw2, ln2, W2, aa2, hp2, hw2, hn2, hdr2, ha2, hl2⟩ := id hr2
      refine ⟨_, rfl, p, dx2, _, rfl, hp2, rfl, L, p, _, _, 0, 0, rfl, hr2, ?_⟩
      refine ⟨_, rfl, xs[i].1, rfl, hxi.1, fun H3 x3 => ?_⟩
      refine ⟨_, rfl, iteF ?_⟩
      have hni : xs[i].1 ∉ (xs.take i).map Prod.fst := by
        have h1 := hg.nd
        have h2 : (xs.take (i + 1)).map Prod.fst = (xs.map Prod.fst).take (i + 1) := by rw [List.map_take]
        have h3 : ((xs.take (i + 1)).map Prod.fst).Nodup := by rw [h2]; exact h1.sublist (List.take_sublist _ _)
        rw [hti, List.map_append, List.nodup_append] at h3
        intro z
        exact h3.2.2 _ z _ (List.mem_singleton.mpr rfl) rfl
      refine ⟨_, rfl, _, rfl, p, _, _, _, _, rfl, x3 _ _ hp2, T.c_Reader, T.a_Reader_names, rfl, ln2, _, rfl, .inl (SqL.of (x3 _ _ hn2)), rfl, flat_strs _, _, rfl, ite2 (fun c => ?_) fun _ => ?_⟩
      · have c' : inV (.str xs[i].1) (((xs.take i).map Prod.fst).map V.str) = true := c
        rw [inV_strs, decide_eq_false hni] at c'
        exact Bool.noConfusion c'
      have s3 := s2.trans (Stp.ofEx (ms := [c, p, L.2]) s2.in_ x3)
      refine ⟨_, rfl, p, _, _, _, _, rfl, x3 _ _ hp2, T.c_Reader, T.a_Reader_at, rfl, _, _, rfl, rfl, _, _, x3 _ _ hp2, (by show 5 < 1000; decide), ?_⟩
      have s4 := s3.trans (Stp.put (ms := [c, p, L.2]) (o := .ins (ga K "Reader") dx2 (putF "at" (.int ((aa2 : Int) + 1)) (rdF lw2 ln2 aa2 0 0))) s3.in_ hb1 (by simp))
      have hr4 := rd_at (x3 _ _ hp2) (x3 _ _ hw2) (x3 _ _ hn2) hdr2 hl2
      have hc4 : (upd H3 p (.ins (ga K "Reader") dx2 (putF "at" (.int ((aa2 : Int) + 1)) (rdF lw2 ln2 aa2 0 0)))) c = _ := (upd_ne hcp).trans (x3 _ _ hc_2)
      obtain ⟨dx4, lw4, ln4, W4, aa4, hp4, _⟩ := id hr4
      refine ⟨_, rfl, .inl ⟨rfl, _, SqL.of hc4⟩, _, rfl, _, rfl, p, dx4, _, rfl, hp4, rfl, B1, L, p, _, _, 1, 65535, xs[i].2, 0, 0, rfl, s4.in_, hb1, hr4, by omega, hxi.2.2, hxi.2.1, hxi.2.2, fun H5 t5 hr5 => ?_⟩
      have s5 := s4.trans (t5.wk (ns := [c, p, L.2]) (by simp))
      have hc5 := t5.fr c _ (by simpa using hcp) hc4
      refine ⟨(by show 2 ≤ sizeLine; decide), fun u nu => ?_⟩
      have t6 := Stp.new (ms := []) (o := .tup [V.str xs[i].1, V.int xs[i].2]) s5.in_ nu
      have s6 := s5.trans t6.nil
      have hc6 := t6.fr c _ (by simp) hc5
      have hr6 := hr5.stp t6
      have hcB6 := s6.off hcB upd_same
      have hb6 : (upd B1 u (.tup [V.str xs[i].1, V.int xs[i].2])) p = none := by
        obtain ⟨dx5, lw5, ln5, W5, aa5, hp5, _⟩ := id hr5
        exact t6.off hb1 hp5
      have hbn6 : (upd B1 u (.tup [V.str xs[i].1, V.int xs[i].2])) L.2 = none := by
        obtain ⟨dx5, lw5, ln5, W5, aa5, hp5, hw5, hn5, _, _, _, hL5⟩ := id hr5
        exact t6.off hbn1 (by rw [← hL5]; exact hn5)
      refine ⟨c, _, _, rfl, rfl, hc6, small1000 (by omega), ?_⟩
      have s7 := s6.trans (Stp.put (ms := [c, p, L.2]) (o := .lst (vs ++ [.ref u])) s6.in_ hcB6 (.head _))
      have hr7 : Rd_ K p L _ _ 0 0 (upd (upd H5 u (.tup [V.str xs[i].1, V.int xs[i].2])) c (.lst (vs ++ [.ref u]))) := hr6.put hcp hc1 hc2
      obtain ⟨dx7, lw7, ln7, W7, aa7, hp7, hw7, hn7, _, _, _, hL7⟩ := id hr7
      refine ⟨_, rfl, p, _, _, _, _, rfl, hp7, T.c_Reader, T.a_Reader_names, rfl, .inl ⟨rfl, _, SqL.of hn7⟩, _, rfl, ln7, _, _, rfl, rfl, hn7, small1000 (by rw [List.length_map, List.length_map, List.length_take]; omega), ?_⟩
      have e7 : ln7 = L.2 := by rw [← hL7]
      subst e7
      have hr8 := hr7.names (N2 := (xs.take (i + 1)).map Prod.fst) hnw
      have em : ((xs.take (i + 1)).map Prod.fst).map V.str = ((xs.take i).map Prod.fst).map V.str ++ [V.str xs[i].1] := by rw [hti, List.map_append, List.map_append]; rfl
      rw [em] at hr8
      refine ⟨⟨i + 1, _, vs ++ [.ref u], _, hlt, s7.trans (Stp.put s7.in_ hbn6 (by simp)), (upd_ne hc2).trans upd_same, ?_, hr8, hb6, hbn6, rfl⟩, ?_⟩
      · rw [hti, List.map_append]
        exact dpa_app (dpa_mono t6.base hd) (.tup (SqT.of upd_same) (.cons (.str _) (.cons (.int _) .nil)))
      · show (match (upd (upd (upd H5 u (.tup [V.str xs[i].1, V.int xs[i].2])) c (.lst (vs ++ [.ref u]))) L.2 _) c with | some (.lst xs) => 10 - xs.length | _ => 0) < (match H1 c with | some (.lst xs) => 10 - xs.length | _ => 0)
        rw [upd_ne hc2, upd_same, hc]
        show 10 - (vs ++ [V.ref u]).length < 10 - vs.length
        rw [List.length_append, List.length_singleton]
        omega
    · -- all read
      have hix : i = xs.length := by omega
      subst hix
      rw [List.drop_length] at hr1 ⊢
      rw [List.take_length] at hr1 hd
      refine ⟨rfl, _, rfl, ite2 (fun c => absurd (V.str.inj (of_decide_eq_true c)) ib.head) fun _ => iteF ?_⟩
      have hr1' : Rd_ K p L (xs.map Prod.fst) (ws ++ []) 0 0 H1 := by rw [List.append_nil]; exact hr1
      have hst : StopW [] := by
        show ("" : Str) ∉ STM_
        decide +kernel
      refine ⟨_, rfl, p, dx, _, rfl, hp, rfl, B1, L, p, _, 0, 0, ds, ws, [], b9, m9, rfl, s1.in_, hb1, hg.names, hr1', ib, by have := hg.l9; omega, hst, fun v3 B3 H3 t3 hr3 hd3 => ?_⟩
      have s3 := s1.trans (t3.wk (ns := [c, p, L.2]) (by simp))
      have hc3 := t3.fr c _ (by simpa using hcp) hc
      obtain ⟨dx3, lw3, ln3, W3, aa3, hp3, hw3, hn3, hdr3, ha3, hl3⟩ := id hr3
      have hend : W3.length ≤ aa3 := by
        have := congrArg List.length hdr3
        rw [List.length_drop, List.length_nil] at this
        omega
      refine ⟨_, rfl, p, _, _, _, _, rfl, hp3, T.c_Reader, T.a_Reader_at, rfl, _, rfl, p, _, _, _, _, rfl, hp3, T.c_Reader, T.a_Reader_words, rfl, lw3, _, rfl, .inl (SqL.of hw3), _, _, rfl, rfl, _, rfl, ite2 (fun c => ?_) fun _ => ?_⟩
      · have := of_decide_eq_true c
        rw [List.length_map] at this
        omega
      obtain ⟨a3, vs3, rfl, sq3, dq3⟩ := dp_tup hd3
      refine ⟨_, rfl, _, rfl, mk_game (E := E) (d1 := xs.map varD) (d2 := ds) s3.in_ ⟨vs, .inl (SqL.of hc3), dpa_mono t3.base hd⟩ ⟨vs3, .inr sq3, dq3⟩ fun g B4 H4 t4 hg4 => ?_⟩
      exact k g B4 H4 ((Stp.with nc s3).trans t4.nil) hg4
  · rintro σ H' Q1 Q2 f ⟨v, e1, a, dx, fs, h1, h2, h3, L', p', N', R', b', m', e3, h4, hf, b, e4, q⟩
    refine ⟨v, e1, a, dx, fs, h1, h2, h3, L', p', N', R', b', m', e3, h4, hf, b, e4, ?_⟩
    by_cases hbt : b = true
    · rw [if_pos hbt] at q ⊢
      obtain ⟨v2, g1, a2, xs2, g2, g3, i2, j2, g4, g5, k2, g6, q⟩ := q
      exact ⟨v2, g1, a2, xs2, g2, g3, i2, j2, g4, g5, k2, g6, f _ _ q⟩
    · rw [if_neg hbt] at q ⊢
      exact f _ _ q
end
end LL
namespace LL
open PySem PySem.Spec PyProof.Rows L2 He Evl
section
variable {P : Program} {w : World} {K : PySem.W.Frag} {mg : Str → Option Value} {base : Heap}
def spReadG (K : PySem.W.Frag) : Sp := fun vs H Q _ => ∃ (B : Hp) (xs : List (Str × Int)) (ds : List PyData) (ws : List Str), vs = [.str (txt (gW xs ws))] ∧ Ex B H ∧ IsG xs ds ws ∧ ∀ (g : V) (B2 H2 : Hp), Stp [] B H B2 H2 → GameAt K B2 g (xs.map varD) ds → Q g H2
theorem fn_read_game (T : Txt K mg) : Fn P w K mg base 24 (ga K "read_game") (spReadG K) := by
  refine fn_def T.d_read_game sc_read_game (fun _ _ _ _ _ _ us hl => match us, hl with | [_], _ => rfl) (fun vs H Q E h => ?_) (fun cdv A outer s H vs Q E hr h => ?_)
  · obtain ⟨B, xs, ds, ws, rfl, _⟩ := h
    rfl
  obtain ⟨B, xs, ds, ws, rfl, e, hg, k⟩ := h
  have nd := sc_read_game.nd
  refine ⟨_, pss_one (ps_ret (pe_methR0 (StX.pe_makeR T.m_Reader (fn_Reader_init T) (hr.mono (by decide)) rfl T.g_Reader pc (pa_cons (pv 0) pa_nil)) T.c_Reader T.t_Reader_game (fn_Reader_game T) (hr.mono (by decide)) pc)), ?_⟩
  refine ⟨_, rfl, fun x dx nx ndx ne => ?_⟩
  have t1 := Stp.new (ms := []) (o := .own x) e ndx
  have nx1 : (upd H dx (.own x)) x = none := by rw [upd_ne ne.symm]; exact nx
  have t2 := Stp.cell (ms := []) (o := .ins (ga K "Reader") dx []) t1.in_ nx1
  have s2 := t1.trans t2
  refine ⟨_, x, dx, gW xs ws, rfl, s2.in_, ex_none t1.in_ nx1, upd_same, hg.wok, hg.len, fun B3 H3 lw ln s3 hr3 hbn hnw hb3 hn0 => ⟨rfl, ?_⟩⟩
  obtain ⟨dx3, lw3, ln3, W3, aa3, hp3, _⟩ := id hr3
  refine ⟨x, dx3, _, rfl, hp3, rfl, B3, (lw, ln), x, xs, ds, ws, rfl, s3.in_, hb3, hbn, hnw, hg, hr3, fun g B4 H4 s4 hg4 => ?_⟩
  have hnH : H ln = none := by
    cases hh : H ln with
    | none => rfl
    | some o => exact absurd hn0 (s2.al ln (by rw [hh]; exact fun z => nomatch z))
  have s5 := ((s2.nil (ns := [x, ln])).trans (s3.wk (by simp))).trans s4
  exact k g B4 H4 ((s5.drop nx).drop hnH) hg4
theorem fn_ew1 (T : Txt K mg) (n : Nat) (hn : n ≤ 5) (IH : Fn P w K mg base n (ga K "expression_words") (spVW K n)) : Fn P w K mg base (n + 1) (ga K "expression_words") (spVW K (n + 1)) := by
  refine fn_def T.d_expression_words sc_expression_words (fun _ _ _ _ _ _ us hl => match us, hl with | [_], _ => rfl) (fun vs H Q E h => ?_) (fun cdv A outer s H vs Q E hr h => ?_)
  · obtain ⟨x, ns, d, ws, rfl, _⟩ := h
    rfl
  obtain ⟨x, ns, d, ws, rfl, hd, ie, k⟩ := h
  have nd := sc_expression_words.nd
  refine ⟨_, pss_cons (ps_if (pt_cmpR op_eq (pe_callB call_len_seq (by rfl) T.f_len PySem.boot_len (pa_cons (pv 0) pa_nil)) (pe_int) (nomark _)) (pss_one (ps_ret (pe_lst (pa_cons (pe_callTy call_strIS (by rfl) T.f_str (by decide +kernel) (pa_cons (pe_ix ix_tup (pv 0) (pe_int) (fun _ _ => rfl)) pa_nil)) pa_nil)))) (pss_nil))
      (pss_one (ps_ret (pe_lst (pa_cons (pe_ix ix_tup (pv 0) (pe_int) (fun _ _ => rfl)) (StX.pa_star (pe_fn T.d_expression_words IH hr T.g_expression_words pc (pa_cons (pe_ix ix_tup (pv 0) (pe_int) (fun _ _ => rfl)) pa_nil)) (StX.pa_star (pe_fn T.d_expression_words IH hr T.g_expression_words pc (pa_cons (pe_ix ix_tup (pv 0) (pe_int) (fun _ _ => rfl)) pa_nil)) pa_nil)))))), ?_⟩
  cases ie with
  | @num _ i h0 h1 =>
    obtain ⟨a, vs, rfl, sx, dx⟩ := dp_tup hd
    obtain ⟨_, rfl, dx1⟩ := dpa_s dx
    obtain ⟨_, rfl, dx2⟩ := dpa_i dx1
    cases dpa_n dx2
    refine ⟨_, rfl, a, _, rfl, .inr sx, rfl, _, rfl, ite2 (fun _ => ?_) fun c => absurd rfl c⟩
    exact ⟨_, rfl, a, _, _, _, rfl, rfl, sx, rfl, .inl ⟨i, rfl, log_small h0 h1, (by show 1 ≤ sizeLine; decide), fun l nl => k l _ (Ex.new nl) nl upd_same⟩⟩
  | @var _ x h =>
    obtain ⟨a, vs, rfl, sx, dx⟩ := dp_tup hd
    obtain ⟨_, rfl, dx1⟩ := dpa_s dx
    obtain ⟨_, rfl, dx2⟩ := dpa_s dx1
    cases dpa_n dx2
    refine ⟨_, rfl, a, _, rfl, .inr sx, rfl, _, rfl, ite2 (fun _ => ?_) fun c => absurd rfl c⟩
    exact ⟨_, rfl, a, _, _, _, rfl, rfl, sx, rfl, .inr ⟨x, rfl, (by show 1 ≤ sizeLine; decide), fun l nl => k l _ (Ex.new nl) nl upd_same⟩⟩
  | @op _ sg da db wa wb hs ha hb =>
    obtain ⟨a, vs, rfl, sx, dx⟩ := dp_tup hd
    obtain ⟨_, rfl, dx1⟩ := dpa_s dx
    obtain ⟨va, _, rfl, hva, dx2⟩ := dpa_c dx1
    obtain ⟨vb, _, rfl, hvb, dx3⟩ := dpa_c dx2
    cases dpa_n dx3
    have la := len63 ha (by omega)
    have lb := len63 hb (by omega)
    refine ⟨_, rfl, a, _, rfl, .inr sx, rfl, _, rfl, ite2 (fun c => ?_) fun _ => ?_⟩
    · exact absurd (of_decide_eq_true c) (fun z => absurd (V.int.inj z) (by show ¬ (3 : Int) = 2; decide))
    refine ⟨_, rfl, a, _, _, _, rfl, rfl, sx, rfl, _, rfl, a, _, _, _, rfl, rfl, sx, rfl, va, ns, da, wa, rfl, hva, ha, fun l1 H1 x1 n1 h1 => ?_⟩
    refine ⟨l1, _, rfl, .inr (SqL.of h1), _, rfl, a, _, _, _, rfl, rfl, ex_t x1 sx, rfl, vb, ns, db, wb, rfl, dp_mono x1 hvb, hb, fun l2 H2 x2 n2 h2 => ?_⟩
    refine ⟨l2, _, rfl, .inr (SqL.of h2), big_ (by simp; omega), fun l nl => ?_⟩
    have e2 := x1.trans x2
    refine k l _ (e2.trans (Ex.new nl)) (fresh_back e2 nl) ?_
    rw [upd_same]
    simp
theorem fn_ew (T : Txt K mg) : ∀ n, n ≤ 6 → Fn P w K mg base n (ga K "expression_words") (spVW K n)
  | 0, _ => fun _ _ _ _ _ _ _ _ _ _ _ ⟨_, _, _, _, _, _, h, _⟩ => nomatch h
  | n + 1, h => fn_ew1 T n (by omega) (fn_ew T n (by omega))
theorem fn_expression_words (T : Txt K mg) : Fn P w K mg base 7 (ga K "expression_words") (spVW K 6) := (fn_ew T 6 (by decide)).mono (by decide)
end
end LL
namespace LL
open PySem PySem.Spec PyProof.Rows L2 He Evl
section
variable {P : Program} {w : World} {K : PySem.W.Frag} {mg : Str → Option Value} {base : Heap}
theorem fn_pbw1 (T : Txt K mg) (r : Nat) (hr4 : r ≤ 4) (IH : Fn P w K mg base (7 + r) (ga K "block_words") (spBWP K r)) : Fn P w K mg base (7 + r + 1) (ga K "block_words") (spBW K r) := by
  refine fn_def T.d_block_words sc_block_words (fun _ _ _ _ _ _ us hl => match us, hl with | [_], _ => rfl) (fun vs H Q E h => ?_) (fun cdv A outer s H vs Q E hr h => ?_)
  · obtain ⟨x, ns, b, m, b2, m2, ds, ws, rfl, _⟩ := h
    rfl
  obtain ⟨x, ns, b, m, b2, m2, ds, ws, rfl, hd, ib, h9, k⟩ := h
  have nd := sc_block_words.nd
  have hr1 : Room 7 _ := hr.mono (by omega)
  refine ⟨_, pss_cons (ps_set (i := 1) nd rfl (by first | exact Or.inl rfl | exact Or.inr rfl) (pe_lst pa_nil))
      (pss_cons (ps_for (passes_of rfl) rfl (pi_tup (pv 0)) (pg_name (i := 2) nd rfl (by first | exact Or.inl rfl | exact Or.inr rfl)) (pss_one (ps_if (pt_cmpR op_eq (pe_ix ix_tup (pv 2) (pe_int) (fun _ _ => rfl)) (pe_str) (nomark _)) (pss_cons (ps_expr (pe_bm PySem.F.plainAttrs_list PySem.F.slot_list_extend PySem.F.type_list_extend mt_extend (pv 1) (pa_cons (pe_lst (pa_cons (pe_str) (StX.pa_star (pe_fn T.d_expression_words (fn_expression_words T) hr1 T.g_expression_words pc (pa_cons (pe_ix ix_tup (pv 2) (pe_int) (fun _ _ => rfl)) pa_nil)) (StX.pa_star (pe_fn T.d_block_words IH hr T.g_block_words pc (pa_cons (pe_ix ix_tup (pv 2) (pe_int) (fun _ _ => rfl)) pa_nil)) pa_nil)))) pa_nil)))
      (Evl.pss_cut (ps_if (pt_truth (pe_ix ix_tup (pv 2) (pe_int) (fun _ _ => rfl)) (by intro _; rfl)) (pss_one (ps_expr (pe_bm PySem.F.plainAttrs_list PySem.F.slot_list_extend PySem.F.type_list_extend mt_extend (pv 1) (pa_cons (pe_lst (pa_cons (pe_str) (StX.pa_star (pe_fn T.d_block_words IH hr T.g_block_words pc (pa_cons (pe_ix ix_tup (pv 2) (pe_int) (fun _ _ => rfl)) pa_nil)) pa_nil))) pa_nil)))) (pss_nil))
      (pss_one (ps_expr (pe_bm PySem.F.plainAttrs_list PySem.F.slot_list_append PySem.F.type_list_append mt_append (pv 1) (pa_cons (pe_str) pa_nil)))))) (pss_one (ps_if (pt_cmpR op_in_seq (pe_ix ix_tup (pv 2) (pe_int) (fun _ _ => rfl)) (pe_tup (pa_cons (pe_str) (pa_cons (pe_str) (pa_cons (pe_str) pa_nil)))) rfl) (pss_one (ps_expr (pe_bm PySem.F.plainAttrs_list PySem.F.slot_list_extend PySem.F.type_list_extend mt_extend (pv 1) (pa_cons (pe_lst (pa_cons (pe_ix ix_tup (pv 2) (pe_int) (fun _ _ => rfl)) (pa_cons (pe_ix ix_tup (pv 2) (pe_int) (fun _ _ => rfl)) (pa_cons (pe_callTy call_strIS (by rfl) T.f_str (by decide +kernel) (pa_cons (pe_ix ix_tup (pv 2) (pe_int) (fun _ _ => rfl)) pa_nil)) pa_nil)))) pa_nil)))) (pss_one (ps_expr (pe_bm PySem.F.plainAttrs_list PySem.F.slot_list_extend PySem.F.type_list_extend mt_extend (pv 1) (pa_cons (pe_lst (StX.pa_star (pe_slice sl_tup (pv 2) po_none (po_some (pe_un un_neg (pe_int)))) (StX.pa_star (pe_fn T.d_expression_words (fn_expression_words T) hr1 T.g_expression_words pc (pa_cons (pe_ix ix_tup (pv 2) (pe_un un_neg (pe_int)) (fun _ _ => rfl)) pa_nil)) pa_nil))) pa_nil)))))))))
      (pss_one (ps_ret (pv 1)))), ?_⟩
  obtain ⟨a, vs, rfl, sx, dx⟩ := dp_tup hd
  have hbig := ib.big hr4 h9
  refine ⟨(by show 0 ≤ sizeLine; decide), fun l nl => ?_⟩
  refine ⟨_, rfl, a, rfl, ⟨vs, ex_t (Ex.new nl) sx⟩, for_tup (xs := vs) (fun i σ H' => ∃ (w1 w2 : List Str) (b' m' : Nat) (v2 : Option V), Ex H H' ∧ H' l = some (.lst (w1.map V.str)) ∧ IsB ns r b' m' b2 m2 (ds.drop i) w2 ∧ ws = w1 ++ w2 ∧ σ = [some (.ref a), some (.ref l), v2]) ?_ ?_ ?_ ?_⟩
  · exact ⟨[], ws, b, m, none, Ex.new nl, upd_same, ib, rfl, rfl⟩
  · rintro i σ H' _ ⟨_, _, _, _, _, e, _⟩
    exact ex_t e sx
  · rintro i x σ H1 hx ⟨w1, w2, b', m', v2, e1, hl1, ib2, rfl, rfl⟩
    rw [List.length_append] at hbig
    have hi : i < vs.length := (List.getElem?_eq_some_iff.mp hx).1
    obtain ⟨x', d, hx', hdd, hxd⟩ := dp_all_get dx hi
    rw [hx] at hx'
    cases hx'
    rw [drop_one hdd] at ib2
    cases ib2 with
    | @pay _ _ _ _ _ s e we _ w3 hs he h =>
      obtain ⟨ar, vr, rfl, sr, d0⟩ := dp_tup hxd
      obtain ⟨_, rfl, d1⟩ := dpa_s d0
      obtain ⟨ve, _, rfl, hve, d4⟩ := dpa_c d1
      cases dpa_n d4
      have hm := mvN _ (show s ∈ _ by rcases List.mem_cons.mp hs with rfl | hs; exact .head _; rw [List.mem_singleton.mp hs]; exact .tail _ (.head _))
      have l63 := len63 he (Nat.le_refl _)
      simp only [List.length_cons, List.length_append] at hbig
      refine ⟨_, rfl, ar, _, _, _, rfl, rfl, ex_t e1 sr, rfl, rfl, _, rfl, ite2 (fun c => absurd (V.str.inj (of_decide_eq_true c)) hm.1) fun _ => ?_⟩
      refine ⟨_, rfl, ar, _, _, _, rfl, rfl, ex_t e1 sr, rfl, (by show 3 ≤ sizeLine; decide), fun t nt => ⟨t, MV_.map V.str, rfl, .inr (SqT.of upd_same), rfl, flat_strs _, _, rfl, ite2 (fun c => ?_) fun _ => ?_⟩⟩
      · have c' : inV (.str _) (MV_.map V.str) = true := c
        rw [inV_strs] at c'
        exact absurd (of_decide_eq_true c') hm.2
      have e2 := e1.trans (Ex.new (o := .tup (MV_.map V.str)) nt)
      have hl2 := (Ex.new (o := .tup (MV_.map V.str)) nt) _ _ hl1
      refine ⟨_, rfl, .inl ⟨rfl, _, SqL.of hl2⟩, _, rfl, _, rfl, _, rfl, ar, _, rfl, ex_t e2 sr, (by show ¬ (HT.sIx 2 0 none = 0 ∧ HT.sIx 2 2 (some (-1)) = 2); decide), fun t2 nt2 => ?_⟩
      have e3 := e2.trans (Ex.new (o := .tup [V.str s]) nt2)
      have hl3 := (Ex.new (o := .tup [V.str s]) nt2) _ _ hl2
      refine ⟨t2, [V.str s], rfl, .inl (SqT.of upd_same), _, rfl, _, rfl, ar, _, _, _, rfl, rfl, ex_t e3 sr, rfl, ve, ns, _, _, rfl, dp_mono e3 hve, he, fun l4 H4 x4 n4 h4 => ?_⟩
      have e4 := e3.trans x4
      refine ⟨l4, _, rfl, .inr (SqL.of h4), big_ (by simp; omega), fun l5 nl5 => ?_⟩
      have e5 := e4.trans (Ex.new (o := .lst ([V.str s] ++ (we.map V.str ++ []))) nl5)
      refine ⟨l, l5, _, _, rfl, rfl, (Ex.new nl5) _ _ (x4 _ _ hl3), upd_same, big_ (by simp; omega), ?_⟩
      refine ⟨w1 ++ [s] ++ we, _, b', m', _, Ex.mut e5 nl, ?_, h, ?_, rfl⟩
      · rw [upd_same]; simp
      · simp
    | @show_ _ _ _ _ _ s e we _ w3 hs he h =>
      obtain ⟨ar, vr, rfl, sr, d0⟩ := dp_tup hxd
      obtain ⟨_, rfl, d1⟩ := dpa_s d0
      obtain ⟨_, rfl, d2⟩ := dpa_s d1
      obtain ⟨ve, _, rfl, hve, d4⟩ := dpa_c d2
      cases dpa_n d4
      have hm := mvN _ (show ("show" : Str) ∈ _ from .tail _ (.tail _ (.head _)))
      have l63 := len63 he (Nat.le_refl _)
      simp only [List.length_cons, List.length_append] at hbig
      refine ⟨_, rfl, ar, _, _, _, rfl, rfl, ex_t e1 sr, rfl, rfl, _, rfl, ite2 (fun c => absurd (V.str.inj (of_decide_eq_true c)) hm.1) fun _ => ?_⟩
      refine ⟨_, rfl, ar, _, _, _, rfl, rfl, ex_t e1 sr, rfl, (by show 3 ≤ sizeLine; decide), fun t nt => ⟨t, MV_.map V.str, rfl, .inr (SqT.of upd_same), rfl, flat_strs _, _, rfl, ite2 (fun c => ?_) fun _ => ?_⟩⟩
      · have c' : inV (.str _) (MV_.map V.str) = true := c
        rw [inV_strs] at c'
        exact absurd (of_decide_eq_true c') hm.2
      have e2 := e1.trans (Ex.new (o := .tup (MV_.map V.str)) nt)
      have hl2 := (Ex.new (o := .tup (MV_.map V.str)) nt) _ _ hl1
      refine ⟨_, rfl, .inl ⟨rfl, _, SqL.of hl2⟩, _, rfl, _, rfl, _, rfl, ar, _, rfl, ex_t e2 sr, (by show ¬ (HT.sIx 3 0 none = 0 ∧ HT.sIx 3 3 (some (-1)) = 3); decide), fun t2 nt2 => ?_⟩
      have e3 := e2.trans (Ex.new (o := .tup [V.str "show", V.str s]) nt2)
      have hl3 := (Ex.new (o := .tup [V.str "show", V.str s]) nt2) _ _ hl2
      refine ⟨t2, [V.str "show", V.str s], rfl, .inl (SqT.of upd_same), _, rfl, _, rfl, ar, _, _, _, rfl, rfl, ex_t e3 sr, rfl, ve, ns, _, _, rfl, dp_mono e3 hve, he, fun l4 H4 x4 n4 h4 => ?_⟩
      have e4 := e3.trans x4
      refine ⟨l4, _, rfl, .inr (SqL.of h4), big_ (by simp; omega), fun l5 nl5 => ?_⟩
      have e5 := e4.trans (Ex.new (o := .lst ([V.str "show", V.str s] ++ (we.map V.str ++ []))) nl5)
      refine ⟨l, l5, _, _, rfl, rfl, (Ex.new nl5) _ _ (x4 _ _ hl3), upd_same, big_ (by simp; omega), ?_⟩
      refine ⟨w1 ++ [("show" : Str), s] ++ we, _, b', m', _, Ex.mut e5 nl, ?_, h, ?_, rfl⟩
      · rw [upd_same]; simp
      · simp
    | @set_ _ _ _ _ _ s e we _ w3 hs he h =>
      obtain ⟨ar, vr, rfl, sr, d0⟩ := dp_tup hxd
      obtain ⟨_, rfl, d1⟩ := dpa_s d0
      obtain ⟨_, rfl, d2⟩ := dpa_s d1
      obtain ⟨ve, _, rfl, hve, d4⟩ := dpa_c d2
      cases dpa_n d4
      have hm := mvN _ (show ("set" : Str) ∈ _ from .tail _ (.tail _ (.tail _ (.head _))))
      have l63 := len63 he (Nat.le_refl _)
      simp only [List.length_cons, List.length_append] at hbig
      refine ⟨_, rfl, ar, _, _, _, rfl, rfl, ex_t e1 sr, rfl, rfl, _, rfl, ite2 (fun c => absurd (V.str.inj (of_decide_eq_true c)) hm.1) fun _ => ?_⟩
      refine ⟨_, rfl, ar, _, _, _, rfl, rfl, ex_t e1 sr, rfl, (by show 3 ≤ sizeLine; decide), fun t nt => ⟨t, MV_.map V.str, rfl, .inr (SqT.of upd_same), rfl, flat_strs _, _, rfl, ite2 (fun c => ?_) fun _ => ?_⟩⟩
      · have c' : inV (.str _) (MV_.map V.str) = true := c
        rw [inV_strs] at c'
        exact absurd (of_decide_eq_true c') hm.2
      have e2 := e1.trans (Ex.new (o := .tup (MV_.map V.str)) nt)
      have hl2 := (Ex.new (o := .tup (MV_.map V.str)) nt) _ _ hl1
      refine ⟨_, rfl, .inl ⟨rfl, _, SqL.of hl2⟩, _, rfl, _, rfl, _, rfl, ar, _, rfl, ex_t e2 sr, (by show ¬ (HT.sIx 3 0 none = 0 ∧ HT.sIx 3 3 (some (-1)) = 3); decide), fun t2 nt2 => ?_⟩
      have e3 := e2.trans (Ex.new (o := .tup [V.str "set", V.str s]) nt2)
      have hl3 := (Ex.new (o := .tup [V.str "set", V.str s]) nt2) _ _ hl2
      refine ⟨t2, [V.str "set", V.str s], rfl, .inl (SqT.of upd_same), _, rfl, _, rfl, ar, _, _, _, rfl, rfl, ex_t e3 sr, rfl, ve, ns, _, _, rfl, dp_mono e3 hve, he, fun l4 H4 x4 n4 h4 => ?_⟩
      have e4 := e3.trans x4
      refine ⟨l4, _, rfl, .inr (SqL.of h4), big_ (by simp; omega), fun l5 nl5 => ?_⟩
      have e5 := e4.trans (Ex.new (o := .lst ([V.str "set", V.str s] ++ (we.map V.str ++ []))) nl5)
      refine ⟨l, l5, _, _, rfl, rfl, (Ex.new nl5) _ _ (x4 _ _ hl3), upd_same, big_ (by simp; omega), ?_⟩
      refine ⟨w1 ++ [("set" : Str), s] ++ we, _, b', m', _, Ex.mut e5 nl, ?_, h, ?_, rfl⟩
      · rw [upd_same]; simp
      · simp
    | @draw _ _ _ _ _ s n _ w3 hs h0 h1 hb h =>
      obtain ⟨ar, vr, rfl, sr, d0⟩ := dp_tup hxd
      obtain ⟨_, rfl, d1⟩ := dpa_s d0
      obtain ⟨_, rfl, d2⟩ := dpa_s d1
      obtain ⟨_, rfl, d3⟩ := dpa_i d2
      cases dpa_n d3
      have hm : ("draw" : Str) ∈ MV_ := .head _
      simp only [List.length_cons] at hbig
      refine ⟨_, rfl, ar, _, _, _, rfl, rfl, ex_t e1 sr, rfl, rfl, _, rfl, ite2 (fun c => absurd (V.str.inj (of_decide_eq_true c)) (mvI _ hm)) fun _ => ?_⟩
      refine ⟨_, rfl, ar, _, _, _, rfl, rfl, ex_t e1 sr, rfl, (by show 3 ≤ sizeLine; decide), fun t nt => ⟨t, MV_.map V.str, rfl, .inr (SqT.of upd_same), rfl, flat_strs _, _, rfl, ite2 (fun _ => ?_) fun c => ?_⟩⟩
      rotate_left
      · have c' : ¬ inV (.str _) (MV_.map V.str) = true := c
        rw [inV_strs] at c'
        exact absurd (decide_eq_true hm) c'
      have e2 := e1.trans (Ex.new (o := .tup (MV_.map V.str)) nt)
      have hl2 := (Ex.new (o := .tup (MV_.map V.str)) nt) _ _ hl1
      refine ⟨_, rfl, .inl ⟨rfl, _, SqL.of hl2⟩, _, rfl, ar, _, _, _, rfl, rfl, ex_t e2 sr, rfl, _, rfl, ar, _, _, _, rfl, rfl, ex_t e2 sr, rfl, _, rfl, ar, _, _, _, rfl, rfl, ex_t e2 sr, rfl, .inl ⟨_, rfl, log_small (by omega) (by omega), (by show 3 ≤ sizeLine; decide), fun l2 nl2 => ?_⟩⟩
      have e3 := e2.trans (Ex.new (o := .lst [V.str ("draw" : Str), V.str s, V.str (istr n)]) nl2)
      refine ⟨l, l2, _, _, rfl, rfl, (Ex.new nl2) _ _ hl2, upd_same, big_ (by simp; omega), ?_⟩
      refine ⟨w1 ++ [("draw" : Str), s, istr n], _, _, _, _, Ex.mut e3 nl, ?_, h, ?_, rfl⟩
      · rw [upd_same]; simp
      · simp
    | @move _ _ _ _ _ c s n _ w3 hc hs h0 h1 hb h =>
      obtain ⟨ar, vr, rfl, sr, d0⟩ := dp_tup hxd
      obtain ⟨_, rfl, d1⟩ := dpa_s d0
      obtain ⟨_, rfl, d2⟩ := dpa_s d1
      obtain ⟨_, rfl, d3⟩ := dpa_i d2
      obtain ⟨_, rfl, d4⟩ := dpa_i d3
      cases dpa_n d4
      have hm : c ∈ MV_ := (.tail _ hc)
      simp only [List.length_cons] at hbig
      refine ⟨_, rfl, ar, _, _, _, rfl, rfl, ex_t e1 sr, rfl, rfl, _, rfl, ite2 (fun c => absurd (V.str.inj (of_decide_eq_true c)) (mvI _ hm)) fun _ => ?_⟩
      refine ⟨_, rfl, ar, _, _, _, rfl, rfl, ex_t e1 sr, rfl, (by show 3 ≤ sizeLine; decide), fun t nt => ⟨t, MV_.map V.str, rfl, .inr (SqT.of upd_same), rfl, flat_strs _, _, rfl, ite2 (fun _ => ?_) fun c => ?_⟩⟩
      rotate_left
      · have c' : ¬ inV (.str _) (MV_.map V.str) = true := c
        rw [inV_strs] at c'
        exact absurd (decide_eq_true hm) c'
      have e2 := e1.trans (Ex.new (o := .tup (MV_.map V.str)) nt)
      have hl2 := (Ex.new (o := .tup (MV_.map V.str)) nt) _ _ hl1
      refine ⟨_, rfl, .inl ⟨rfl, _, SqL.of hl2⟩, _, rfl, ar, _, _, _, rfl, rfl, ex_t e2 sr, rfl, _, rfl, ar, _, _, _, rfl, rfl, ex_t e2 sr, rfl, _, rfl, ar, _, _, _, rfl, rfl, ex_t e2 sr, rfl, .inl ⟨_, rfl, log_small (by omega) (by omega), (by show 3 ≤ sizeLine; decide), fun l2 nl2 => ?_⟩⟩
      have e3 := e2.trans (Ex.new (o := .lst [V.str c, V.str s, V.str (istr n)]) nl2)
      refine ⟨l, l2, _, _, rfl, rfl, (Ex.new nl2) _ _ hl2, upd_same, big_ (by simp; omega), ?_⟩
      refine ⟨w1 ++ [c, s, istr n], _, _, _, _, Ex.mut e3 nl, ?_, h, ?_, rfl⟩
      · rw [upd_same]; simp
      · simp
    | @ite r' _ _ b3 m3 b4 m4 _ _ e we wt wo w3 ts os _ he ht ho lt lo h =>
      obtain ⟨ar, vr, rfl, sr, d0⟩ := dp_tup hxd
      obtain ⟨_, rfl, d1⟩ := dpa_s d0
      obtain ⟨ve, _, rfl, hve, d2⟩ := dpa_c d1
      obtain ⟨vt, _, rfl, hvt, d3⟩ := dpa_c d2
      obtain ⟨vo, _, rfl, hvo, d4⟩ := dpa_c d3
      cases dpa_n d4
      simp only [List.length_cons, List.length_append] at hbig
      refine ⟨_, rfl, ar, _, _, _, rfl, rfl, ex_t e1 sr, rfl, rfl, _, rfl, ite2 (fun _ => ?_) fun c => absurd rfl c⟩
      refine ⟨_, rfl, .inl ⟨rfl, _, SqL.of hl1⟩, _, rfl, ar, _, _, _, rfl, rfl, ex_t e1 sr, rfl, ve, ns, _, _, rfl, dp_mono e1 hve, he, fun l4 H4 x4 n4 h4 => ?_⟩
      have e4 := e1.trans x4
      refine ⟨l4, _, rfl, .inr (SqL.of h4), _, rfl, ar, _, _, _, rfl, rfl, ex_t e4 sr, rfl, vt, ns, _, _, _, _, ts, wt, rfl, dp_mono e4 hvt, ht, by omega, fun l6 H6 x6 n6 h6 => ?_⟩
      have e6 := e4.trans x6
      refine ⟨l6, _, rfl, .inr (SqL.of h6), big_ (by simp; omega), fun l7 nl7 => ?_⟩
      have e7 := e6.trans (Ex.new (o := .lst (V.str "if" :: (we.map V.str ++ (wt.map V.str ++ [])))) nl7)
      refine ⟨l, l7, _, _, rfl, rfl, (Ex.new nl7) _ _ (x6 _ _ (x4 _ _ hl1)), upd_same, big_ (by simp; omega), ?_⟩
      have e8 : Ex H (upd (upd H6 l7 (.lst (V.str "if" :: (we.map V.str ++ (wt.map V.str ++ []))))) l (.lst (w1.map V.str ++ V.str "if" :: (we.map V.str ++ (wt.map V.str ++ []))))) := Ex.mut e7 nl
      refine ⟨fun σ H' => Ex H H' ∧ H' l = some (.lst ((w1 ++ (("if" : Str) :: we ++ wt ++ elseW os wo)).map V.str)) ∧ σ = [some (.ref a), some (.ref l), some (.ref ar)], ?_, ?_⟩
      · obtain ⟨ao, vso, rfl, so, do_⟩ := dp_tup hvo
        have hol := dp_all_len do_
        refine ⟨_, rfl, ar, _, _, _, rfl, rfl, ex_t e8 sr, rfl, _, .inr (.inl ⟨_, ex_t e8 so, rfl⟩), ite2 (fun c => ?_) fun c => ?_⟩
        · have hn : os ≠ [] := fun z => by
            rw [z] at hol
            cases vso with
            | nil => exact absurd c (by decide)
            | cons _ _ => exact absurd hol (by simp)
          have hew : elseW os wo = ("else" : Str) :: wo := if_neg hn
          rw [hew] at hbig ⊢
          simp only [List.length_cons] at hbig
          refine ⟨_, rfl, .inl ⟨rfl, _, SqL.of upd_same⟩, _, rfl, ar, _, _, _, rfl, rfl, ex_t e8 sr, rfl, .ref ao, ns, _, _, _, _, os, wo, rfl, dp_mono e8 hvo, ho, by omega, fun l10 H10 x10 n10 h10 => ?_⟩
          refine ⟨l10, _, rfl, .inr (SqL.of h10), big_ (by simp; omega), fun l11 nl11 => ?_⟩
          refine ⟨l, l11, _, _, rfl, rfl, (Ex.new nl11) _ _ (x10 _ _ upd_same), upd_same, big_ (by simp; omega), ?_⟩
          refine ⟨Ex.mut ((e8.trans x10).trans (Ex.new nl11)) nl, ?_, rfl⟩
          rw [upd_same]
          simp
        · have hn : os = [] := by
            cases os with
            | nil => rfl
            | cons z zs =>
              exfalso
              apply c
              cases vso with
              | nil => exact absurd hol (by simp)
              | cons _ _ => rfl
          have hew : elseW os wo = [] := if_pos hn
          rw [hew]
          refine ⟨e8, ?_, rfl⟩
          rw [upd_same]
          simp
      rintro σ H8 ⟨e8, h8, rfl⟩
      refine ⟨_, rfl, .inl ⟨rfl, _, SqL.of h8⟩, l, _, _, rfl, rfl, h8, ?_, ?_⟩
      · rw [List.length_map, List.length_append, List.length_append, List.length_append, List.length_cons]
        have := big_ (n := 1000000) (by decide)
        omega
      · refine ⟨w1 ++ (("if" : Str) :: we ++ wt ++ elseW os wo ++ [("end" : Str)]), w3, _, _, _, Ex.mut e8 nl, ?_, h, ?_, rfl⟩
        · rw [upd_same]; simp
        · simp
  · rintro σ H1 ⟨w1, w2, b', m', v2, e1, hl1, ib2, rfl, rfl⟩
    rw [dp_all_len dx, List.drop_length] at ib2
    cases ib2
    refine ⟨_, rfl, k l _ e1 nl ?_⟩
    rw [hl1, List.append_nil]
theorem fn_pbw (T : Txt K mg) : ∀ r, r ≤ 4 → Fn P w K mg base (7 + r + 1) (ga K "block_words") (spBW K r)
  | 0, h => fn_pbw1 T 0 h (fun _ _ _ _ _ _ _ _ _ _ _ h => h.elim)
  | r + 1, h => fn_pbw1 T (r + 1) h (fn_pbw T r (by omega))
theorem fn_block_words (T : Txt K mg) : Fn P w K mg base 12 (ga K "block_words") (spBW K 4) := fn_pbw T 4 (by decide)
end
end LL
namespace LL
open PySem PySem.Spec PyProof.Rows L2 He Evl
theorem sum8 : ∀ (W : List Str), (∀ x ∈ W, WOk x) → (W.map (·.length)).sum ≤ W.length * 8
  | [], _ => Nat.zero_le _
  | x :: W, h => by
    have h1 := (h x (.head _)).2.1
    have h2 := sum8 W fun y hy => h y (.tail _ hy)
    rw [List.map_cons, List.sum_cons, List.length_cons, Nat.add_mul]
    omega
theorem gW_snoc {xs : List (Str × Int)} {x : Str × Int} : gW (xs ++ [x]) [] = gW xs [] ++ [("var" : Str), x.1, istr x.2] := by
  unfold gW
  rw [List.flatMap_append]
  simp
theorem gW_app {xs : List (Str × Int)} {ws : List Str} : gW xs ws = gW xs [] ++ ws := by
  unfold gW
  simp
theorem IsG.joinOk {xs : List (Str × Int)} {ds : List PyData} {ws : List Str} (h : IsG xs ds ws) : ((gW xs ws).map (·.length)).sum + (gW xs ws).length * (" " : Str).length ≤ 16777216 := by
  have h1 := sum8 _ h.wok
  have h2 := h.len
  have h3 : (" " : Str).length = 1 := rfl
  rw [h3]
  omega
section
variable {P : Program} {w : World} {K : PySem.W.Frag} {mg : Str → Option Value} {base : Heap}
theorem dp_var2 {H : Hp} {v : V} {x : Str × Int} (h : Dp K H v (varD x)) : ∃ u, v = .ref u ∧ SqT K H u [.str x.1, .int x.2] := by
  obtain ⟨u, us, rfl, su, d0⟩ := dp_tup h
  obtain ⟨_, rfl, d1⟩ := dpa_s d0
  obtain ⟨_, rfl, d2⟩ := dpa_i d1
  cases dpa_n d2
  exact ⟨u, rfl, su⟩
theorem nth_var {H : Hp} {vs : List V} {xs : List (Str × Int)} (dx : DpAll K H vs (xs.map varD)) {i : Nat} {x : V} (hx : vs[i]? = some x) : ∃ (hi : i < xs.length), Dp K H x (varD xs[i]) ∧ xs.take (i + 1) = xs.take i ++ [xs[i]] := by
  have hi : i < vs.length := (List.getElem?_eq_some_iff.mp hx).1
  have hl := dp_all_len dx
  rw [List.length_map] at hl
  obtain ⟨x', d, hx', hdd, hxd⟩ := dp_all_get dx hi
  rw [hx] at hx'
  cases hx'
  have hix : i < xs.length := by omega
  rw [List.getElem?_map, List.getElem?_eq_getElem hix] at hdd
  cases hdd
  exact ⟨hix, hxd, by rw [List.take_add_one, List.getElem?_eq_getElem hix]; rfl⟩
def spGText (K : PySem.W.Frag) : Sp := fun vs H Q _ => ∃ (g : V) (xs : List (Str × Int)) (ds : List PyData) (ws : List Str), vs = [g] ∧ GameAt K H g (xs.map varD) ds ∧ IsG xs ds ws ∧ ∀ H2, Ex H H2 → Q (.str (txt (gW xs ws))) H2
theorem fn_game_text (T : Txt K mg) : Fn P w K mg base 13 (ga K "game_text") (spGText K) := by
  refine fn_def T.d_game_text sc_game_text (fun _ _ _ _ _ _ us hl => match us, hl with | [_], _ => rfl) (fun vs H Q E h => ?_) (fun cdv A outer s H vs Q E hr h => ?_)
  · obtain ⟨g, xs, ds, ws, rfl, _⟩ := h
    rfl
  obtain ⟨g, xs, ds, ws, rfl, ⟨a, dx, v1, v2, rfl, ha, hv1, hv2⟩, hg, k⟩ := h
  have nd := sc_game_text.nd
  refine ⟨_, pss_cons (ps_set (i := 1) nd rfl (by first | exact Or.inl rfl | exact Or.inr rfl) (pe_lst pa_nil))
      (pss_cons (ps_for (passes_of rfl) rfl (pi_tup (pe_fld (pv 0) rfl)) (pg_tup rfl (pgs_cons (pg_name (i := 2) nd rfl (by first | exact Or.inl rfl | exact Or.inr rfl)) (pgs_cons (pg_name (i := 3) nd rfl (by first | exact Or.inl rfl | exact Or.inr rfl)) pgs_nil))) (pss_one (ps_expr (pe_bm PySem.F.plainAttrs_list PySem.F.slot_list_extend PySem.F.type_list_extend mt_extend (pv 1) (pa_cons (pe_lst (pa_cons (pe_str) (pa_cons (pv 2) (pa_cons (pe_callTy call_str_int (by rfl) T.f_str (by decide +kernel) (pa_cons (pv 3) pa_nil)) pa_nil)))) pa_nil)))))
      (pss_one (ps_ret (pe_join (pe_str) (pe_op op_cat (pv 1) (pe_fn T.d_block_words (fn_block_words T) (hr.mono (by decide)) T.g_block_words pc (pa_cons (pe_fld (pv 0) rfl) pa_nil))))))), ?_⟩
  obtain ⟨t1, vs, rfl, st, dv⟩ := dp_tup hv1
  have hl5 := hg.l5
  refine ⟨(by show 0 ≤ sizeLine; decide), fun l nl => ?_⟩
  have e0 : Ex H (upd H l (.lst [])) := Ex.new nl
  refine ⟨_, rfl, a, _, dx, _, _, rfl, e0 _ _ ha, T.c_Game, T.a_Game_variables, rfl, t1, rfl, ⟨vs, ex_t e0 st⟩, for_tup (xs := vs) (fun i σ H' => ∃ (u2 u3 : Option V), Ex H H' ∧ H' l = some (.lst ((gW (xs.take i) []).map V.str)) ∧ σ = [some (.ref a), some (.ref l), u2, u3]) ?_ ?_ ?_ ?_⟩
  · exact ⟨none, none, e0, upd_same, rfl⟩
  · rintro i σ H' _ ⟨_, _, e, _⟩
    exact ex_t e st
  · rintro i x σ H1 hx ⟨u2, u3, e1, hl1, rfl⟩
    obtain ⟨hi, hxd, htk⟩ := nth_var dv hx
    obtain ⟨u, rfl, su⟩ := dp_var2 hxd
    have hok := hg.ok _ (List.getElem_mem hi)
    have hgl := gW_len (xs.take i) []
    rw [List.length_take, List.length_nil] at hgl
    refine ⟨u, _, rfl, ex_t e1 su, rfl, _, _, rfl, _, _, rfl, rfl, ?_⟩
    refine ⟨_, rfl, .inl ⟨rfl, _, SqL.of hl1⟩, _, rfl, _, rfl, _, rfl, log_small (by omega) hok.2.2, (by show 3 ≤ sizeLine; decide), fun l2 nl2 => ?_⟩
    have e2 := e1.trans (Ex.new (o := .lst [V.str "var", V.str xs[i].1, V.str (istr xs[i].2)]) nl2)
    refine ⟨l, l2, _, _, rfl, rfl, (Ex.new nl2) _ _ hl1, upd_same, big_ (by rw [List.length_map]; show _ + 3 ≤ _; omega), ?_⟩
    refine ⟨_, _, Ex.mut e2 nl, ?_, rfl⟩
    rw [upd_same, htk, gW_snoc, List.map_append]
    rfl
  · rintro σ H1 ⟨u2, u3, e1, hl1, rfl⟩
    have hvl := dp_all_len dv
    rw [List.length_map] at hvl
    rw [hvl, List.take_length] at hl1
    obtain ⟨b, m, ib⟩ := id hg.rows
    have hgl := gW_len xs []
    rw [List.length_nil] at hgl
    have hb := ib.big (by omega) hg.l9
    refine ⟨⟨_, rfl⟩, _, rfl, _, rfl, a, _, dx, _, _, rfl, e1 _ _ ha, T.c_Game, T.a_Game_block, rfl, v2, _, 0, 0, b, m, ds, ws, rfl, dp_mono e1 hv2, ib, hg.l9, fun l4 H4 x4 n4 h4 => ?_⟩
    refine ⟨l, l4, _, _, rfl, rfl, x4 _ _ hl1, h4, big_ (by rw [List.length_map, List.length_map]; omega), fun l5 nl5 => ?_⟩
    refine ⟨" ", l5, gW xs ws, rfl, rfl, .inl (SqL.of (by rw [upd_same, gW_app (ws := ws), List.map_append])), hg.joinOk, k _ ((e1.trans x4).trans (Ex.new nl5))⟩
/-- the law's words of a game -/
def spLW (K : PySem.W.Frag) : Sp := fun vs H Q _ => ∃ (x : V) (xs : List (Str × Int)) (ds : List PyData) (ws : List Str), vs = [x] ∧ Dp K H x (.tuple [.tuple (xs.map varD), .tuple ds]) ∧ IsG xs ds ws ∧ ∀ (l : Addr) (H2 : Hp), Ex H H2 → H2 l = some (.lst ((gW xs ws).map V.str)) → Q (.ref l) H2
theorem fn_l_words (T : Txt K mg) : Fn P w K mg base 13 (ga K "_law_words") (spLW K) := by
  refine fn_def T.d_l_words sc_l_words (fun _ _ _ _ _ _ us hl => match us, hl with | [_], _ => rfl) (fun vs H Q E h => ?_) (fun cdv A outer s H vs Q E hr h => ?_)
  · obtain ⟨x, xs, ds, ws, rfl, _⟩ := h
    rfl
  obtain ⟨x, xs, ds, ws, rfl, hd, hg, k⟩ := h
  have nd := sc_l_words.nd
  refine ⟨_, pss_cons (ps_set (i := 1) nd rfl (by first | exact Or.inl rfl | exact Or.inr rfl) (pe_lst pa_nil))
      (pss_cons (ps_for (passes_of rfl) rfl (pi_tup (pe_ix ix_tup (pv 0) (pe_int) (fun _ _ => rfl))) (pg_tup rfl (pgs_cons (pg_name (i := 2) nd rfl (by first | exact Or.inl rfl | exact Or.inr rfl)) (pgs_cons (pg_name (i := 3) nd rfl (by first | exact Or.inl rfl | exact Or.inr rfl)) pgs_nil))) (pss_one (ps_set (i := 1) nd rfl (by first | exact Or.inl rfl | exact Or.inr rfl) (pe_op op_cat (pv 1) (pe_lst (pa_cons (pe_str) (pa_cons (pv 2) (pa_cons (pe_callTy call_str_int (by rfl) T.f_str (by decide +kernel) (pa_cons (pv 3) pa_nil)) pa_nil))))))))
      (pss_one (ps_ret (pe_op op_cat (pv 1) (pe_fn T.d_l_block_words (fn_l_block_words T) (hr.mono (by decide)) T.g_l_block_words pc (pa_cons (pe_ix ix_tup (pv 0) (pe_int) (fun _ _ => rfl)) pa_nil)))))), ?_⟩
  obtain ⟨a, us, rfl, sa, d0⟩ := dp_tup hd
  obtain ⟨v1, _, rfl, hv1, d1⟩ := dpa_c d0
  obtain ⟨v2, _, rfl, hv2, d2⟩ := dpa_c d1
  cases dpa_n d2
  obtain ⟨t1, vs, rfl, st, dv⟩ := dp_tup hv1
  have hl5 := hg.l5
  refine ⟨(by show 0 ≤ sizeLine; decide), fun l0 nl0 => ?_⟩
  have e0 : Ex H (upd H l0 (.lst [])) := Ex.new nl0
  refine ⟨_, rfl, a, _, _, _, rfl, rfl, ex_t e0 sa, rfl, t1, rfl, ⟨vs, ex_t e0 st⟩, for_tup (xs := vs) (fun i σ H' => ∃ (l : Addr) (u2 u3 : Option V), Ex H H' ∧ H' l = some (.lst ((gW (xs.take i) []).map V.str)) ∧ σ = [some (.ref a), some (.ref l), u2, u3]) ?_ ?_ ?_ ?_⟩
  · exact ⟨l0, none, none, e0, upd_same, rfl⟩
  · rintro i σ H' _ ⟨_, _, _, e, _⟩
    exact ex_t e st
  · rintro i x σ H1 hx ⟨l, u2, u3, e1, hl1, rfl⟩
    obtain ⟨hi, hxd, htk⟩ := nth_var dv hx
    obtain ⟨u, rfl, su⟩ := dp_var2 hxd
    have hok := hg.ok _ (List.getElem_mem hi)
    have hgl := gW_len (xs.take i) []
    rw [List.length_take, List.length_nil] at hgl
    refine ⟨u, _, rfl, ex_t e1 su, rfl, _, _, rfl, _, _, rfl, rfl, ?_⟩
    refine ⟨_, rfl, _, rfl, _, rfl, _, rfl, log_small (by omega) hok.2.2, (by show 3 ≤ sizeLine; decide), fun l2 nl2 => ?_⟩
    have e2 := e1.trans (Ex.new (o := .lst [V.str "var", V.str xs[i].1, V.str (istr xs[i].2)]) nl2)
    refine ⟨l, l2, _, _, rfl, rfl, (Ex.new nl2) _ _ hl1, upd_same, big_ (by rw [List.length_map]; show _ + 3 ≤ _; omega), fun l3 nl3 => ?_⟩
    refine ⟨l3, _, _, e2.trans (Ex.new nl3), ?_, rfl⟩
    rw [upd_same, htk, gW_snoc, List.map_append]
    rfl
  · rintro σ H1 ⟨l, u2, u3, e1, hl1, rfl⟩
    have hvl := dp_all_len dv
    rw [List.length_map] at hvl
    rw [hvl, List.take_length] at hl1
    obtain ⟨b, m, ib⟩ := id hg.rows
    have hgl := gW_len xs []
    rw [List.length_nil] at hgl
    have hb := ib.big (by omega) hg.l9
    refine ⟨_, rfl, _, rfl, a, _, _, _, rfl, rfl, ex_t e1 sa, rfl, v2, _, 0, 0, b, m, ds, ws, rfl, dp_mono e1 hv2, ib, hg.l9, fun l4 H4 x4 n4 h4 => ?_⟩
    refine ⟨l, l4, _, _, rfl, rfl, x4 _ _ hl1, h4, big_ (by rw [List.length_map, List.length_map]; omega), fun l5 nl5 => ?_⟩
    exact k l5 _ ((e1.trans x4).trans (Ex.new nl5)) (by rw [upd_same, gW_app (ws := ws), List.map_append])
end
end LL
namespace LL
open PySem PySem.Spec PyProof.Rows L2 He Evl
section
variable {P : Program} {w : World} {K : PySem.W.Frag} {mg : Str → Option Value} {base : Heap}
def spGEq (K : PySem.W.Frag) : Sp := fun vs H Q _ => ∃ (g h : V) (d1 d2 e1 e2 : List PyData), vs = [g, h] ∧ GameAt K H g d1 d2 ∧ GameAt K H h e1 e2 ∧ SeqAt.shaped (.tuple [.tuple d1, .tuple d2]) = true ∧ SeqAt.shaped (.tuple [.tuple e1, .tuple e2]) = true ∧
  ∀ H2, Ex H H2 → Q (.bl (PyData.eqv (.tuple [.tuple d1, .tuple d2]) (.tuple [.tuple e1, .tuple e2]))) H2
theorem fn_Game_eq (T : Txt K mg) : Fn P w K mg base 1 (ma K (ga K "Game") "__eq__") (spGEq K) := by
  refine fn_def T.d_Game_eq sc_Game_eq (fun _ _ _ _ _ _ us hl => match us, hl with | [_, _], _ => rfl) (fun vs H Q E h => ?_) (fun cdv A outer s H vs Q E hr h => ?_)
  · obtain ⟨g, h, d1, d2, e1, e2, rfl, _⟩ := h
    rfl
  obtain ⟨g, h, d1, d2, e1', e2', rfl, ⟨a, dx, v1, v2, rfl, ha, hv1, hv2⟩, ⟨b, dy, u1, u2, rfl, hb, hu1, hu2⟩, s1, s2, k⟩ := h
  have nd := sc_Game_eq.nd
  refine ⟨_, pss_one (ps_ret (pe_and (pe_callB call_isi (by rfl) T.f_isinstance (by decide +kernel) (pa_cons (pv 1) (pa_cons (pe_gr T.g_Game) pa_nil))) (pe_one (pe_cmpR (op_eqD hr.units) (pe_tup (pa_cons (pe_fld (pv 0) rfl) (pa_cons (pe_fld (pv 0) rfl) pa_nil))) (pe_tup (pa_cons (pe_fld (pv 1) rfl) (pa_cons (pe_fld (pv 1) rfl) pa_nil))) (nomark _))))), ?_⟩
  refine ⟨_, rfl, .ref b, .ref (ga K "Game"), .ref (ga K "Game"), .ref (ga K "Game"), true, rfl, .own _, .base (.ins hb T.c_Game T.oc_Game T.og T.ot T.om_Game), T.ki_Game_Game, true, rfl, ?_⟩
  rw [if_pos rfl]
  refine ⟨_, rfl, a, _, dx, _, _, rfl, ha, T.c_Game, T.a_Game_variables, rfl, _, rfl, a, _, dx, _, _, rfl, ha, T.c_Game, T.a_Game_block, rfl, (by show 2 ≤ sizeLine; decide), fun t nt => ?_⟩
  have e1 : Ex H (upd H t (.tup [v1, v2])) := Ex.new nt
  refine ⟨_, rfl, b, _, dy, _, _, rfl, e1 _ _ hb, T.c_Game, T.a_Game_variables, rfl, _, rfl, b, _, dy, _, _, rfl, e1 _ _ hb, T.c_Game, T.a_Game_block, rfl, (by show 2 ≤ sizeLine; decide), fun t2 nt2 => ?_⟩
  have x2 : Ex (upd H t (.tup [v1, v2])) (upd (upd H t (.tup [v1, v2])) t2 (.tup [u1, u2])) := Ex.new nt2
  have e2 := e1.trans x2
  exact ⟨.tuple [.tuple d1, .tuple d2], .tuple [.tuple e1', .tuple e2'], .tup (SqT.of (x2 _ _ upd_same)) (.cons (dp_mono e2 hv1) (.cons (dp_mono e2 hv2) .nil)), .tup (SqT.of upd_same) (.cons (dp_mono e2 hu1) (.cons (dp_mono e2 hu2) .nil)), s1, s2, k _ e2⟩
end
end LL
namespace LL
open PySem PySem.Spec PyProof.Rows L2 He Evl
/-- data of depth n that the rules of == and _law_same take -/
def Gd (n : Nat) (d : PyData) : Prop := Dep n d ∧ d.canLay0 = true ∧ d.depth ≤ n
theorem gd_int {n : Nat} {i : Int} : Gd n (.int i) := ⟨by cases n <;> simp [Dep], rfl, Nat.zero_le _⟩
theorem gd_str {n : Nat} {x : Str} (h : (PyData.str x).canLay0 = true) : Gd n (.str x) := ⟨by cases n <;> simp [Dep], h, Nat.zero_le _⟩
theorem canAll : ∀ {ds : List PyData}, (∀ d ∈ ds, d.canLay0 = true) → PyData.canLayAll0 ds = true
  | [], _ => rfl
  | d :: ds, h => by
    show (d.canLay0 && PyData.canLayAll0 ds) = true
    rw [h d (.head _), canAll fun e he => h e (.tail _ he)]
    rfl
theorem depAll {n : Nat} : ∀ {ds : List PyData}, (∀ d ∈ ds, d.depth ≤ n) → PyData.depthAll ds ≤ n
  | [], _ => Nat.zero_le _
  | d :: ds, h => Nat.max_le.mpr ⟨h d (.head _), depAll fun e he => h e (.tail _ he)⟩
theorem gd_tup {n : Nat} {ds : List PyData} (hl : ds.length ≤ 100000) (h : ∀ d ∈ ds, Gd n d) : Gd (n + 1) (.tuple ds) :=
  ⟨⟨hl, fun d hd => (h d hd).1⟩, canAll fun d hd => (h d hd).2.1, Nat.succ_le_succ (depAll fun d hd => (h d hd).2.2)⟩
theorem gd_lst {n : Nat} {ds : List PyData} (hl : ds.length ≤ 100000) (h : ∀ d ∈ ds, Gd n d) : Gd (n + 1) (.list ds) :=
  ⟨⟨hl, fun d hd => (h d hd).1⟩, canAll fun d hd => (h d hd).2.1, Nat.succ_le_succ (depAll fun d hd => (h d hd).2.2)⟩
theorem dep_mono : ∀ {n m : Nat} {d : PyData}, Dep n d → n ≤ m → Dep m d
  | 0, m, d, h, _ => by
    cases d <;> first | (cases m <;> simp [Dep] at h ⊢) | exact h.elim
  | n + 1, 0, _, _, l => absurd l (by omega)
  | n + 1, m + 1, d, h, l => by
    cases d with
    | list ds => exact ⟨h.1, fun e he => dep_mono (h.2 e he) (by omega)⟩
    | tuple ds => exact ⟨h.1, fun e he => dep_mono (h.2 e he) (by omega)⟩
    | dict kvs => simp [Dep] at h
    | none => simp [Dep]
    | bool b => simp [Dep]
    | int i => simp [Dep]
    | str x => simp [Dep]
theorem Gd.mono {n m : Nat} {d : PyData} (h : Gd n d) (l : n ≤ m) : Gd m d := ⟨dep_mono h.1 l, h.2.1, Nat.le_trans h.2.2 l⟩
theorem name_ok {x : Str} (h : IsName x) : (PyData.str x).canLay0 = true := by
  show x.cps.all (· < 0x110000) = true
  rw [← Array.all_toList, List.all_eq_true]
  intro c hc
  have := h.lo c hc
  exact decide_eq_true (by omega)
theorem gd_c : ∀ x ∈ (["number", "variable", "set", "draw", "choose", "come", "show", "chooser", "comer", "pay", "take", "if", "+", "-", "*", "/", "mod", "<", "="] : List Str), (PyData.str x).canLay0 = true := by decide +kernel
theorem IsE.gd {ns : List Str} (hN : ∀ x ∈ ns, IsName x) {n : Nat} {d : PyData} {ws : List Str} (h : IsE ns n d ws) : Gd n d := by
  induction h with
  | num h0 h1 =>
    refine gd_tup (by simp) ?_
    intro d hd
    simp only [List.mem_cons, List.not_mem_nil, or_false] at hd
    rcases hd with rfl | rfl
    · exact gd_str (gd_c _ (by simp))
    · exact gd_int
  | var h =>
    refine gd_tup (by simp) ?_
    intro d hd
    simp only [List.mem_cons, List.not_mem_nil, or_false] at hd
    rcases hd with rfl | rfl
    · exact gd_str (gd_c _ (by simp))
    · exact gd_str (name_ok (hN _ h))
  | op hs _ _ iha ihb =>
    refine gd_tup (by simp) ?_
    intro d hd
    simp only [List.mem_cons, List.not_mem_nil, or_false] at hd
    rcases hd with rfl | rfl | rfl
    · refine gd_str (gd_c _ ?_)
      exact List.mem_append_right (["number", "variable", "set", "draw", "choose", "come", "show", "chooser", "comer", "pay", "take", "if"] : List Str) (show _ ∈ (["+", "-", "*", "/", "mod", "<", "="] : List Str) from hs)
    · exact iha
    · exact ihb
theorem IsB.gd {ns : List Str} (hN : ∀ x ∈ ns, IsName x) {r b m b1 m1 : Nat} {ds : List PyData} {ws : List Str} (h : IsB ns r b m b1 m1 ds ws) : ∀ d ∈ ds, Gd (7 + 2 * r) d := by
  induction h with
  | nil => exact fun _ h => nomatch h
  | pay hs he h ih =>
    intro d hd
    rcases List.mem_cons.mp hd with rfl | hd
    · refine Gd.mono (n := 7) (gd_tup (by simp) ?_) (by omega)
      intro d hd
      simp only [List.mem_cons, List.not_mem_nil, or_false] at hd hs
      rcases hd with rfl | rfl
      · exact gd_str (gd_c _ (by rcases hs with rfl | rfl <;> simp))
      · exact he.gd hN
    · exact ih d hd
  | show_ hs he h ih =>
    intro d hd
    rcases List.mem_cons.mp hd with rfl | hd
    · refine Gd.mono (n := 7) (gd_tup (by simp) ?_) (by omega)
      intro d hd
      simp only [List.mem_cons, List.not_mem_nil, or_false] at hd hs
      rcases hd with rfl | rfl | rfl
      · exact gd_str (gd_c _ (by simp))
      · exact gd_str (gd_c _ (by rcases hs with rfl | rfl <;> simp))
      · exact he.gd hN
    · exact ih d hd
  | set_ hs he h ih =>
    intro d hd
    rcases List.mem_cons.mp hd with rfl | hd
    · refine Gd.mono (n := 7) (gd_tup (by simp) ?_) (by omega)
      intro d hd
      simp only [List.mem_cons, List.not_mem_nil, or_false] at hd
      rcases hd with rfl | rfl | rfl
      · exact gd_str (gd_c _ (by simp))
      · exact gd_str (name_ok (hN _ hs))
      · exact he.gd hN
    · exact ih d hd
  | draw hs h0 h1 hb h ih =>
    intro d hd
    rcases List.mem_cons.mp hd with rfl | hd
    · refine Gd.mono (n := 7) (gd_tup (by simp) ?_) (by omega)
      intro d hd
      simp only [List.mem_cons, List.not_mem_nil, or_false] at hd
      rcases hd with rfl | rfl | rfl
      · exact gd_str (gd_c _ (by simp))
      · exact gd_str (name_ok (hN _ hs))
      · exact gd_int
    · exact ih d hd
  | move hc hs h0 h1 hb h ih =>
    intro d hd
    rcases List.mem_cons.mp hd with rfl | hd
    · refine Gd.mono (n := 7) (gd_tup (by simp) ?_) (by omega)
      intro d hd
      simp only [List.mem_cons, List.not_mem_nil, or_false] at hd hc
      rcases hd with rfl | rfl | rfl | rfl
      · exact gd_str (gd_c _ (by rcases hc with rfl | rfl <;> simp))
      · exact gd_str (name_ok (hN _ hs))
      · exact gd_int
      · exact gd_int
    · exact ih d hd
  | @ite r _ _ _ _ _ _ _ _ _ _ _ _ _ ts os _ he ht ho lt lo h iht iho ih =>
    intro d hd
    rcases List.mem_cons.mp hd with rfl | hd
    · refine Gd.mono (n := (7 + 2 * r + 1) + 1) (gd_tup (by simp) ?_) (by omega)
      intro d hd
      simp only [List.mem_cons, List.not_mem_nil, or_false] at hd
      rcases hd with rfl | rfl | rfl | rfl
      · exact gd_str (gd_c _ (by simp))
      · exact (he.gd hN).mono (by omega)
      · exact gd_tup (by omega) iht
      · exact gd_tup (by omega) iho
    · exact ih d hd
theorem gd_var {x : Str × Int} (h : IsName x.1) : Gd 1 (varD x) := by
  refine gd_tup (by simp) ?_
  intro d hd
  simp only [List.mem_cons, List.not_mem_nil, or_false] at hd
  rcases hd with rfl | rfl
  · exact gd_str (name_ok h)
  · exact gd_int
/-- the parts of a game -/
theorem IsG.gv {xs : List (Str × Int)} {ds : List PyData} {ws : List Str} (h : IsG xs ds ws) : ∀ d ∈ xs.map varD, Gd 15 d := by
  intro d hd
  obtain ⟨x, hx, rfl⟩ := List.mem_map.mp hd
  exact (gd_var (h.ok x hx).1).mono (by decide)
theorem IsG.gb {xs : List (Str × Int)} {ds : List PyData} {ws : List Str} (h : IsG xs ds ws) : ∀ d ∈ ds, Gd 15 d := by
  obtain ⟨b, m, ib⟩ := h.rows
  exact ib.gd h.names
theorem gd_pair {d1 d2 : List PyData} (l1 : d1.length ≤ 100000) (l2 : d2.length ≤ 100000) (h1 : ∀ d ∈ d1, Gd 15 d) (h2 : ∀ d ∈ d2, Gd 15 d) : Gd 17 (.tuple [.tuple d1, .tuple d2]) ∧ Gd 17 (.list [.tuple d1, .tuple d2]) := by
  have hh : ∀ d ∈ [PyData.tuple d1, .tuple d2], Gd 16 d := by
    intro d hd
    simp only [List.mem_cons, List.not_mem_nil, or_false] at hd
    rcases hd with rfl | rfl
    · exact gd_tup l1 h1
    · exact gd_tup l2 h2
  exact ⟨gd_tup (by simp) hh, gd_lst (by simp) hh⟩
theorem Gd.shaped {n : Nat} {d : PyData} (h : Gd n d) (hn : n ≤ 64) : SeqAt.shaped d = true := by
  unfold SeqAt.shaped
  rw [h.2.1, decide_eq_true (Nat.le_trans h.2.2 hn)]
  rfl
end LL
namespace LL
open PySem PySem.Spec PyProof.Rows L2 He Evl
theorem dpa_appA {K : PySem.W.Frag} {H : Hp} : ∀ {vs : List V} {ds : List PyData}, DpAll K H vs ds → ∀ {us : List V} {es : List PyData}, DpAll K H us es → DpAll K H (vs ++ us) (ds ++ es)
  | _, _, .nil, _, _, h => h
  | _, _, .cons h1 h2, _, _, h => .cons h1 (dpa_appA h2 h)
section
variable {P : Program} {w : World} {K : PySem.W.Frag} {mg : Str → Option Value} {base : Heap}
def spLaw (K : PySem.W.Frag) : Sp := fun vs H Q _ => ∃ (a : Addr) (ns : List Int), vs = [.ref a] ∧ SqL K H a (ns.map V.int) ∧ ns.length ≤ 63 ∧ ∀ H', Q (.bl true) H'
/-- a base for the pool: all but the pool -/
theorem base_pool {p : Addr} {H : Hp} {P : Pl} (h : PoolAt H p P) : ∃ B, Ex B H ∧ B p = none ∧ Pool p B H := by
  obtain ⟨h1, h2, h3⟩ := h
  have hne : P.at_ ≠ p := fun z => by
    rw [z, h1] at h2
    have := congrArg List.length (HO.lst.inj (Option.some.inj h2))
    have h4 := HO.lst.inj (Option.some.inj h2)
    cases hc : P.cells with
    | nil => rw [hc] at h4; cases h4
    | cons x r => rw [hc] at h4; cases h4
  refine ⟨fun b => if b = p then none else H b, fun b o hb => ?_, if_pos rfl, P, h1, ?_, h3⟩
  · by_cases z : b = p
    · simp [z] at hb
    · simpa [z] using hb
  · show (if P.at_ = p then none else H P.at_) = _
    rw [if_neg hne]
    exact h2
theorem cat_dp {H : Hp} {x y : V} {Q : VK} {ds es : List PyData} (hx : Dp K H x (.tuple ds)) (hy : Dp K H y (.tuple es)) (hl : ds.length + es.length ≤ sizeLine) (k : ∀ (v : V) (H2 : Hp), Ex H H2 → Dp K H2 v (.tuple (ds ++ es)) → Q v H2) : rCatA K x y H Q := by
  obtain ⟨a, vs, rfl, sa, da⟩ := dp_tup hx
  obtain ⟨b, us, rfl, sb, db⟩ := dp_tup hy
  have l1 := dp_all_len da
  have l2 := dp_all_len db
  refine ⟨a, b, vs, us, rfl, rfl, sa, sb, by omega, fun z => ?_, fun _ z => ?_, fun _ _ q nq => ?_⟩
  · subst z
    cases da
    exact k _ _ (Ex.refl H) hy
  · subst z
    cases db
    exact k _ _ (Ex.refl H) (by rw [List.append_nil]; exact hx)
  · exact k _ _ (Ex.new nq) (.tup (SqT.of upd_same) (dpa_mono (Ex.new nq) (dpa_appA da db)))
def payD : PyData := .tuple [.str "pay", .tuple [.str "number", .int 1]]
theorem dpa_snoc_var {H : Hp} {us : List V} {u : V} {xs : List (Str × Int)} (h : DpAll K H (us ++ [u]) (xs.map varD)) : ∃ ys y, xs = ys ++ [y] ∧ DpAll K H us (ys.map varD) ∧ Dp K H u (varD y) := by
  induction us generalizing xs with
  | nil =>
    cases xs with
    | nil => cases h
    | cons y r =>
      cases h with
      | cons h1 h2 =>
        cases r with
        | nil => exact ⟨[], y, rfl, .nil, h1⟩
        | cons _ _ => cases h2
  | cons z r ih =>
    cases xs with
    | nil => cases h
    | cons y q =>
      cases h with
      | cons h1 h2 =>
        obtain ⟨ys, w, rfl, h3, h4⟩ := ih h2
        exact ⟨y :: ys, w, rfl, .cons h1 h3, h4⟩
theorem eqv_last {d e : PyData} (h : PyData.eqv d e = false) : ∀ {ds : List PyData}, PyData.eqvAll (ds ++ [d]) (ds ++ [e]) = false
  | [] => by
    show (PyData.eqv d e && _) = false
    rw [h]
    rfl
  | x :: r => by
    show (PyData.eqv x x && PyData.eqvAll (r ++ [d]) (r ++ [e])) = false
    rw [eqv_last h, Bool.and_false]
theorem eqv_var {n : Str} {i : Int} (h0 : 1 ≤ i) (h1 : i ≤ 65535) : PyData.eqv (varD (n, i % 65535 + 1)) (varD (n, i)) = false := by
  show ((n == n) && ((i % 65535 + 1 == i) && true)) = false
  rw [show (i % 65535 + 1 == i) = false by
    rw [beq_eq_false_iff_ne]
    omega]
  simp
theorem eqv_long {d1 d2 e1 e2 : List PyData} (h : d2.length ≠ e2.length) : PyData.eqv (.tuple [.tuple d1, .tuple d2]) (.tuple [.tuple e1, .tuple e2]) = false := by
  show (PyData.eqvAll d1 e1 && (PyData.eqvAll d2 e2 && true)) = false
  rw [SeqAt.eqvAll_other_length h]
  simp
theorem eqv_vars {d1 d2 e1 e2 : List PyData} (h : PyData.eqvAll d1 e1 = false) : PyData.eqv (.tuple [.tuple d1, .tuple d2]) (.tuple [.tuple e1, .tuple e2]) = false := by
  show (PyData.eqvAll d1 e1 && (PyData.eqvAll d2 e2 && true)) = false
  rw [h]
  rfl
theorem pay_gd : Gd 2 payD := by
  refine gd_tup (by simp) ?_
  intro d hd
  simp only [List.mem_cons, List.not_mem_nil, or_false] at hd
  rcases hd with rfl | rfl
  · exact gd_str (gd_c _ (by simp))
  · refine gd_tup (by simp) ?_
    intro d hd
    simp only [List.mem_cons, List.not_mem_nil, or_false] at hd
    rcases hd with rfl | rfl
    · exact gd_str (gd_c _ (by simp))
    · exact gd_int
theorem txt_ok {xs : List (Str × Int)} {ds : List PyData} {ws : List Str} (hg : IsG xs ds ws) : (PyData.str (txt (gW xs ws))).canLay0 = true := txt_lo hg.wok
theorem ok_law (T : Txt K mg) {fd : FuncData} (F : FunD K "law" "law" (defArgs s_law) (defBody s_law) (defScope s_law) (List.map (He.Dv.v K) []) [] (ga K "law") fd) : FnOk P w K mg base (L2.CX P w) 42 (ga K "law") fd ["_law_script"] (spLaw K) := by
  refine F.ok sc_law (fun vs H Q E h => ?_) (fun cdv A outer s H vs Q E hr h => ?_)
  · obtain ⟨a, ns, rfl, _⟩ := h
    rfl
  obtain ⟨a, ns, rfl, hS, hz, k⟩ := h
  have nd := sc_law.nd
  refine ⟨_, pss_cons (ps_set (i := 1) nd rfl (by first | exact Or.inl rfl | exact Or.inr rfl) (pe_fn T.d_l_pool (fn_l_pool T) (hr.mono (by decide)) T.g_l_pool pc (pa_cons (pv 0) (pa_cons (pe_int) pa_nil))))
      (pss_cons (ps_set (i := 2) nd rfl (by first | exact Or.inl rfl | exact Or.inr rfl) (pe_fn T.d_l_game (fn_l_game T) (hr.mono (by decide)) T.g_l_game pc (pa_cons (pv 1) (pa_cons (pe_int) (pa_cons (pe_int) pa_nil)))))
      (pss_cons (ps_set (i := 3) nd rfl (by first | exact Or.inl rfl | exact Or.inr rfl) (pe_join (pe_str) (pe_fn T.d_l_words (fn_l_words T) (hr.mono (by decide)) T.g_l_words pc (pa_cons (pv 2) pa_nil))))
      (pss_cons (ps_set (i := 4) nd rfl (by first | exact Or.inl rfl | exact Or.inr rfl) (pe_fn T.d_read_game (fn_read_game T) (hr.mono (by decide)) T.g_read_game pc (pa_cons (pv 3) pa_nil)))
      (pss_cons (ps_set (i := 5) nd rfl (by first | exact Or.inl rfl | exact Or.inr rfl) (StX.pe_makeR T.m_Game (fn_Game_init T) (hr.mono (by decide)) rfl T.g_Game pc (pa_cons (pe_callTy call_list_of (by rfl) T.f_list (by decide +kernel) (pa_cons (pe_ix ix_tup (pv 2) (pe_int) (fun _ _ => rfl)) pa_nil)) (pa_cons (pe_callTy call_list_of (by rfl) T.f_list (by decide +kernel) (pa_cons (pe_ix ix_tup (pv 2) (pe_int) (fun _ _ => rfl)) pa_nil)) pa_nil))))
      (pss_cons (ps_if (PW.pt (pw_or (pt_not (pt_val (pe_fn T.d_l_same (fn_l_same T 40) (hr.mono (by decide)) T.g_l_same pc (pa_cons (pe_lst (pa_cons (pe_fld (pv 4) rfl) (pa_cons (pe_fld (pv 4) rfl) pa_nil))) (pa_cons (pe_callTy call_list_of (by rfl) T.f_list (by decide +kernel) (pa_cons (pv 2) pa_nil)) pa_nil))))) (pw_or1 (pt_not (pt_val (pe_fn T.d_l_same (fn_l_same T 40) (hr.mono (by decide)) T.g_l_same pc (pa_cons (pe_lst (pa_cons (pe_fn T.d_game_text (fn_game_text T) (hr.mono (by decide)) T.g_game_text pc (pa_cons (pv 4) pa_nil)) (pa_cons (pe_fn T.d_game_text (fn_game_text T) (hr.mono (by decide)) T.g_game_text pc (pa_cons (pv 5) pa_nil)) pa_nil))) (pa_cons (pe_lst (pa_cons (pv 3) (pa_cons (pv 3) pa_nil))) pa_nil)))))))) (pss_one (ps_ret (pe_bl))) (pss_nil))
      (pss_cons (ps_set (i := 6) nd rfl (by first | exact Or.inl rfl | exact Or.inr rfl) (pe_fn T.d_l_game (fn_l_game T) (hr.mono (by decide)) T.g_l_game pc (pa_cons (pv 1) (pa_cons (pe_int) (pa_cons (pe_int) pa_nil)))))
      (pss_cons (ps_if (PW.pt (pw_or (pt_not (pt_val (pe_fn T.d_l_same (fn_l_same T 40) (hr.mono (by decide)) T.g_l_same pc (pa_cons (pe_cmpR (op_ownC (op := .Eq) (fun _ _ => rfl) T.nf_Game T.t_Game_eq.at_ T.t_Game_eq.fn (fn_Game_eq T) (hr.mono (by decide)) pc) (pv 4) (pv 5) (nomark _)) (pa_cons (pe_bl) pa_nil))))) (pw_or1 (pt_not (pt_val (pe_fn T.d_l_same (fn_l_same T 40) (hr.mono (by decide)) T.g_l_same pc (pa_cons (pe_cmpR (op_ownC (op := .Eq) (fun _ _ => rfl) T.nf_Game T.t_Game_eq.at_ T.t_Game_eq.fn (fn_Game_eq T) (hr.mono (by decide)) pc) (StX.pe_makeR T.m_Game (fn_Game_init T) (hr.mono (by decide)) rfl T.g_Game pc (pa_cons (pe_ix ix_tup (pv 6) (pe_int) (fun _ _ => rfl)) (pa_cons (pe_ix ix_tup (pv 6) (pe_int) (fun _ _ => rfl)) pa_nil))) (pv 4) (nomark _)) (pa_cons (pe_cmpR (op_eqD hr.units) (pv 6) (pv 2) (nomark _)) pa_nil)))))))) (pss_one (ps_ret (pe_bl))) (pss_nil))
      (pss_cons (ps_set (i := 7) nd rfl (by first | exact Or.inl rfl | exact Or.inr rfl) (pe_lst (pa_cons (pe_callTy call_list_of (by rfl) T.f_list (by decide +kernel) (pa_cons (pe_ix ix_tup (pv 2) (pe_int) (fun _ _ => rfl)) pa_nil)) (pa_cons (pe_callTy call_list_of (by rfl) T.f_list (by decide +kernel) (pa_cons (pe_ix ix_tup (pv 2) (pe_int) (fun _ _ => rfl)) pa_nil)) pa_nil))))
      (pss_cons (ps_set (i := 8) nd rfl (by first | exact Or.inl rfl | exact Or.inr rfl) (StX.pe_makeR T.m_Game (fn_Game_init T) (hr.mono (by decide)) rfl T.g_Game pc (pa_cons (pe_ix ix_list (pv 7) (pe_int) (fun _ _ => rfl)) (pa_cons (pe_ix ix_list (pv 7) (pe_int) (fun _ _ => rfl)) pa_nil))))
      (pss_cons (ps_expr (pe_bm PySem.F.plainAttrs_list PySem.F.slot_list_append PySem.F.type_list_append mt_append (pe_ix ix_list (pv 7) (pe_int) (fun _ _ => rfl)) (pa_cons (pe_tup (pa_cons (pe_str) (pa_cons (pe_int) pa_nil))) pa_nil)))
      (pss_cons (ps_expr (pe_bm PySem.F.plainAttrs_list PySem.F.slot_list_append PySem.F.type_list_append mt_append (pe_ix ix_list (pv 7) (pe_int) (fun _ _ => rfl)) (pa_cons (pe_tup (pa_cons (pe_str) (pa_cons (pe_tup (pa_cons (pe_str) (pa_cons (pe_int) pa_nil))) pa_nil))) pa_nil)))
      (pss_cons (ps_if (pt_not (pt_val (pe_fn T.d_l_same (fn_l_same T 40) (hr.mono (by decide)) T.g_l_same pc (pa_cons (pe_lst (pa_cons (pe_fld (pv 8) rfl) (pa_cons (pe_fld (pv 8) rfl) pa_nil))) (pa_cons (pe_callTy call_list_of (by rfl) T.f_list (by decide +kernel) (pa_cons (pv 2) pa_nil)) pa_nil))))) (pss_one (ps_ret (pe_bl))) (pss_nil))
      (pss_cons (ps_set (i := 9) nd rfl (by first | exact Or.inl rfl | exact Or.inr rfl) (pe_op op_catA (pe_ix ix_tup (pv 2) (pe_int) (fun _ _ => rfl)) (pe_tup (pa_cons (pe_tup (pa_cons (pe_str) (pa_cons (pe_tup (pa_cons (pe_str) (pa_cons (pe_int) pa_nil))) pa_nil))) pa_nil))))
      (pss_cons (ps_set (i := 10) nd rfl (by first | exact Or.inl rfl | exact Or.inr rfl) (pe_tup (pa_cons (pe_tup (pa_cons (pe_str) (pa_cons (pe_int) pa_nil))) pa_nil)))
      (Evl.pss_cut (ps_if (pt_cmpR op_gt (pe_callB call_len_seq (by rfl) T.f_len PySem.boot_len (pa_cons (pe_ix ix_tup (pv 2) (pe_int) (fun _ _ => rfl)) pa_nil)) (pe_int) (nomark _)) (pss_cons (ps_asg (pe_ix ix_tup (pe_ix ix_tup (pv 2) (pe_int) (fun _ _ => rfl)) (pe_un un_neg (pe_int)) (fun _ _ => rfl)) (pg_tup rfl (pgs_cons (pg_name (i := 11) nd rfl (by first | exact Or.inl rfl | exact Or.inr rfl)) (pgs_cons (pg_name (i := 12) nd rfl (by first | exact Or.inl rfl | exact Or.inr rfl)) pgs_nil))))
      (pss_one (ps_set (i := 10) nd rfl (by first | exact Or.inl rfl | exact Or.inr rfl) (pe_op op_catA (pe_slice sl_tup (pe_ix ix_tup (pv 2) (pe_int) (fun _ _ => rfl)) po_none (po_some (pe_un un_neg (pe_int)))) (pe_tup (pa_cons (pe_tup (pa_cons (pv 11) (pa_cons (pe_op op_add (pe_op op_mod (pe_callTy call_int1 (by rfl) T.f_int (by decide +kernel) (pa_cons (pv 12) pa_nil)) (pe_int)) (pe_int)) pa_nil))) pa_nil)))))) (pss_nil))
      (pss_one (ps_ret (pe_and (pe_fn T.d_l_same (fn_l_same T 40) (hr.mono (by decide)) T.g_l_same pc (pa_cons (pe_cmpR (op_ownC (op := .Eq) (fun _ _ => rfl) T.nf_Game T.t_Game_eq.at_ T.t_Game_eq.fn (fn_Game_eq T) (hr.mono (by decide)) pc) (StX.pe_makeR T.m_Game (fn_Game_init T) (hr.mono (by decide)) rfl T.g_Game pc (pa_cons (pe_ix ix_tup (pv 2) (pe_int) (fun _ _ => rfl)) (pa_cons (pv 9) pa_nil))) (pv 4) (nomark _)) (pa_cons (pe_bl) pa_nil))) (pe_one (pe_fn T.d_l_same (fn_l_same T 40) (hr.mono (by decide)) T.g_l_same pc (pa_cons (pe_cmpR (op_ownC (op := .Eq) (fun _ _ => rfl) T.nf_Game T.t_Game_eq.at_ T.t_Game_eq.fn (fn_Game_eq T) (hr.mono (by decide)) pc) (StX.pe_makeR T.m_Game (fn_Game_init T) (hr.mono (by decide)) rfl T.g_Game pc (pa_cons (pv 10) (pa_cons (pe_ix ix_tup (pv 2) (pe_int) (fun _ _ => rfl)) pa_nil))) (pv 4) (nomark _)) (pa_cons (pe_bl) pa_nil)))))))))))))))))))))), ?_⟩
  refine ⟨_, rfl, a, ns, 0, rfl, hS, hz, fun p H1 P1 s1 np _ hP1 _ => ?_⟩
  obtain ⟨B1, e1, hb1, hP1⟩ := base_pool hP1
  refine ⟨_, rfl, B1, p, rfl, e1, hb1, hP1, fun g B2 H2 xs ds ws t2 hP2 hg2 hg => ?_⟩
  obtain ⟨ag, ug, rfl, sg, dg0⟩ := dp_tup hg2
  obtain ⟨v1, _, rfl, hv1, dg1⟩ := dpa_c dg0
  obtain ⟨v2, _, rfl, hv2, dg2⟩ := dpa_c dg1
  cases dpa_n dg2
  obtain ⟨q1, vs1, rfl, sq1, dq1⟩ := dp_tup hv1
  obtain ⟨q2, vs2, rfl, sq2, dq2⟩ := dp_tup hv2
  have hb2 := t2.off hb1 hP1.at.choose_spec
  -- the text
  refine ⟨⟨_, rfl⟩, _, rfl, _, xs, ds, ws, rfl, dp_mono t2.in_ hg2, hg, fun l3 H3 x3 h3 => ⟨" ", l3, gW xs ws, rfl, rfl, .inl (SqL.of h3), hg.joinOk, ?_⟩⟩
  have t3 := Stp.ofEx (ms := []) t2.in_ x3
  have hP3 := hP2.stp t3 (by simp)
  -- read
  refine ⟨_, rfl, B2, xs, ds, ws, rfl, t3.in_, hg, fun ga B4 H4 t4 hga => ?_⟩
  have hP4 := hP3.stp t4 (by simp)
  have hb4 := t4.off hb2 hP3.at.choose_spec
  -- made
  refine ⟨_, rfl, ag, _, _, _, rfl, rfl, ex_t (t4.base.trans t4.in_) sg, rfl, q1, vs1, rfl, .inr (ex_t (t4.base.trans t4.in_) sq1), fun l5 nl5 => ?_⟩
  have t5 := Stp.cell (ms := []) (o := .lst vs1) t4.in_ nl5
  refine ⟨_, rfl, ag, _, _, _, rfl, rfl, ex_t (t4.base.trans t5.in_) sg, rfl, q2, vs2, rfl, .inr (ex_t (t4.base.trans t5.in_) sq2), fun l6 nl6 => ?_⟩
  have t6 := Stp.cell (ms := []) (o := .lst vs2) t5.in_ nl6
  refine mk_game (Q := fun x H2 => gName 5 x _ H2 _) (E := E) (d1 := xs.map varD) (d2 := ds) t6.in_ ⟨vs1, .inl (SqL.of (t6.fr _ _ (by simp) upd_same)), dpa_mono t4.base dq1⟩ ⟨vs2, .inl (SqL.of upd_same), dpa_mono t4.base dq2⟩ fun gm B7 H7 t7 hgm => ?_
  have hP7 := ((hP4.stp t5 (by simp)).stp t6 (by simp)).stp t7 (by simp)
  have b47 := t4.base.trans t7.base
  have hb7 : B7 p = none := ((t5.trans t6).trans t7).off hb4 hP4.at.choose_spec
  obtain ⟨aa, da, wa1, wa2, rfl, haa, hwa1, hwa2⟩ := id (hga.mono t7.base)
  have hdep : Dep 17 (.list [.tuple (xs.map varD), .tuple ds]) := (gd_pair (by rw [List.length_map]; have := hg.l5; omega) (by have := hg.l9; omega) hg.gv hg.gb).2.1
  -- the first comparison
  refine ⟨_, rfl, aa, _, da, _, _, rfl, t7.in_ _ _ haa, T.c_Game, T.a_Game_variables, rfl, _, rfl, aa, _, da, _, _, rfl, t7.in_ _ _ haa, T.c_Game, T.a_Game_block, rfl, (by show 2 ≤ sizeLine; decide), fun l8 nl8 => ?_⟩
  have x8 : Ex H7 (upd H7 l8 (.lst [wa1, wa2])) := Ex.new nl8
  have e28 : Ex B2 (upd H7 l8 (.lst [wa1, wa2])) := b47.trans (t7.in_.trans x8)
  refine ⟨_, rfl, ag, _, rfl, .inr (ex_t e28 sg), fun l9 nl9 => ?_⟩
  have x9 := x8.trans (Ex.new (o := .lst [.ref q1, .ref q2]) nl9)
  have e79 := t7.in_.trans x9
  have d8 : Dp K (upd (upd H7 l8 (.lst [wa1, wa2])) l9 (.lst [.ref q1, .ref q2])) (.ref l8) (.list [.tuple (xs.map varD), .tuple ds]) :=
    .lst (SqL.of ((Ex.new nl9) _ _ upd_same)) (.cons (dp_mono e79 hwa1) (.cons (dp_mono e79 hwa2) .nil))
  have e29 := b47.trans e79
  have d9 : Dp K (upd (upd H7 l8 (.lst [wa1, wa2])) l9 (.lst [.ref q1, .ref q2])) (.ref l9) (.list [.tuple (xs.map varD), .tuple ds]) :=
    .lst (SqL.of upd_same) (.cons (dp_mono e29 hv1) (.cons (dp_mono e29 hv2) .nil))
  refine ⟨_, _, _, _, rfl, d8, d9, dep_mono hdep (by decide), fun H10 x10 => ?_⟩
  rw [same_t rfl]
  refine ⟨_, rfl, iteF ?_⟩
  have x710 := x9.trans x10
  -- the texts
  refine ⟨_, rfl, .ref aa, xs, ds, ws, rfl, (hga.mono t7.base).mono (t7.in_.trans x710), hg, fun H11 x11 => ?_⟩
  refine ⟨_, rfl, gm, xs, ds, ws, rfl, hgm.mono (t7.in_.trans (x710.trans x11)), hg, fun H12 x12 => ?_⟩
  refine ⟨(by show 2 ≤ sizeLine; decide), fun l13 nl13 => ?_⟩
  refine ⟨_, rfl, _, rfl, (by show 2 ≤ sizeLine; decide), fun l14 nl14 => ?_⟩
  have hcan : (PyData.str (txt (gW xs ws))).canLay0 = true := txt_ok hg
  refine ⟨_, _, .list [.str (txt (gW xs ws)), .str (txt (gW xs ws))], .list [.str (txt (gW xs ws)), .str (txt (gW xs ws))], rfl, .lst (SqL.of ((Ex.new nl14) _ _ upd_same)) (.cons (.str _) (.cons (.str _) .nil)), .lst (SqL.of upd_same) (.cons (.str _) (.cons (.str _) .nil)), ?_, fun H15 x15 => ?_⟩
  · refine (gd_lst (n := 1) (by simp) ?_).1 |> fun h => dep_mono h (by decide)
    intro d hd
    simp only [List.mem_cons, List.not_mem_nil, or_false] at hd
    rcases hd with rfl | rfl <;> exact gd_str hcan
  rw [same_t rfl]
  refine ⟨_, rfl, iteF ?_⟩
  have x715 := ((x710.trans x11).trans x12).trans (((Ex.new nl13).trans (Ex.new nl14)).trans x15)
  have t15 := Stp.ofEx (ms := []) t7.in_ x715
  have hP15 := hP7.stp t15 (by simp)
  -- another game
  refine ⟨_, rfl, B7, p, rfl, t15.in_, hb7, hP15, fun go B16 H16 xo dso wso t16 hP16 hgo2 hgo => ?_⟩
  have hga16 := ((hga.mono t7.base).mono t16.base)
  have hgm16 := hgm.mono t16.base
  obtain ⟨am, dm, wm1, wm2, rfl, ham, hwm1, hwm2⟩ := id hgm16
  obtain ⟨ab, db, wb1, wb2, eab, hab, hwb1, hwb2⟩ := id hga16
  cases eab
  have hsh : SeqAt.shaped (.tuple [.tuple (xs.map varD), .tuple ds]) = true := (gd_pair (by rw [List.length_map]; have := hg.l5; omega) (by have := hg.l9; omega) hg.gv hg.gb).1.shaped (by decide)
  refine ⟨_, rfl, _, rfl, aa, _, _, am, _, _, rfl, rfl, t16.in_ _ _ hab, t16.in_ _ _ ham, ?_⟩
  have hgp := (gd_pair (by rw [List.length_map]; have := hg.l5; omega) (by have := hg.l9; omega) hg.gv hg.gb).1
  refine ⟨_, _, _, _, _, _, rfl, hga16.mono t16.in_, hgm16.mono t16.in_, hsh, hsh, fun H17 x17 => ?_⟩
  refine ⟨_, _, .bool _, .bool true, rfl, .bl _, .bl _, by simp [Dep], fun H18 x18 => ?_⟩
  rw [same_t (by rw [SeqAt.eqv_refl _ hgp.2.1])]
  refine ⟨_, rfl, iteF ?_⟩
  -- the other game made
  obtain ⟨ao, uo, rfl, so, do0⟩ := dp_tup hgo2
  obtain ⟨vo1, _, rfl, hvo1, do1⟩ := dpa_c do0
  obtain ⟨vo2, _, rfl, hvo2, do2⟩ := dpa_c do1
  cases dpa_n do2
  obtain ⟨o1, vso1, rfl, sqo1, dqo1⟩ := dp_tup hvo1
  obtain ⟨o2, vso2, rfl, sqo2, dqo2⟩ := dp_tup hvo2
  have t18 := Stp.ofEx (ms := []) t16.in_ (x17.trans x18)
  have hP18 := hP16.stp t18 (by simp)
  refine ⟨_, rfl, ao, _, _, _, rfl, rfl, ex_t t18.in_ so, rfl, _, rfl, ao, _, _, _, rfl, rfl, ex_t t18.in_ so, rfl, ?_⟩
  refine mk_game (Q := fun x H2 => tVar 4 _ H2 fun y H3 => rOwnB _ _ _ x y H3 _) (E := E) (d1 := xo.map varD) (d2 := dso) t18.in_ ⟨vso1, .inr sqo1, dqo1⟩ ⟨vso2, .inr sqo2, dqo2⟩ fun gp B20 H20 t20 hgp20 => ?_
  have b1620 := t18.base.trans t20.base
  have hga20 := hga16.mono b1620
  have hP20 := hP18.stp t20 (by simp)
  obtain ⟨ap, dp', wp1, wp2, rfl, hap, _, _⟩ := id hgp20
  have haa20 := t20.in_ _ _ (b1620 _ _ hab)
  have hgpo := (gd_pair (by rw [List.length_map]; have := hgo.l5; omega) (by have := hgo.l9; omega) hgo.gv hgo.gb).1
  refine ⟨_, rfl, ap, _, _, aa, _, _, rfl, rfl, t20.in_ _ _ hap, haa20, _, _, _, _, _, _, rfl, hgp20.mono t20.in_, hga20.mono t20.in_, hgpo.shaped (by decide), hgp.shaped (by decide), fun H21 x21 => ?_⟩
  have e16_21 : Ex B16 H21 := (b1620.trans t20.in_).trans x21
  have e2_16 : Ex B2 B16 := b47.trans t16.base
  refine ⟨_, rfl, _, rfl, .tuple [.tuple (xo.map varD), .tuple dso], .tuple [.tuple (xs.map varD), .tuple ds], dp_mono e16_21 hgo2, dp_mono (e2_16.trans e16_21) hg2, hgpo.shaped (by decide), hgp.shaped (by decide), ?_⟩
  refine ⟨_, _, .bool _, .bool _, rfl, .bl _, .bl _, by simp [Dep], fun H22 x22 => ?_⟩
  rw [same_t rfl]
  refine ⟨_, rfl, iteF ?_⟩
  have t22 := Stp.ofEx (ms := []) t20.in_ (x21.trans x22)
  have e2_20 : Ex B2 B20 := e2_16.trans b1620
  -- copies of the lists
  refine ⟨_, rfl, ag, _, _, _, rfl, rfl, ex_t (e2_20.trans t22.in_) sg, rfl, q1, vs1, rfl, .inr (ex_t (e2_20.trans t22.in_) sq1), fun l23 nl23 => ?_⟩
  have t23 := Stp.cell (ms := []) (o := .lst vs1) t22.in_ nl23
  refine ⟨_, rfl, ag, _, _, _, rfl, rfl, ex_t (e2_20.trans t23.in_) sg, rfl, q2, vs2, rfl, .inr (ex_t (e2_20.trans t23.in_) sq2), fun l24 nl24 => ?_⟩
  have t24 := Stp.cell (ms := []) (o := .lst vs2) t23.in_ nl24
  refine ⟨(by show 2 ≤ sizeLine; decide), fun l25 nl25 => ?_⟩
  have t25 := Stp.cell (ms := []) (o := .lst [.ref l23, .ref l24]) t24.in_ nl25
  have h23 := t25.fr _ _ (by simp) (t24.fr _ _ (by simp) (upd_same (H := H22) (a := l23) (o := .lst vs1)))
  have h24 := t25.fr _ _ (by simp) (upd_same (H := upd H22 l23 (.lst vs1)) (a := l24) (o := .lst vs2))
  refine ⟨_, rfl, l25, _, _, _, rfl, rfl, SqL.of upd_same, rfl, _, rfl, l25, _, _, _, rfl, rfl, SqL.of upd_same, rfl, ?_⟩
  refine mk_game (Q := fun x H2 => gName 8 x _ H2 _) (E := E) (d1 := xs.map varD) (d2 := ds) t25.in_ ⟨vs1, .inl (SqL.of h23), dpa_mono e2_20 dq1⟩ ⟨vs2, .inl (SqL.of h24), dpa_mono e2_20 dq2⟩ fun gk B26 H26 t26 hgk => ?_
  have h23 := t26.fr _ _ (by simp) h23
  have h24 := t26.fr _ _ (by simp) h24
  have h25 := t26.fr _ _ (by simp) (upd_same (H := upd (upd H22 l23 (.lst vs1)) l24 (.lst vs2)) (a := l25) (o := .lst [.ref l23, .ref l24]))
  have hb23 : B26 l23 = none := t26.off (ex_none t22.in_ nl23) (t25.fr _ _ (by simp) (t24.fr _ _ (by simp) (upd_same (H := H22) (a := l23) (o := .lst vs1))))
  have hb24 : B26 l24 = none := t26.off (ex_none t23.in_ nl24) (t25.fr _ _ (by simp) (upd_same (H := upd H22 l23 (.lst vs1)) (a := l24) (o := .lst vs2)))
  have n25_23 : l25 ≠ l23 := fun z => by
    subst z
    rw [t24.fr _ _ (by simp) (upd_same (H := H22) (a := l25) (o := .lst vs1))] at nl25
    cases nl25
  have n25_24 : l25 ≠ l24 := fun z => by
    subst z
    rw [upd_same] at nl25
    cases nl25
  have n24_23 : l24 ≠ l23 := fun z => by
    subst z
    rw [upd_same] at nl24
    cases nl24
  obtain ⟨ak, dk, wk1, wk2, rfl, hak, hwk1, hwk2⟩ := id hgk
  have hlv1 : vs1.length ≤ 5 := by have := dp_all_len dq1; have := hg.l5; rw [List.length_map] at *; omega
  have hlv2 : vs2.length ≤ 9 := by have := dp_all_len dq2; have := hg.l9; omega
  -- the first list grows
  refine ⟨_, rfl, l25, _, _, _, rfl, rfl, SqL.of h25, rfl, .inl ⟨rfl, _, SqL.of h23⟩, (by show 2 ≤ sizeLine; decide), fun l27 nl27 => ?_⟩
  have x27 := Ex.new (o := .tup [.str "w", .int 2]) nl27
  refine ⟨l23, _, _, rfl, rfl, x27 _ _ h23, small1000 (by omega), ?_⟩
  have e28 : Ex B26 (upd (upd H26 l27 (.tup [.str "w", .int 2])) l23 (.lst (vs1 ++ [.ref l27]))) := Ex.mut (t26.in_.trans x27) hb23
  have h24 := (upd_ne (H := upd H26 l27 (.tup [.str "w", .int 2])) (o := .lst (vs1 ++ [.ref l27])) n24_23).trans (x27 _ _ h24)
  have h25 := (upd_ne (H := upd H26 l27 (.tup [.str "w", .int 2])) (o := .lst (vs1 ++ [.ref l27])) n25_23).trans (x27 _ _ h25)
  generalize upd (upd H26 l27 (.tup [.str "w", .int 2])) l23 (.lst (vs1 ++ [.ref l27])) = H28 at e28 h24 h25 ⊢
  -- the second
  refine ⟨_, rfl, l25, _, _, _, rfl, rfl, SqL.of h25, rfl, .inl ⟨rfl, _, SqL.of h24⟩, (by show 2 ≤ sizeLine; decide), fun l29 nl29 => ⟨(by show 2 ≤ sizeLine; decide), fun l30 nl30 => ?_⟩⟩
  have x30 := (Ex.new (o := .tup [.str "number", .int 1]) nl29).trans (Ex.new (o := .tup [.str "pay", .ref l29]) nl30)
  refine ⟨l24, _, _, rfl, rfl, x30 _ _ h24, small1000 (by omega), ?_⟩
  have e31 : Ex B26 (upd (upd (upd H28 l29 (.tup [.str "number", .int 1])) l30 (.tup [.str "pay", .ref l29])) l24 (.lst (vs2 ++ [.ref l30]))) := Ex.mut (e28.trans x30) hb24
  generalize upd (upd (upd H28 l29 (.tup [.str "number", .int 1])) l30 (.tup [.str "pay", .ref l29])) l24 (.lst (vs2 ++ [.ref l30])) = H31 at e31 ⊢
  -- the game stays
  refine ⟨_, rfl, ak, _, dk, _, _, rfl, e31 _ _ hak, T.c_Game, T.a_Game_variables, rfl, _, rfl, ak, _, dk, _, _, rfl, e31 _ _ hak, T.c_Game, T.a_Game_block, rfl, (by show 2 ≤ sizeLine; decide), fun l32 nl32 => ?_⟩
  have x32 := Ex.new (o := .lst [wk1, wk2]) nl32
  have e2_26 := e2_20.trans t26.base
  refine ⟨_, rfl, ag, _, rfl, .inr (ex_t ((e2_26.trans e31).trans x32) sg), fun l33 nl33 => ?_⟩
  have x33 := x32.trans (Ex.new (o := .lst [.ref q1, .ref q2]) nl33)
  have d32 : Dp K (upd (upd H31 l32 (.lst [wk1, wk2])) l33 (.lst [.ref q1, .ref q2])) (.ref l32) (.list [.tuple (xs.map varD), .tuple ds]) :=
    .lst (SqL.of ((Ex.new nl33) _ _ upd_same)) (.cons (dp_mono (e31.trans x33) hwk1) (.cons (dp_mono (e31.trans x33) hwk2) .nil))
  have d33 : Dp K (upd (upd H31 l32 (.lst [wk1, wk2])) l33 (.lst [.ref q1, .ref q2])) (.ref l33) (.list [.tuple (xs.map varD), .tuple ds]) :=
    .lst (SqL.of upd_same) (.cons (dp_mono ((e2_26.trans e31).trans x33) hv1) (.cons (dp_mono ((e2_26.trans e31).trans x33) hv2) .nil))
  refine ⟨_, _, _, _, rfl, d32, d33, dep_mono hdep (by decide), fun H34 x34 => ?_⟩
  rw [same_t rfl]
  refine ⟨_, rfl, iteF ?_⟩
  have e34 := (e31.trans x33).trans x34
  have e2_34 := e2_26.trans e34
  -- a longer block
  refine ⟨_, rfl, ag, _, _, _, rfl, rfl, ex_t e2_34 sg, rfl, (by show 2 ≤ sizeLine; decide), fun l35 nl35 => ⟨(by show 2 ≤ sizeLine; decide), fun l36 nl36 => ⟨(by show 1 ≤ sizeLine; decide), fun l37 nl37 => ?_⟩⟩⟩
  have x35 := Ex.new (o := .tup [.str "number", .int 1]) nl35
  have x36 := Ex.new (o := .tup [.str "pay", .ref l35]) nl36
  have x37 := Ex.new (o := .tup [.ref l36]) nl37
  have e37 := x35.trans (x36.trans x37)
  refine cat_dp (dp_mono (e2_34.trans e37) hv2) (y := .ref l37) (es := [payD]) (.tup (SqT.of upd_same) (.cons (.tup (SqT.of (x37 _ _ upd_same)) (.cons (.str _) (.cons (.tup (SqT.of ((x36.trans x37) _ _ upd_same)) (.cons (.str _) (.cons (.int _) .nil))) .nil))) .nil)) (small1000 (by have := hg.l9; simp; omega)) fun v9 H38 x38 hv9 => ?_
  have e38 := e37.trans x38
  refine ⟨(by show 2 ≤ sizeLine; decide), fun l39 nl39 => ⟨(by show 1 ≤ sizeLine; decide), fun l40 nl40 => ?_⟩⟩
  have x39 := Ex.new (o := .tup [.str "wx", .int 2]) nl39
  have x40 := Ex.new (o := .tup [.ref l39]) nl40
  have e40 := x39.trans x40
  have e34_40 := e38.trans e40
  have e2_40 := e2_34.trans e34_40
  -- other variables
  refine ⟨fun σ' H' => ∃ (v10 : V) (v11 v12 : Option V) (ws1 : List PyData), σ' = [some (.ref a), some (.ref p), some (.ref ag), some (.str (txt (gW xs ws))), some (.ref aa), some (.ref am), some (.ref ao), some (.ref l25), some (.ref ak), some v9, some v10, v11, v12] ∧
    Ex (upd (upd H38 l39 (.tup [.str "wx", .int 2])) l40 (.tup [.ref l39])) H' ∧ Dp K H' v10 (.tuple ws1) ∧ (∀ d ∈ ws1, Gd 15 d) ∧ ws1.length ≤ 5 ∧ PyData.eqvAll ws1 (xs.map varD) = false, ?_, ?_⟩
  · refine ⟨_, rfl, ag, _, _, _, rfl, rfl, ex_t e2_40 sg, rfl, q1, vs1, rfl, .inr (ex_t e2_40 sq1), _, _, rfl, rfl, _, rfl, ite2 (fun c => ?_) fun c => ?_⟩
    · have hne : vs1 ≠ [] := fun z => by rw [z] at c; exact absurd c (by decide)
      obtain ⟨us, u, rfl⟩ : ∃ us u, vs1 = us ++ [u] := ⟨vs1.dropLast, vs1.getLast hne, (List.dropLast_concat_getLast hne).symm⟩
      obtain ⟨ys, y, rfl, hys, hy⟩ := dpa_snoc_var dq1
      obtain ⟨tu, rfl, stu⟩ := dp_var2 hy
      have hlu : us.length ≤ 4 := by rw [List.length_append] at hlv1; simp at hlv1; omega
      refine ⟨_, rfl, ag, _, _, _, rfl, rfl, ex_t e2_40 sg, rfl, _, rfl, q1, _, _, _, rfl, rfl, ex_t e2_40 sq1, atI_last _ _, tu, _, rfl, ex_t e2_40 stu, rfl, _, _, rfl, _, _, rfl, rfl, ?_⟩
      refine ⟨_, rfl, ag, _, _, _, rfl, rfl, ex_t e2_40 sg, rfl, _, rfl, _, rfl, q1, _, rfl, ex_t e2_40 sq1, ?_, fun l41 nl41 => ?_⟩
      · rw [List.length_append]
        show ¬ (_ ∧ (((-1 : Int) + ((us.length + 1 : Nat) : Int)).toNat = us.length + 1))
        omega
      have ecut : cutV (us ++ [V.ref tu]) none (some (-1)) = us := by
        show (List.drop 0 (us ++ [V.ref tu])).take (((-1 : Int) + (((us ++ [V.ref tu]).length : Nat) : Int)).toNat - 0) = us
        rw [List.drop_zero, List.length_append]
        have : ((-1 : Int) + ((us.length + [V.ref tu].length : Nat) : Int)).toNat - 0 = us.length := by
          show ((-1 : Int) + ((us.length + 1 : Nat) : Int)).toNat - 0 = _
          omega
        rw [this]
        simp
      rw [show cutV (us ++ [V.ref tu]) none (some (-1)) = us from ecut]
      have x41 := Ex.new (o := .tup us) nl41
      refine ⟨_, rfl, _, rfl, .inl ⟨_, rfl, _, _, rfl, rfl, (by show (0 : Int) < 65535; decide), _, _, rfl, rfl, (by show 2 ≤ sizeLine; decide), fun l42 nl42 => ⟨(by show 1 ≤ sizeLine; decide), fun l43 nl43 => ?_⟩⟩⟩
      have x42 := Ex.new (o := .tup [.str y.1, .int (y.2 % 65535 + 1)]) nl42
      have x43 := Ex.new (o := .tup [.ref l42]) nl43
      have e43 := x41.trans (x42.trans x43)
      have hnm := hg.ok y (by simp)
      refine cat_dp (x := .ref l41) (ds := ys.map varD) (y := .ref l43) (es := [varD (y.1, y.2 % 65535 + 1)]) (.tup (SqT.of ((x42.trans x43) _ _ upd_same)) (dpa_mono (e2_40.trans e43) hys)) (.tup (SqT.of upd_same) (.cons (.tup (SqT.of (x43 _ _ upd_same)) (.cons (.str _) (.cons (.int _) .nil))) .nil)) (small1000 (by have := dp_all_len hys; simp at this ⊢; omega)) fun v10 H44 x44 hv10 => ?_
      refine ⟨v10, _, _, _, rfl, e43.trans x44, hv10, ?_, ?_, ?_⟩
      · intro d hd
        rcases List.mem_append.mp hd with hd | hd
        · exact hg.gv d (by rw [List.map_append]; exact List.mem_append_left _ hd)
        · rw [List.mem_singleton.mp hd]
          exact (gd_var (x := (y.1, y.2 % 65535 + 1)) hnm.1).mono (by decide)
      · have := dp_all_len hys
        simp at this ⊢
        omega
      · rw [List.map_append]
        exact eqv_last (eqv_var (by omega) hnm.2.2)
    · have hx : xs = [] := by
        have h1 := dp_all_len dq1
        rw [List.length_map] at h1
        cases xs with
        | nil => rfl
        | cons y r => exact absurd (decide_eq_true (show ((0 : Int) < (vs1.length : Int)) by rw [h1, List.length_cons]; omega)) c
      subst hx
      refine ⟨.ref l40, _, _, [varD ("wx", 2)], rfl, Ex.refl _, .tup (SqT.of upd_same) (.cons (.tup (SqT.of (x40 _ _ upd_same)) (.cons (.str _) (.cons (.int _) .nil))) .nil), ?_, by simp, rfl⟩
      intro d hd
      rw [List.mem_singleton.mp hd]
      refine Gd.mono (n := 1) (m := 15) (gd_tup (by simp) ?_) (by decide)
      intro d hd
      simp only [List.mem_cons, List.not_mem_nil, or_false] at hd
      rcases hd with rfl | rfl
      · exact gd_str (by decide +kernel)
      · exact gd_int
  rintro σ' H45 ⟨v10, v11, v12, ws1, rfl, x45, hv10, hgw, hlw, hne⟩
  have e2_45 := e2_40.trans x45
  have hv9' := dp_mono (e40.trans x45) hv9
  have haa45 := e34_40.trans x45
  have hga45 : GameAt K H45 (.ref aa) (xs.map varD) ds := ((hga20.mono t26.base).mono e34).mono haa45
  obtain ⟨ac, dc, wc1, wc2, eac, hac, _, _⟩ := id hga45
  cases eac
  obtain ⟨a9, _, rfl, s9, dq9⟩ := dp_tup hv9'
  obtain ⟨a10, _, rfl, s10, dq10⟩ := dp_tup hv10
  have lx : (xs.map varD).length ≤ 100000 := by rw [List.length_map]; have := hg.l5; omega
  -- the longer one
  refine ⟨_, rfl, ag, _, _, _, rfl, rfl, ex_t e2_45 sg, rfl, _, rfl, ?_⟩
  refine mk_game (Q := fun x H2 => tVar 4 _ H2 fun y H3 => rOwnB _ _ _ x y H3 _) (E := E) (Ex.refl H45) ⟨vs1, .inr (ex_t e2_45 sq1), dpa_mono e2_45 dq1⟩ ⟨_, .inr s9, dq9⟩ fun gp B46 H46 t46 hgp46 => ?_
  obtain ⟨am1, dm1, wm1', wm2', rfl, ham1, _, _⟩ := id (hgp46.mono t46.in_)
  have e45_46 := t46.base.trans t46.in_
  have hgq : Gd 17 (.tuple [.tuple (xs.map varD), .tuple (ds ++ [payD])]) := (gd_pair lx (by have := hg.l9; simp; omega) hg.gv (by
    intro d hd
    rcases List.mem_append.mp hd with hd | hd
    · exact hg.gb d hd
    · rw [List.mem_singleton.mp hd]
      exact pay_gd.mono (by decide))).1
  refine ⟨_, rfl, am1, _, _, aa, _, _, rfl, rfl, ham1, e45_46 _ _ hac, _, _, _, _, _, _, rfl, hgp46.mono t46.in_, hga45.mono e45_46, hgq.shaped (by decide), hgp.shaped (by decide), fun H47 x47 => ?_⟩
  refine ⟨_, _, .bool _, .bool false, rfl, .bl _, .bl _, by simp [Dep], fun H48 x48 => ?_⟩
  rw [same_t (by rw [eqv_long (by simp)])]
  refine ⟨_, rfl, iteT ?_⟩
  have e45_48 := (e45_46.trans x47).trans x48
  have e2_48 := e2_45.trans e45_48
  -- the other variables
  refine ⟨_, rfl, _, rfl, ag, _, _, _, rfl, rfl, ex_t e2_48 sg, rfl, ?_⟩
  refine mk_game (Q := fun x H2 => tVar 4 _ H2 fun y H3 => rOwnB _ _ _ x y H3 _) (E := E) (Ex.refl H48) ⟨_, .inr (ex_t e45_48 s10), dpa_mono e45_48 dq10⟩ ⟨vs2, .inr (ex_t e2_48 sq2), dpa_mono e2_48 dq2⟩ fun gp B49 H49 t49 hgp49 => ?_
  obtain ⟨am2, dm2, wm1'', wm2'', rfl, ham2, _, _⟩ := id (hgp49.mono t49.in_)
  have e48_49 := t49.base.trans t49.in_
  have hgr : Gd 17 (.tuple [.tuple ws1, .tuple ds]) := (gd_pair (by omega) (by have := hg.l9; omega) hgw hg.gb).1
  refine ⟨_, rfl, am2, _, _, aa, _, _, rfl, rfl, ham2, (e45_48.trans e48_49) _ _ hac, _, _, _, _, _, _, rfl, hgp49.mono t49.in_, hga45.mono (e45_48.trans e48_49), hgr.shaped (by decide), hgp.shaped (by decide), fun H50 x50 => ?_⟩
  refine ⟨_, _, .bool _, .bool false, rfl, .bl _, .bl _, by simp [Dep], fun H51 x51 => ?_⟩
  rw [same_t (by rw [eqv_vars hne])]
  exact k _
end
end LL
namespace LL
open PySem PySem.Spec PyProof.Rows L2 He Evl
/-- the end of a law whose defs may let errors out -/
theorem walk_ofX {l : PySem.W.OpenLaw} {n k : Nat} {q : Program} {loose : List Str} {XP : (Str → Option Value) → Heap → Prop} {YP : World → Heap → Prop} {d : DefRec} {CX : World → CXT} {x : Str}
    (hn : l.most = some n) (hn2 : n ≤ sizeLine) (hdf : d.params.defaults = []) (hr : Room k callerA)
    (F : ∀ (w : World) (mg : Str → Option Value) (fa : Addr) (h : Heap), YP w h → h.Ns mainGlobals mg → mg d.name = some (.ref fa) →
      ∃ (K : PySem.W.Frag) (fd : FuncData) (sp : Sp), K.In h ∧ (∀ (s : Shared) (u : Value), BindsTo s fd ⟨[u], []⟩ [(x, u)]) ∧
        (∀ (H : Hp) (a : Addr) (ns : List Int), ns.length ≤ n → Only H → SqL K H a (ns.map V.int) → sp [.ref a] H (fun v _ => v = .bl true) fun _ _ _ => False) ∧
        ∀ base : Heap, K.In base → base.Ns mainGlobals mg → FnOk l.prog w K mg base (CX w) k fa fd [x] sp)
    (hCX : ∀ (w : World) (H : Hp) (s : Shared) (e : Value) (s' : Shared), CX w [] H s (fun _ _ _ => False) e s' → False) :
    PySem.W.WalkO q loose XP YP l.row.toRowW d [] (fun f vs => PySem.call f vs) := by
  refine Att.attach_call hn hdf fun w s₀ s₁ mg mb fa o pm cd doc a vs ns G Y ho hd hcd hmg hobj hints hlen hg => ?_
  obtain ⟨K, fd, sp, KX, hb, hsp, hF⟩ := F w mg fa _ Y G.T.g hmg
  exact law_call KX G.T.g G.T.b G.T.builtins G.T.nolimit hg hobj hints (Nat.le_trans hlen hn2) hr hF hb (fun H hO hS => hsp H a ns hlen hO hS) fun H e s' => hCX w H s₁ e s'
theorem cx_end {P : Program} {w : World} {H : Hp} {s : Shared} {e : Value} {s' : Shared} (h : L2.CX P w [] H s (fun _ _ _ => False) e s') : False := by
  obtain ⟨a, B, H', cls, d, _, _, _, _, _, _, _, q⟩ := h
  exact q
theorem law_facts {P : Program} {w : World} {K : PySem.W.Frag} {h : Heap} {mg : Str → Option Value} {f : Addr} (X : K.In h) (G : h.Ns mainGlobals mg) (hfa : mg ("law" : Str) = some (.ref f)) (T : Txt K mg) :
    ∃ fd : FuncData, (∀ (s : Shared) (v : Value), BindsTo s fd ⟨[v], []⟩ [("_law_script", v)]) ∧ ∀ base : Heap, K.In base → base.Ns mainGlobals mg → FnOk P w K mg base (L2.CX P w) 42 f fd ["_law_script"] (spLaw K) := by
  obtain ⟨fd, F⟩ := T.d_law
  have e := hfa.symm.trans T.g_law
  cases e
  have b := FunD.bindsA (ps := ["_law_script"]) F fun _ _ _ _ _ _ us hl => match us, hl with | [_], _ => rfl
  exact ⟨fd, fun s v => b s [v] rfl, fun base _ _ => ok_law T F⟩
end LL
open PySem PySem.W PySem.Calls PyProof.Rows
set_option maxRecDepth 100000 in
set_option maxHeartbeats 0 in
theorem PySem.Challenge.cw_lostleast_k01_games_read_and_written_holds : PySem.Challenge.rw_lostleast_k01_games_read_and_written.Holds := by
  w_on; o_law
  refine HandSHeadRun.head_any (r := LL.R) (q := view LL.R.prog [LL.lawAt]) (H := LL.hk) (ob := LL.ob) (M := 60000) (loose := LL.names) (d := HandSHeadRun.topDef LL.R.prog LL.lawAt) (kwd := []) LL.ob_eq
    (by kernel_rfl) (fun s => by kernel_rfl) LL.run (by kernel_rfl) (by kernel_rfl) (by kernel_rfl) (by rfl) (by first | assumption | decide +kernel) (by decide +kernel) ⟨rfl, rfl, rfl, rfl, rfl, by decide +kernel⟩ ?hw ?hc
  case hw => w_witness2
  case hc =>
    refine LL.walk_ofX (l := PySem.Challenge.rw_lostleast_k01_games_read_and_written) (n := 63) (k := 42) (x := "_law_script") (CX := fun w => L2.CX (PySem.Challenge.rw_lostleast_k01_games_read_and_written).prog w) rfl (by decide) (by kernel_rfl) ⟨rfl, by decide, by decide⟩ ?F (fun _ _ _ _ _ z => LL.cx_end z)
    intro w mg fa h Y G hmg0
    obtain ⟨K, KX, c⟩ := Y
    have hmg : mg ("law" : PySem.Str) = some (.ref fa) := by
      have e : (HandSHeadRun.topDef LL.R.prog LL.lawAt).name = ("law" : PySem.Str) := by kernel_rfl
      rw [← e]
      exact hmg0
    obtain ⟨fd, hb, hF⟩ := LL.law_facts (P := (PySem.Challenge.rw_lostleast_k01_games_read_and_written).prog) (w := w) KX G hmg (LL.txt_of KX G c)
    exact ⟨K, fd, LL.spLaw K, KX, hb, fun H a ns hl _ hS => ⟨a, ns, rfl, hS, hl, fun _ => rfl⟩, hF⟩
#print axioms PySem.Challenge.cw_lostleast_k01_games_read_and_written_holds
