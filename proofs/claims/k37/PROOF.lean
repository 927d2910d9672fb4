import PyProof.Rows.All
import Wide.All
import OpenK.AllK
import Wide.FinOn
import HandS.ForMost
import HandS.Wide
import HandS.Flow
import HandS.IsInst
import HandS.TupAny
import HandS.TupMul
import HandS.SetFor
import HandS.Rev
import HandS.Strs
import HandS.More
import KE.GoesEnum
import KE.GoesMore
import PySem.Challenge.RW_asktally_k37_twins_go_on_by_themselves
set_option Elab.async false
set_option linter.all false
set_option maxRecDepth 100000
set_option maxHeartbeats 4000000
namespace My
open PySem PySem.Spec PyProof.Rows L2
def topS (i : Nat) : Stmt := PySem.Challenge.pw_asktally_k37_twins_go_on_by_themselves.main.body.getD i (.Pass ⟨0, 0, 0, 0⟩)
abbrev s_is_field : Stmt := topS 1
theorem sc_is_field : FnScope ["number", "part"] ["number"] (defScope s_is_field) := ⟨rfl, rfl, rfl, by decide +kernel, rfl, by decide +kernel, by decide +kernel⟩
abbrev s_inverse_of : Stmt := topS 2
theorem sc_inverse_of : FnScope ["a", "p", "rest", "other", "mine", "theirs", "share"] ["a", "p"] (defScope s_inverse_of) := ⟨rfl, rfl, rfl, by decide +kernel, rfl, by decide +kernel, by decide +kernel⟩
abbrev s_value_at : Stmt := topS 4
theorem sc_value_at : FnScope ["values", "r", "p", "left", "found", "share", "k", "value", "j"] ["values", "r", "p"] (defScope s_value_at) := ⟨rfl, rfl, rfl, by decide +kernel, rfl, by decide +kernel, by decide +kernel⟩
abbrev s_all_settings : Stmt := topS 6
theorem sc_all_settings : FnScope ["n", "found", "k", "wider", "setting"] ["n"] (defScope s_all_settings) := ⟨rfl, rfl, rfl, by decide +kernel, rfl, by decide +kernel, by decide +kernel⟩
abbrev s_joined_settings : Stmt := topS 7
theorem sc_joined_settings : FnScope ["word", "one", "other"] ["word", "one", "other"] (defScope s_joined_settings) := ⟨rfl, rfl, rfl, by decide +kernel, rfl, by decide +kernel, by decide +kernel⟩
abbrev s_holds_at : Stmt := topS 9
theorem sc_holds_at : FnScope ["tree", "switches", "setting", "word"] ["tree", "switches", "setting"] (defScope s_holds_at) := ⟨rfl, rfl, rfl, by decide +kernel, rfl, by decide +kernel, by decide +kernel⟩
abbrev s_count_of : Stmt := topS 10
theorem sc_count_of : FnScope ["tree", "switches", "setting"] ["tree", "switches"] (defScope s_count_of) := ⟨rfl, rfl, rfl, by decide +kernel, rfl, by decide +kernel, by decide +kernel⟩
abbrev s_inner_of : Stmt := topS 11
theorem sc_inner_of : FnScope ["tree"] ["tree"] (defScope s_inner_of) := ⟨rfl, rfl, rfl, by decide +kernel, rfl, by decide +kernel, by decide +kernel⟩
abbrev s_names_in : Stmt := topS 12
theorem sc_names_in : FnScope ["tree", "found", "inner"] ["tree"] (defScope s_names_in) := ⟨rfl, rfl, rfl, by decide +kernel, rfl, by decide +kernel, by decide +kernel⟩
abbrev s_counts_of : Stmt := topS 14
theorem sc_counts_of : FnScope ["game", "tree"] ["game"] (defScope s_counts_of) := ⟨rfl, rfl, rfl, by decide +kernel, rfl, by decide +kernel, by decide +kernel⟩
abbrev s_summed : Stmt := topS 15
theorem sc_summed : FnScope ["game", "s", "ahead", "behind", "setting"] ["game", "s", "ahead", "behind"] (defScope s_summed) := ⟨rfl, rfl, rfl, by decide +kernel, rfl, by decide +kernel, by decide +kernel⟩
abbrev s_true_row : Stmt := topS 16
theorem sc_true_row : FnScope ["game", "s", "coins", "k", "behind", "x"] ["game", "s", "coins"] (defScope s_true_row) := ⟨rfl, rfl, rfl, by decide +kernel, rfl, by decide +kernel, by decide +kernel⟩
abbrev s_op_of : Stmt := topS 19
theorem sc_op_of : FnScope ["sign", "a", "b", "p"] ["sign", "a", "b", "p"] (defScope s_op_of) := ⟨rfl, rfl, rfl, by decide +kernel, rfl, by decide +kernel, by decide +kernel⟩
abbrev s_Round___init__ : Stmt := inClass (topS 20) 0
theorem sc_Round___init__ : FnScope ["self", "game", "number", "many", "held", "s", "tossed"] ["self", "game", "number", "many", "held", "s", "tossed"] (defScope s_Round___init__) := ⟨rfl, rfl, rfl, by decide +kernel, rfl, by decide +kernel, by decide +kernel⟩
abbrev s_Round_all_tossed : Stmt := inClass (topS 20) 1
theorem sc_Round_all_tossed : FnScope ["self"] ["self"] (defScope s_Round_all_tossed) := ⟨rfl, rfl, rfl, by decide +kernel, rfl, by decide +kernel, by decide +kernel⟩
abbrev s_Round_coin_at : Stmt := inClass (topS 20) 2
theorem sc_Round_coin_at : FnScope ["self", "at", "tossed"] ["self", "at"] (defScope s_Round_coin_at) := ⟨rfl, rfl, rfl, by decide +kernel, rfl, by decide +kernel, by decide +kernel⟩
abbrev s_Round_true_at : Stmt := inClass (topS 20) 3
theorem sc_Round_true_at : FnScope ["self", "at", "counts"] ["self", "at"] (defScope s_Round_true_at) := ⟨rfl, rfl, rfl, by decide +kernel, rfl, by decide +kernel, by decide +kernel⟩
abbrev s_Round_worth : Stmt := inClass (topS 20) 4
theorem sc_Round_worth : FnScope ["self", "term", "boxes", "kind", "p"] ["self", "term", "boxes"] (defScope s_Round_worth) := ⟨rfl, rfl, rfl, by decide +kernel, rfl, by decide +kernel, by decide +kernel⟩
abbrev s_Machine___init__ : Stmt := inClass (topS 21) 0
theorem sc_Machine___init__ : FnScope ["self", "game", "helper"] ["self", "game", "helper"] (defScope s_Machine___init__) := ⟨rfl, rfl, rfl, by decide +kernel, rfl, by decide +kernel, by decide +kernel⟩
abbrev s_Machine_box : Stmt := inClass (topS 21) 1
theorem sc_Machine_box : FnScope ["self", "x"] ["self", "x"] (defScope s_Machine_box) := ⟨rfl, rfl, rfl, by decide +kernel, rfl, by decide +kernel, by decide +kernel⟩
abbrev s_Machine_twin : Stmt := inClass (topS 21) 2
theorem sc_Machine_twin : FnScope ["self", "other"] ["self"] (defScope s_Machine_twin) := ⟨rfl, rfl, rfl, by decide +kernel, rfl, by decide +kernel, by decide +kernel⟩
abbrev s_Machine_say : Stmt := inClass (topS 21) 3
theorem sc_Machine_say : FnScope ["self", "many", "due", "s", "coins", "now", "said", "at", "steps", "row"] ["self", "many", "due", "s", "coins"] (defScope s_Machine_say) := ⟨rfl, rfl, rfl, by decide +kernel, rfl, by decide +kernel, by decide +kernel⟩
abbrev s_Machine_step : Stmt := inClass (topS 21) 4
theorem sc_Machine_step : FnScope ["self", "now", "row", "at", "said"] ["self", "now", "row", "at", "said"] (defScope s_Machine_step) := ⟨rfl, rfl, rfl, by decide +kernel, rfl, by decide +kernel, by decide +kernel⟩
abbrev s_joined_worth : Stmt := topS 29
theorem sc_joined_worth : FnScope ["word", "a", "b"] ["word", "a", "b"] (defScope s_joined_worth) := ⟨rfl, rfl, rfl, by decide +kernel, rfl, by decide +kernel, by decide +kernel⟩
abbrev s_worth_of : Stmt := topS 31
theorem sc_worth_of : FnScope ["tree", "switches", "point", "p", "word", "a"] ["tree", "switches", "point", "p"] (defScope s_worth_of) := ⟨rfl, rfl, rfl, by decide +kernel, rfl, by decide +kernel, by decide +kernel⟩
abbrev s_twice_in : Stmt := topS 34
theorem sc_twice_in : FnScope ["switches", "k", "name"] ["switches"] (defScope s_twice_in) := ⟨rfl, rfl, rfl, by decide +kernel, rfl, by decide +kernel, by decide +kernel⟩
abbrev s_look_names : Stmt := topS 35
theorem sc_look_names : FnScope ["switches", "trees", "tree", "name"] ["switches", "trees"] (defScope s_look_names) := ⟨rfl, rfl, rfl, by decide +kernel, rfl, by decide +kernel, by decide +kernel⟩
abbrev s_degree_of : Stmt := topS 36
theorem sc_degree_of : FnScope ["name", "trees", "tree"] ["name", "trees"] (defScope s_degree_of) := ⟨rfl, rfl, rfl, by decide +kernel, rfl, by decide +kernel, by decide +kernel⟩
abbrev s_Game___init__ : Stmt := inClass (topS 37) 0
theorem sc_Game___init__ : FnScope ["self", "switches", "trees", "field", "twice", "degrees", "greatest", "name"] ["self", "switches", "trees", "field"] (defScope s_Game___init__) := ⟨rfl, rfl, rfl, by decide +kernel, rfl, by decide +kernel, by decide +kernel⟩
abbrev s_Game_mix : Stmt := inClass (topS 37) 1
theorem sc_Game_mix : FnScope ["self", "numbers", "s", "found", "number"] ["self", "numbers", "s"] (defScope s_Game_mix) := ⟨rfl, rfl, rfl, by decide +kernel, rfl, by decide +kernel, by decide +kernel⟩
abbrev s_Game_worth_at : Stmt := inClass (topS 37) 2
theorem sc_Game_worth_at : FnScope ["self", "point", "s", "tree"] ["self", "point", "s"] (defScope s_Game_worth_at) := ⟨rfl, rfl, rfl, by decide +kernel, rfl, by decide +kernel, by decide +kernel⟩
abbrev s_Game_coins : Stmt := inClass (topS 37) 3
theorem sc_Game_coins : FnScope ["self"] ["self"] (defScope s_Game_coins) := ⟨rfl, rfl, rfl, by decide +kernel, rfl, by decide +kernel, by decide +kernel⟩
abbrev s_law_feed : Stmt := topS 39
theorem sc_law_feed : FnScope ["_law_script", "_law_k", "_law_cell", "_law_own"] ["_law_script", "_law_k"] (defScope s_law_feed) := ⟨rfl, rfl, rfl, by decide +kernel, rfl, by decide +kernel, by decide +kernel⟩
abbrev s_law_take : Stmt := topS 40
theorem sc_law_take : FnScope ["_law_feed_here", "_law_many", "_law_digit", "_law_one"] ["_law_feed_here", "_law_many"] (defScope s_law_take) := ⟨rfl, rfl, rfl, by decide +kernel, rfl, by decide +kernel, by decide +kernel⟩
abbrev s_law_names : Stmt := topS 41
theorem sc_law_names : FnScope ["_law_feed_here", "_law_many", "_law_letters", "_law_k", "_law_common", "_law_at", "_law_first", "_law_found", "_law_tail", "_law_sign", "_law_words"] ["_law_feed_here", "_law_many"] (defScope s_law_names) := ⟨rfl, rfl, rfl, by decide +kernel, rfl, by decide +kernel, by decide +kernel⟩
abbrev s_law_tree : Stmt := topS 42
theorem sc_law_tree : FnScope ["_law_feed_here", "_law_names_here", "_law_room", "_law_deep", "_law_form", "_law_more", "_law_one", "_law_word"] ["_law_feed_here", "_law_names_here", "_law_room", "_law_deep"] (defScope s_law_tree) := ⟨rfl, rfl, rfl, by decide +kernel, rfl, by decide +kernel, by decide +kernel⟩
abbrev s_law_names_of : Stmt := topS 43
theorem sc_law_names_of : FnScope ["_law_tree_here", "_law_found", "_law_part"] ["_law_tree_here"] (defScope s_law_names_of) := ⟨rfl, rfl, rfl, by decide +kernel, rfl, by decide +kernel, by decide +kernel⟩
abbrev s_law_need : Stmt := topS 44
theorem sc_law_need : FnScope ["_law_names_here", "_law_trees", "_law_need_here", "_law_tree_here", "_law_found", "_law_name"] ["_law_names_here", "_law_trees"] (defScope s_law_need) := ⟨rfl, rfl, rfl, by decide +kernel, rfl, by decide +kernel, by decide +kernel⟩
abbrev s_law_is_prime : Stmt := topS 45
theorem sc_law_is_prime : FnScope ["_law_number", "_law_k"] ["_law_number"] (defScope s_law_is_prime) := ⟨rfl, rfl, rfl, by decide +kernel, rfl, by decide +kernel, by decide +kernel⟩
abbrev s_law_field : Stmt := topS 46
theorem sc_law_field : FnScope ["_law_feed_here", "_law_need_here", "_law_form", "_law_number"] ["_law_feed_here", "_law_need_here"] (defScope s_law_field) := ⟨rfl, rfl, rfl, by decide +kernel, rfl, by decide +kernel, by decide +kernel⟩
abbrev s_law_game : Stmt := topS 47
theorem sc_law_game : FnScope ["_law_feed_here", "_law_most", "_law_room", "_law_names_here", "_law_many", "_law_trees", "_law_k"] ["_law_feed_here", "_law_most", "_law_room"] (defScope s_law_game) := ⟨rfl, rfl, rfl, by decide +kernel, rfl, by decide +kernel, by decide +kernel⟩
abbrev s_law_term : Stmt := topS 48
theorem sc_law_term : FnScope ["_law_feed_here", "_law_boxes", "_law_room", "_law_deep", "_law_form", "_law_plain", "_law_more", "_law_one"] ["_law_feed_here", "_law_boxes", "_law_room", "_law_deep"] (defScope s_law_term) := ⟨rfl, rfl, rfl, by decide +kernel, rfl, by decide +kernel, by decide +kernel⟩
abbrev s_law_helper : Stmt := topS 49
theorem sc_law_helper : FnScope ["_law_feed_here", "_law_boxes", "_law_most", "_law_rows_here", "_law_many", "_law_k", "_law_form"] ["_law_feed_here", "_law_boxes", "_law_most"] (defScope s_law_helper) := ⟨rfl, rfl, rfl, by decide +kernel, rfl, by decide +kernel, by decide +kernel⟩
abbrev s_law_liar : Stmt := topS 50
theorem sc_law_liar : FnScope ["_law_feed_here", "_law_box", "_law_j", "_law_wrong", "_law_more", "_law_told"] ["_law_feed_here", "_law_box"] (defScope s_law_liar) := ⟨rfl, rfl, rfl, by decide +kernel, rfl, by decide +kernel, by decide +kernel⟩
abbrev s_law_degrees : Stmt := topS 51
theorem sc_law_degrees : FnScope ["_law_game_here", "_law_name", "_law_tree_here"] ["_law_game_here"] (defScope s_law_degrees) := ⟨rfl, rfl, rfl, by decide +kernel, rfl, by decide +kernel, by decide +kernel⟩
abbrev s_law_plan : Stmt := topS 52
theorem sc_law_plan : FnScope ["_law_feed_here", "_law_game_here", "_law_coins", "_law_dues", "_law_name"] ["_law_feed_here", "_law_game_here"] (defScope s_law_plan) := ⟨rfl, rfl, rfl, by decide +kernel, rfl, by decide +kernel, by decide +kernel⟩
abbrev s_law_turned : Stmt := topS 53
theorem sc_law_turned : FnScope ["_law_old", "_law_new", "_law_number", "_law_known", "_law_s"] ["_law_old", "_law_new", "_law_number"] (defScope s_law_turned) := ⟨rfl, rfl, rfl, by decide +kernel, rfl, by decide +kernel, by decide +kernel⟩
abbrev s_law_rows : Stmt := topS 54
theorem sc_law_rows : FnScope ["_law_plan_here", "_law_game_here", "_law_rows_here", "_law_k", "_law_degree"] ["_law_plan_here", "_law_game_here"] (defScope s_law_rows) := ⟨rfl, rfl, rfl, by decide +kernel, rfl, by decide +kernel, by decide +kernel⟩
abbrev s_law_say : Stmt := topS 55
theorem sc_law_say : FnScope ["_law_machine", "_law_row"] ["_law_machine", "_law_row"] (defScope s_law_say) := ⟨rfl, rfl, rfl, by decide +kernel, rfl, by decide +kernel, by decide +kernel⟩
abbrev s_law_fresh : Stmt := topS 56
theorem sc_law_fresh : FnScope ["_law_game_here", "_law_helper_here", "_law_rows_here", "_law_machine", "_law_found", "_law_row"] ["_law_game_here", "_law_helper_here", "_law_rows_here"] (defScope s_law_fresh) := ⟨rfl, rfl, rfl, by decide +kernel, rfl, by decide +kernel, by decide +kernel⟩
abbrev s_law_same_boxes : Stmt := topS 57
theorem sc_law_same_boxes : FnScope ["_law_one", "_law_other", "_law_names_here", "_law_name"] ["_law_one", "_law_other", "_law_names_here"] (defScope s_law_same_boxes) := ⟨rfl, rfl, rfl, by decide +kernel, rfl, by decide +kernel, by decide +kernel⟩
abbrev s_law_all_alike : Stmt := topS 58
theorem sc_law_all_alike : FnScope ["_law_some", "_law_game_here", "_law_helper_here", "_law_names_here", "_law_machine", "_law_plan_here"] ["_law_some", "_law_game_here", "_law_helper_here", "_law_names_here"] (defScope s_law_all_alike) := ⟨rfl, rfl, rfl, by decide +kernel, rfl, by decide +kernel, by decide +kernel⟩
abbrev s_law : Stmt := topS 59
theorem sc_law : FnScope ["_law_script", "_law_game_here", "_law_names_here", "_law_feed_here", "_law_helper_here", "_law_k", "_law_plans", "_law_rounds", "_law_begin", "_law_some", "_law_told", "_law_number", "_law_machine", "_law_plan_here", "_law_pair", "_law_rows_here", "_law_other", "_law_due", "_law_found", "_law_kept"] ["_law_script"] (defScope s_law) := ⟨rfl, rfl, rfl, by decide +kernel, rfl, by decide +kernel, by decide +kernel⟩
/-- what the top has written -/
structure Tx (K : PySem.W.Frag) (mg : Str → Option Value) where
  f_is_field : Addr
  d_is_field : FuncData
  F_is_field : Fun K "is_field" "is_field" s_is_field f_is_field d_is_field
  b_is_field : Binds K d_is_field ["number"] []
  g_is_field : mg "is_field" = some (.ref f_is_field)
  f_inverse_of : Addr
  d_inverse_of : FuncData
  F_inverse_of : Fun K "inverse_of" "inverse_of" s_inverse_of f_inverse_of d_inverse_of
  b_inverse_of : Binds K d_inverse_of ["a", "p"] []
  g_inverse_of : mg "inverse_of" = some (.ref f_inverse_of)
  f_value_at : Addr
  d_value_at : FuncData
  F_value_at : Fun K "value_at" "value_at" s_value_at f_value_at d_value_at
  b_value_at : Binds K d_value_at ["values", "r", "p"] []
  g_value_at : mg "value_at" = some (.ref f_value_at)
  f_all_settings : Addr
  d_all_settings : FuncData
  F_all_settings : Fun K "all_settings" "all_settings" s_all_settings f_all_settings d_all_settings
  b_all_settings : Binds K d_all_settings ["n"] []
  g_all_settings : mg "all_settings" = some (.ref f_all_settings)
  f_joined_settings : Addr
  d_joined_settings : FuncData
  F_joined_settings : Fun K "joined" "joined" s_joined_settings f_joined_settings d_joined_settings
  b_joined_settings : Binds K d_joined_settings ["word", "one", "other"] []
  g_joined_settings : mg "joined_settings" = some (.ref f_joined_settings)
  f_holds_at : Addr
  d_holds_at : FuncData
  F_holds_at : Fun K "holds_at" "holds_at" s_holds_at f_holds_at d_holds_at
  b_holds_at : Binds K d_holds_at ["tree", "switches", "setting"] []
  g_holds_at : mg "holds_at" = some (.ref f_holds_at)
  f_count_of : Addr
  d_count_of : FuncData
  F_count_of : Fun K "count_of" "count_of" s_count_of f_count_of d_count_of
  b_count_of : Binds K d_count_of ["tree", "switches"] []
  g_count_of : mg "count_of" = some (.ref f_count_of)
  f_inner_of : Addr
  d_inner_of : FuncData
  F_inner_of : Fun K "inner_of" "inner_of" s_inner_of f_inner_of d_inner_of
  b_inner_of : Binds K d_inner_of ["tree"] []
  g_inner_of : mg "inner_of" = some (.ref f_inner_of)
  f_names_in : Addr
  d_names_in : FuncData
  F_names_in : Fun K "names_in" "names_in" s_names_in f_names_in d_names_in
  b_names_in : Binds K d_names_in ["tree"] []
  g_names_in : mg "names_in" = some (.ref f_names_in)
  f_counts_of : Addr
  d_counts_of : FuncData
  F_counts_of : Fun K "counts_of" "counts_of" s_counts_of f_counts_of d_counts_of
  b_counts_of : Binds K d_counts_of ["game"] []
  g_counts_of : mg "counts_of" = some (.ref f_counts_of)
  f_summed : Addr
  d_summed : FuncData
  F_summed : Fun K "summed" "summed" s_summed f_summed d_summed
  b_summed : Binds K d_summed ["game", "s", "ahead", "behind"] []
  g_summed : mg "summed" = some (.ref f_summed)
  f_true_row : Addr
  d_true_row : FuncData
  F_true_row : Fun K "true_row" "true_row" s_true_row f_true_row d_true_row
  b_true_row : Binds K d_true_row ["game", "s", "coins"] []
  g_true_row : mg "true_row" = some (.ref f_true_row)
  f_op_of : Addr
  d_op_of : FuncData
  F_op_of : Fun K "op_of" "op_of" s_op_of f_op_of d_op_of
  b_op_of : Binds K d_op_of ["sign", "a", "b", "p"] []
  g_op_of : mg "op_of" = some (.ref f_op_of)
  f_Round___init__ : Addr
  d_Round___init__ : FuncData
  F_Round___init__ : Fun K "__init__" "Round.__init__" s_Round___init__ f_Round___init__ d_Round___init__
  b_Round___init__ : Binds K d_Round___init__ ["self", "game", "number", "many", "held", "s", "tossed"] []
  f_Round_all_tossed : Addr
  d_Round_all_tossed : FuncData
  F_Round_all_tossed : Fun K "all_tossed" "Round.all_tossed" s_Round_all_tossed f_Round_all_tossed d_Round_all_tossed
  b_Round_all_tossed : Binds K d_Round_all_tossed ["self"] []
  f_Round_coin_at : Addr
  d_Round_coin_at : FuncData
  F_Round_coin_at : Fun K "coin_at" "Round.coin_at" s_Round_coin_at f_Round_coin_at d_Round_coin_at
  b_Round_coin_at : Binds K d_Round_coin_at ["self", "at"] []
  f_Round_true_at : Addr
  d_Round_true_at : FuncData
  F_Round_true_at : Fun K "true_at" "Round.true_at" s_Round_true_at f_Round_true_at d_Round_true_at
  b_Round_true_at : Binds K d_Round_true_at ["self", "at"] []
  f_Round_worth : Addr
  d_Round_worth : FuncData
  F_Round_worth : Fun K "worth" "Round.worth" s_Round_worth f_Round_worth d_Round_worth
  b_Round_worth : Binds K d_Round_worth ["self", "term", "boxes"] []
  f_Machine___init__ : Addr
  d_Machine___init__ : FuncData
  F_Machine___init__ : Fun K "__init__" "Machine.__init__" s_Machine___init__ f_Machine___init__ d_Machine___init__
  b_Machine___init__ : Binds K d_Machine___init__ ["self", "game", "helper"] []
  f_Machine_box : Addr
  d_Machine_box : FuncData
  F_Machine_box : Fun K "box" "Machine.box" s_Machine_box f_Machine_box d_Machine_box
  b_Machine_box : Binds K d_Machine_box ["self", "x"] []
  f_Machine_twin : Addr
  d_Machine_twin : FuncData
  F_Machine_twin : Fun K "twin" "Machine.twin" s_Machine_twin f_Machine_twin d_Machine_twin
  b_Machine_twin : Binds K d_Machine_twin ["self"] []
  f_Machine_say : Addr
  d_Machine_say : FuncData
  F_Machine_say : Fun K "say" "Machine.say" s_Machine_say f_Machine_say d_Machine_say
  b_Machine_say : Binds K d_Machine_say ["self", "many", "due", "s", "coins"] []
  f_Machine_step : Addr
  d_Machine_step : FuncData
  F_Machine_step : Fun K "step" "Machine.step" s_Machine_step f_Machine_step d_Machine_step
  b_Machine_step : Binds K d_Machine_step ["self", "now", "row", "at", "said"] []
  f_joined_worth : Addr
  d_joined_worth : FuncData
  F_joined_worth : Fun K "joined" "joined" s_joined_worth f_joined_worth d_joined_worth
  b_joined_worth : Binds K d_joined_worth ["word", "a", "b"] []
  g_joined_worth : mg "joined_worth" = some (.ref f_joined_worth)
  f_worth_of : Addr
  d_worth_of : FuncData
  F_worth_of : Fun K "worth_of" "worth_of" s_worth_of f_worth_of d_worth_of
  b_worth_of : Binds K d_worth_of ["tree", "switches", "point", "p"] []
  g_worth_of : mg "worth_of" = some (.ref f_worth_of)
  f_twice_in : Addr
  d_twice_in : FuncData
  F_twice_in : Fun K "twice_in" "twice_in" s_twice_in f_twice_in d_twice_in
  b_twice_in : Binds K d_twice_in ["switches"] []
  g_twice_in : mg "twice_in" = some (.ref f_twice_in)
  f_look_names : Addr
  d_look_names : FuncData
  F_look_names : Fun K "look_names" "look_names" s_look_names f_look_names d_look_names
  b_look_names : Binds K d_look_names ["switches", "trees"] []
  g_look_names : mg "look_names" = some (.ref f_look_names)
  f_degree_of : Addr
  d_degree_of : FuncData
  F_degree_of : Fun K "degree_of" "degree_of" s_degree_of f_degree_of d_degree_of
  b_degree_of : Binds K d_degree_of ["name", "trees"] []
  g_degree_of : mg "degree_of" = some (.ref f_degree_of)
  f_Game___init__ : Addr
  d_Game___init__ : FuncData
  F_Game___init__ : Fun K "__init__" "Game.__init__" s_Game___init__ f_Game___init__ d_Game___init__
  b_Game___init__ : Binds K d_Game___init__ ["self", "switches", "trees", "field"] []
  f_Game_mix : Addr
  d_Game_mix : FuncData
  F_Game_mix : Fun K "mix" "Game.mix" s_Game_mix f_Game_mix d_Game_mix
  b_Game_mix : Binds K d_Game_mix ["self", "numbers", "s"] []
  f_Game_worth_at : Addr
  d_Game_worth_at : FuncData
  F_Game_worth_at : Fun K "worth_at" "Game.worth_at" s_Game_worth_at f_Game_worth_at d_Game_worth_at
  b_Game_worth_at : Binds K d_Game_worth_at ["self", "point", "s"] []
  f_Game_coins : Addr
  d_Game_coins : FuncData
  F_Game_coins : Fun K "coins" "Game.coins" s_Game_coins f_Game_coins d_Game_coins
  b_Game_coins : Binds K d_Game_coins ["self"] []
  f_law_feed : Addr
  d_law_feed : FuncData
  F_law_feed : Fun K "_law_feed" "_law_feed" s_law_feed f_law_feed d_law_feed
  b_law_feed : Binds K d_law_feed ["_law_script", "_law_k"] []
  g_law_feed : mg "_law_feed" = some (.ref f_law_feed)
  f_law_take : Addr
  d_law_take : FuncData
  F_law_take : Fun K "_law_take" "_law_take" s_law_take f_law_take d_law_take
  b_law_take : Binds K d_law_take ["_law_feed_here", "_law_many"] []
  g_law_take : mg "_law_take" = some (.ref f_law_take)
  f_law_names : Addr
  d_law_names : FuncData
  F_law_names : Fun K "_law_names" "_law_names" s_law_names f_law_names d_law_names
  b_law_names : Binds K d_law_names ["_law_feed_here", "_law_many"] []
  g_law_names : mg "_law_names" = some (.ref f_law_names)
  f_law_tree : Addr
  d_law_tree : FuncData
  F_law_tree : Fun K "_law_tree" "_law_tree" s_law_tree f_law_tree d_law_tree
  b_law_tree : Binds K d_law_tree ["_law_feed_here", "_law_names_here", "_law_room", "_law_deep"] []
  g_law_tree : mg "_law_tree" = some (.ref f_law_tree)
  f_law_names_of : Addr
  d_law_names_of : FuncData
  F_law_names_of : Fun K "_law_names_of" "_law_names_of" s_law_names_of f_law_names_of d_law_names_of
  b_law_names_of : Binds K d_law_names_of ["_law_tree_here"] []
  g_law_names_of : mg "_law_names_of" = some (.ref f_law_names_of)
  f_law_need : Addr
  d_law_need : FuncData
  F_law_need : Fun K "_law_need" "_law_need" s_law_need f_law_need d_law_need
  b_law_need : Binds K d_law_need ["_law_names_here", "_law_trees"] []
  g_law_need : mg "_law_need" = some (.ref f_law_need)
  f_law_is_prime : Addr
  d_law_is_prime : FuncData
  F_law_is_prime : Fun K "_law_is_prime" "_law_is_prime" s_law_is_prime f_law_is_prime d_law_is_prime
  b_law_is_prime : Binds K d_law_is_prime ["_law_number"] []
  g_law_is_prime : mg "_law_is_prime" = some (.ref f_law_is_prime)
  f_law_field : Addr
  d_law_field : FuncData
  F_law_field : Fun K "_law_field" "_law_field" s_law_field f_law_field d_law_field
  b_law_field : Binds K d_law_field ["_law_feed_here", "_law_need_here"] []
  g_law_field : mg "_law_field" = some (.ref f_law_field)
  f_law_game : Addr
  d_law_game : FuncData
  F_law_game : Fun K "_law_game" "_law_game" s_law_game f_law_game d_law_game
  b_law_game : Binds K d_law_game ["_law_feed_here", "_law_most", "_law_room"] []
  g_law_game : mg "_law_game" = some (.ref f_law_game)
  f_law_term : Addr
  d_law_term : FuncData
  F_law_term : Fun K "_law_term" "_law_term" s_law_term f_law_term d_law_term
  b_law_term : Binds K d_law_term ["_law_feed_here", "_law_boxes", "_law_room", "_law_deep"] []
  g_law_term : mg "_law_term" = some (.ref f_law_term)
  f_law_helper : Addr
  d_law_helper : FuncData
  F_law_helper : Fun K "_law_helper" "_law_helper" s_law_helper f_law_helper d_law_helper
  b_law_helper : Binds K d_law_helper ["_law_feed_here", "_law_boxes", "_law_most"] []
  g_law_helper : mg "_law_helper" = some (.ref f_law_helper)
  f_law_liar : Addr
  d_law_liar : FuncData
  F_law_liar : Fun K "_law_liar" "_law_liar" s_law_liar f_law_liar d_law_liar
  b_law_liar : Binds K d_law_liar ["_law_feed_here", "_law_box"] []
  g_law_liar : mg "_law_liar" = some (.ref f_law_liar)
  f_law_degrees : Addr
  d_law_degrees : FuncData
  F_law_degrees : Fun K "_law_degrees" "_law_degrees" s_law_degrees f_law_degrees d_law_degrees
  b_law_degrees : Binds K d_law_degrees ["_law_game_here"] []
  g_law_degrees : mg "_law_degrees" = some (.ref f_law_degrees)
  f_law_plan : Addr
  d_law_plan : FuncData
  F_law_plan : Fun K "_law_plan" "_law_plan" s_law_plan f_law_plan d_law_plan
  b_law_plan : Binds K d_law_plan ["_law_feed_here", "_law_game_here"] []
  g_law_plan : mg "_law_plan" = some (.ref f_law_plan)
  f_law_turned : Addr
  d_law_turned : FuncData
  F_law_turned : Fun K "_law_turned" "_law_turned" s_law_turned f_law_turned d_law_turned
  b_law_turned : Binds K d_law_turned ["_law_old", "_law_new", "_law_number"] []
  g_law_turned : mg "_law_turned" = some (.ref f_law_turned)
  f_law_rows : Addr
  d_law_rows : FuncData
  F_law_rows : Fun K "_law_rows" "_law_rows" s_law_rows f_law_rows d_law_rows
  b_law_rows : Binds K d_law_rows ["_law_plan_here", "_law_game_here"] []
  g_law_rows : mg "_law_rows" = some (.ref f_law_rows)
  f_law_say : Addr
  d_law_say : FuncData
  F_law_say : Fun K "_law_say" "_law_say" s_law_say f_law_say d_law_say
  b_law_say : Binds K d_law_say ["_law_machine", "_law_row"] []
  g_law_say : mg "_law_say" = some (.ref f_law_say)
  f_law_fresh : Addr
  d_law_fresh : FuncData
  F_law_fresh : Fun K "_law_fresh" "_law_fresh" s_law_fresh f_law_fresh d_law_fresh
  b_law_fresh : Binds K d_law_fresh ["_law_game_here", "_law_helper_here", "_law_rows_here"] []
  g_law_fresh : mg "_law_fresh" = some (.ref f_law_fresh)
  f_law_same_boxes : Addr
  d_law_same_boxes : FuncData
  F_law_same_boxes : Fun K "_law_same_boxes" "_law_same_boxes" s_law_same_boxes f_law_same_boxes d_law_same_boxes
  b_law_same_boxes : Binds K d_law_same_boxes ["_law_one", "_law_other", "_law_names_here"] []
  g_law_same_boxes : mg "_law_same_boxes" = some (.ref f_law_same_boxes)
  f_law_all_alike : Addr
  d_law_all_alike : FuncData
  F_law_all_alike : Fun K "_law_all_alike" "_law_all_alike" s_law_all_alike f_law_all_alike d_law_all_alike
  b_law_all_alike : Binds K d_law_all_alike ["_law_some", "_law_game_here", "_law_helper_here", "_law_names_here"] []
  g_law_all_alike : mg "_law_all_alike" = some (.ref f_law_all_alike)
  f_law : Addr
  d_law : FuncData
  F_law : Fun K "law" "law" s_law f_law d_law
  b_law : Binds K d_law ["_law_script"] []
  g_law : mg "law" = some (.ref f_law)
  C_Round : Addr
  gC_Round : mg "Round" = some (.ref C_Round)
  cl_Round : Cls K C_Round
  mk_Round : Mk K C_Round f_Round___init__
  m_Round_all_tossed : Meth K C_Round "all_tossed" f_Round_all_tossed
  m_Round_coin_at : Meth K C_Round "coin_at" f_Round_coin_at
  m_Round_true_at : Meth K C_Round "true_at" f_Round_true_at
  m_Round_worth : Meth K C_Round "worth" f_Round_worth
  n_Round_game : NoAttr K C_Round "game"
  n_Round_number : NoAttr K C_Round "number"
  n_Round_many : NoAttr K C_Round "many"
  n_Round_held : NoAttr K C_Round "held"
  n_Round_mixed_by : NoAttr K C_Round "mixed_by"
  n_Round_tossed : NoAttr K C_Round "tossed"
  n_Round_truth : NoAttr K C_Round "truth"
  C_Machine : Addr
  gC_Machine : mg "Machine" = some (.ref C_Machine)
  cl_Machine : Cls K C_Machine
  mk_Machine : Mk K C_Machine f_Machine___init__
  m_Machine_box : Meth K C_Machine "box" f_Machine_box
  m_Machine_twin : Meth K C_Machine "twin" f_Machine_twin
  m_Machine_say : Meth K C_Machine "say" f_Machine_say
  m_Machine_step : Meth K C_Machine "step" f_Machine_step
  n_Machine_game : NoAttr K C_Machine "game"
  n_Machine_helper : NoAttr K C_Machine "helper"
  n_Machine_boxes : NoAttr K C_Machine "boxes"
  n_Machine_rounds : NoAttr K C_Machine "rounds"
  C_Game : Addr
  gC_Game : mg "Game" = some (.ref C_Game)
  cl_Game : Cls K C_Game
  mk_Game : Mk K C_Game f_Game___init__
  m_Game_mix : Meth K C_Game "mix" f_Game_mix
  m_Game_worth_at : Meth K C_Game "worth_at" f_Game_worth_at
  m_Game_coins : Meth K C_Game "coins" f_Game_coins
  n_Game_switches : NoAttr K C_Game "switches"
  n_Game_trees : NoAttr K C_Game "trees"
  n_Game_field : NoAttr K C_Game "field"
  n_Game_degrees : NoAttr K C_Game "degrees"
  c_MOST_STEPS : ∃ t, mg "MOST_STEPS" = some (.int 200 t)
  c_MOST_FIELD : ∃ t, mg "MOST_FIELD" = some (.int 999999 t)
  z_range : mg "range" = none
  z_len : mg "len" = none
  z_list : mg "list" = none
  z_sum : mg "sum" = none
  z_tuple : mg "tuple" = none
  z_int : mg "int" = none
  z_dict : mg "dict" = none
  z_enumerate : mg "enumerate" = none
  z_max : mg "max" = none
  z_reversed : mg "reversed" = none
end My
namespace My
open PySem PySem.Spec PyProof.Rows L2
/-! ### heaps: what stands behind a step -/
/-- all stands but what is named in l; tuples stand, and what is known to the object -/
structure Stp (l : List Addr) (H H' : Hp) : Prop where
  k : ∀ b o, H b = some o → b ∉ l → H' b = some o
  t : ∀ b xs, H b = some (.tup xs) → H' b = some (.tup xs)
  f : ∀ b o u, H b = some (.frz o u) → H' b = some (.frz o u)
theorem Stp.refl {l : List Addr} {H : Hp} : Stp l H H := ⟨fun _ _ h _ => h, fun _ _ h => h, fun _ _ _ h => h⟩
theorem Stp.trans {l : List Addr} {H H1 H2 : Hp} (a : Stp l H H1) (b : Stp l H1 H2) : Stp l H H2 :=
  ⟨fun c o h n => b.k c o (a.k c o h n) n, fun c xs h => b.t c xs (a.t c xs h), fun c o u h => b.f c o u (a.f c o u h)⟩
theorem Stp.mono {l m : List Addr} {H H' : Hp} (a : Stp l H H') (h : ∀ x, x ∈ l → x ∈ m) : Stp m H H' :=
  ⟨fun c o e n => a.k c o e (fun z => n (h c z)), a.t, a.f⟩
theorem Stp.nil {m : List Addr} {H H' : Hp} (a : Stp [] H H') : Stp m H H' := a.mono (fun _ z => by cases z)
theorem Stp.new {l : List Addr} {H : Hp} {p : Addr} {o : HO} (h : H p = none) : Stp l H (upd H p o) :=
  ⟨fun b u e _ => by rw [upd_ne (ne_of_none e h)]; exact e, fun b u e => by rw [upd_ne (ne_of_none e h)]; exact e, fun b o u e => by rw [upd_ne (ne_of_none e h)]; exact e⟩
theorem Stp.same {l : List Addr} {H H' : Hp} (h : Same H H') : Stp l H H' := ⟨fun b o e _ => h b o e, fun b xs e => h b _ e, fun b o u e => h b _ e⟩
theorem Stp.toSame {H H' : Hp} (h : Stp [] H H') : Same H H' := fun b o e => h.k b o e (fun z => by cases z)
/-- what is no tuple is written -/
theorem Stp.wr {l : List Addr} {H : Hp} {p : Addr} {o u : HO} (h : H p = some u) (hn : ∀ xs, u ≠ .tup xs) (hf : ∀ a b, u ≠ .frz a b) (hp : p ∈ l) : Stp l H (upd H p o) :=
  ⟨fun b v e n => by rw [upd_ne (fun z => n (by rw [z]; exact hp))]; exact e,
   fun b xs e => by
    rw [upd_ne (fun z => by rw [z, h] at e; exact hn xs (Option.some.inj e))]; exact e,
   fun b c v e => by
    rw [upd_ne (fun z => by rw [z, h] at e; exact hf c v (Option.some.inj e))]; exact e⟩
theorem Stp.wrL {l : List Addr} {H : Hp} {p : Addr} {o : HO} {ys : List V} (h : H p = some (.lst ys)) (hp : p ∈ l) : Stp l H (upd H p o) := Stp.wr h (fun _ => by intro z; cases z) (fun _ _ => by intro z; cases z) hp
theorem Stp.wrI {l : List Addr} {H : Hp} {p C dx : Addr} {o : HO} {fs} (h : H p = some (.ins C dx fs)) (hp : p ∈ l) : Stp l H (upd H p o) := Stp.wr h (fun _ => by intro z; cases z) (fun _ _ => by intro z; cases z) hp
theorem Stp.wrD {l : List Addr} {H : Hp} {p : Addr} {o : HO} {kvs} (h : H p = some (.dK kvs)) (hp : p ∈ l) : Stp l H (upd H p o) := Stp.wr h (fun _ => by intro z; cases z) (fun _ _ => by intro z; cases z) hp
/-- a new object, changed meanwhile, is nothing to what stood before -/
theorem Stp.fresh {l : List Addr} {H H' : Hp} {p : Addr} {o : HO} (a : Stp l H H') (h : H p = none) : Stp l H (upd H' p o) :=
  ⟨fun b u e n => by rw [upd_ne (ne_of_none e h)]; exact a.k b u e n, fun b u e => by rw [upd_ne (ne_of_none e h)]; exact a.t b u e, fun b c u e => by rw [upd_ne (ne_of_none e h)]; exact a.f b c u e⟩
/-- a step that may touch a new object too -/
theorem Stp.drop {l : List Addr} {H H' : Hp} {p : Addr} (a : Stp (p :: l) H H') (h : H p = none) : Stp l H H' :=
  ⟨fun b u e n => a.k b u e (fun z => by
    rcases List.mem_cons.mp z with z | z
    · rw [z, h] at e; cases e
    · exact n z), a.t, a.f⟩
theorem Stp.free {l : List Addr} {H H' : Hp} {p : Addr} (a : Stp l H H') (h : H' p = none) (hp : p ∉ l) : H p = none := by
  cases e : H p with
  | none => rfl
  | some o => rw [a.k p o e hp] at h; cases h
theorem Stp.seq {K : PySem.W.Frag} {l : List Addr} {H H' : Hp} {a : Addr} {xs : List V} (e : Stp l H H') (h : SqL K H a xs) (ha : a ∉ l) : SqL K H' a xs := by
  rcases h with (h | ⟨o, h⟩) | h
  · exact .inl (.inl (e.k _ _ h ha))
  · exact .inl (.inr ⟨o, e.k _ _ h ha⟩)
  · exact .inr h
theorem Stp.sqT {K : PySem.W.Frag} {l : List Addr} {H H' : Hp} {a : Addr} {xs : List V} (e : Stp l H H') (h : SqT K H a xs) : SqT K H' a xs := by
  rcases h with (h | ⟨o, h⟩) | h
  · exact .inl (.inl (e.t _ _ h))
  · exact .inl (.inr ⟨o, e.f _ _ _ h⟩)
  · exact .inr h
theorem Stp.seqT {K : PySem.W.Frag} {l : List Addr} {H H' : Hp} {a : Addr} {xs : List V} (e : Stp l H H') (h : H a = some (.tup xs)) : SqT K H' a xs := .inl (.inl (e.t _ _ h))
theorem smallN {n : Nat} (h : n ≤ 100000) : n < sizeLine := Nat.lt_of_le_of_lt h (by decide)
theorem smallL {n : Nat} (h : n ≤ 100000) : n ≤ sizeLine := Nat.le_of_lt (smallN h)
theorem smallX {n : Nat} (h : n ≤ 2000000) : n < sizeLine := Nat.lt_of_le_of_lt h (by decide)
/-! ### numbers -/
theorem in64 {i : Int} (h1 : -18446744073709551616 < i) (h2 : i < 18446744073709551616) : -(2 ^ 64) < i ∧ i < 2 ^ 64 := ⟨by omega, by omega⟩
theorem mod_lt' {a m : Int} (h : 0 < m) : 0 ≤ a % m ∧ a % m < m := ⟨Int.emod_nonneg _ (by omega), Int.emod_lt_of_pos _ h⟩
theorem div_ok {i j : Int} (h : 0 < j) (h2 : j < 10 ^ 30) : CDivW i j := wide_div (b := 100) h (by
  have : j.natAbs < 10 ^ 30 := by omega
  exact Nat.lt_of_lt_of_le this (by decide)) (by decide) (by decide)
end My

/-! ### enumerate(a tuple), as a rule -/
namespace PySem
open Sem (wp)
open AutoSeq1 (wpAny_loadPart')
theorem my_meets_enumT (l : Addr) (items : Array Value) :
    Meets (Builtin.«enumerate.__new__» ⟨[.type "enumerate", .ref l], []⟩) (fun _ R s => s.heap.IsTuple l items ∧
      R (.ok (.ret (.ref (s.heap.push { cls := .type "tuple_iterator", data := .fields #[.ref l, .int 0 0] }).objs.size)))
        { s with heap := (s.heap.push { cls := .type "tuple_iterator", data := .fields #[.ref l, .int 0 0] }).push { cls := .type "enumerate", data := .fields #[.none, .bool false, .ref s.heap.objs.size, rawInt 0, .none, .none] } }) :=
  .of_wp fun prog w A R s h => by
    obtain ⟨hp, g, d, tk, os⟩ := s; obtain ⟨hl, h⟩ := h
    have hsub := sub_enumerate
    have hL : Heap.IsTuple (Shared.heap ⟨hp, g, d, tk, os⟩) l items := hl
    have q1 : ∀ {A' : Around} {E : Value → Shared → Prop} {Q : Value → Shared → Prop}, Q (.ref hp.objs.size) ⟨hp.push { cls := .type "tuple_iterator", data := .fields #[.ref l, .int 0 0] }, g, d, tk, os⟩ → wpAny (model prog w) A' (pyIter (.ref l)) Q E ⟨hp, g, d, tk, os⟩ :=
      fun q => wpAny_pyIter_tuple hL q
    wp_walk using q1
    refine wpAny_stack_any fun st => wpAny_pure ?_
    split
    · rename_i c _ _ _ _ _
      cases (c == Value.type "enumerate")
      · wp_walk using q1
        exact ⟨_, rfl, h⟩
      · wp_walk using q1
        exact ⟨_, rfl, h⟩
    · wp_walk using q1
      exact ⟨_, rfl, h⟩
section
variable {prog : Program} {w : World} {A : Around} {E : Value → Shared → Prop} {s : Shared}
theorem my_call_enumT {l : Addr} {items : Array Value} {Q : Value → Shared → Prop} (hL : s.heap.IsTuple l items)
    (h : ∀ h', IsEnum h' (s.heap.objs.size + 1) s.heap.objs.size 0 .none → h'.IsTupleIter s.heap.objs.size l 0 → h'.objs.size = s.heap.objs.size + 2 →
      (∀ b o, s.heap.get? b = some o → h'.get? b = some o) → Q (.ref (s.heap.objs.size + 1)) { s with heap := h' }) :
    wpAny (model prog w) A (call (.type "enumerate") [.ref l]) Q E s := by
  refine callType_new F.called_enumerate (by decide) (F.typeCall_enumerate_1 _) (F.newCall_enumerate_1 _) (fun obj => F.args_object_init_2 obj _) F.entry_enumerate_new
    (my_meets_enumT l items) ⟨hL, ?_⟩
  have hz : (s.heap.push { cls := .type "tuple_iterator", data := .fields #[.ref l, .int 0 0] }).objs.size = s.heap.objs.size + 1 := Heap.size_push ..
  show _ ∧ _
  rw [hz]
  have he : IsEnum ((s.heap.push { cls := .type "tuple_iterator", data := .fields #[.ref l, .int 0 0] }).push
      { cls := .type "enumerate", data := .fields #[.none, .bool false, .ref s.heap.objs.size, rawInt 0, .none, .none] }) (s.heap.objs.size + 1) s.heap.objs.size 0 .none := by
    have := Heap.get?_push_size (s.heap.push { cls := .type "tuple_iterator", data := .fields #[.ref l, .int 0 0] })
      (o := { cls := .type "enumerate", data := .fields #[.none, .bool false, .ref s.heap.objs.size, rawInt 0, .none, .none] }) rfl
    rw [hz] at this; exact this
  refine ⟨⟨_, he, rfl⟩, h _ he ⟨_, Heap.get?_push_of_some _ (Heap.get?_push_size _ rfl), rfl, rfl⟩ (by rw [Heap.size_push, hz]) fun b o x => Heap.get?_push_of_some _ (Heap.get?_push_of_some _ x)⟩
end
end PySem
namespace L2
open PySem PySem.Spec PyProof.Rows
/-- the tuple at a, each item in a new pair -/
def Itet (K : PySem.W.Frag) (a : Addr) : It :=
  ⟨fun i H => ∃ (xs : List V) (x : V), SqT K H a xs ∧ xs[i]? = some x, fun i H v H' => ∃ T x, v = .ref T ∧ H T = none ∧ H' = upd H T (.tup [.int (i : Nat), x]) ∧ ∀ xs, SqT K H a xs → xs[i]? = some x, fun i H => ∃ xs : List V, SqT K H a xs ∧ xs.length ≤ i⟩
theorem turn_enumT {P : Program} {w : World} {K : PySem.W.Frag} {elts : List Expr} {kk : Nat} {tpos : Pos} (a e it : Addr) :
    Turn P w K (.Tuple elts kk tpos) (Itet K a) [e, it] e (fun i h => (∃ old, IsEnum h e it ((i : Nat) : Int) old) ∧ h.IsTupleIter it a i ∧ e ≠ it) where
  mem := by simp
  obj := fun i h st b hb => by
    obtain ⟨⟨old, he⟩, ⟨o, ho, hc, hd⟩, _⟩ := st
    have e' : b = e ∨ b = it := by simpa using hb
    rcases e' with z | z
    · rw [z]; exact ⟨_, he, fun v q => nomatch q⟩
    · rw [z]; exact ⟨o, ho, fun v q => by rw [hd] at q; cases q⟩
  keep := fun i h h' st k => let ⟨⟨old, he⟩, hi, hne⟩ := st; ⟨⟨old, k e (by simp) _ he⟩, hi.at fun o q => k it (by simp) o q, hne⟩
  item := by
    intro X hP hw hK hc i pins s σ H E I hf st hg
    subst hP hw hK
    obtain ⟨⟨old, he⟩, hit, hne⟩ := st
    obtain ⟨xs, x, hq, hx⟩ := hg
    obtain ⟨its, rv, p, hz⟩ := I.tuple hq
    obtain ⟨u, hu, ru⟩ := rv.get hx
    have hel : e < s.heap.objs.size := Heap.lt_size he
    have hil : it < s.heap.objs.size := by obtain ⟨_, q, _⟩ := hit; exact Heap.lt_size q
    have hai : a ≠ it := fun z => by
      obtain ⟨o1, e1, c1, _⟩ := hit
      obtain ⟨o2, e2, c2, _⟩ := p
      rw [z, e1] at e2; cases e2
      rw [c1] at c2; simp at c2
    have hea : e ≠ a := fun z => by
      obtain ⟨o2, e2, c2, _⟩ := p
      have he0 : s.heap.get? e = some _ := he
      rw [z, e2] at he0; cases he0; simp at c2
    have hea' : e ∉ [it, a] := fun z => by
      rcases List.mem_cons.mp z with z | z
      · exact hne z
      · exact hea (by simpa using z)
    refine wpAny_pyNext_enum_itemD (Draws.tuple (A := X.A.in1) (I.ok.hd hc) it a hai its.toArray) he ⟨hit, p⟩ (by
        have := (List.getElem?_eq_some_iff.mp hu).1
        simpa using this) hne hea' fun y h' tk hy ho hst hT hsz hk => ?_
    have ey : y = u := by
      have : its.toArray[i]? = some u := by simpa using hu
      rw [this] at hy
      exact (Option.some.inj hy).symm
    subst ey
    refine ⟨_, rfl, wpAny_letOwnedTupleGo_enum (s := { s with heap := h', toks := tk + 1 }) ho fun h'' he' sb => ?_⟩
    have hT2 : h''.get? s.heap.objs.size = some { cls := .type "tuple", data := .seq #[.int i tk, y] } := (sb.2 _ (Nat.ne_of_gt hel)).trans hT
    have new : ObjOk X.prog X.w (upd H s.heap.objs.size (.tup [.int (i : Nat), x])) h'' s.heap.objs.size (.tup [.int (i : Nat), x]) :=
      ⟨by show 2 ≤ sizeLine; decide, [.int i tk, y], .cons ⟨_, rfl⟩ (.cons ru .nil), ⟨_, hT2, rfl, _, rfl⟩⟩
    have I1 : Inv X pins σ (upd H s.heap.objs.size (.tup [.int (i : Nat), x])) { s with heap := h'', toks := tk + 1 } :=
      I.turnedNew (ch := [e, it]) (fun b ob hb q => (sb.2 b (fun z => hb (by simp [z]))).trans (hk b ob (fun z => hb (by simp [z])) (fun z => hb (by simp [z])) q)) hf (Nat.le_refl _) new
    refine ⟨.ref s.heap.objs.size, _, I1, rfl, ⟨_, x, rfl, I.hok.fresh (Nat.le_refl _), rfl, fun ys hy => by rw [I.tuple_inj hy hq]; exact hx⟩, ⟨⟨y, ?_⟩, hst.1.at fun o q => (sb.2 it (Ne.symm hne)).trans q, hne⟩, fun b hb => ?_⟩
    · have e1 : ((i + 1 : Nat) : Int) = (i : Int) + 1 := by omega
      rw [e1]; exact he'
    · have hb' : b < s.heap.objs.size := by
        have e' : b = e ∨ b = it := by simpa using hb
        rcases e' with z | z
        · rw [z]; exact hel
        · rw [z]; exact hil
      rw [upd_ne (Nat.ne_of_lt hb')]
      exact (hf b hb).1
  done := by
    intro X hP hw hK hc i pins s σ H E I hf st hg
    subst hP hw hK
    obtain ⟨⟨old, he⟩, hit, hne⟩ := st
    obtain ⟨xs, hq, hx⟩ := hg
    obtain ⟨its, rv, p, hz⟩ := I.tuple hq
    obtain ⟨f0, f1, f2, f3, f4, f5⟩ := hf it (by simp)
    have hl := rv.length
    have hai : a ≠ it := fun z => by
      obtain ⟨o1, e1, c1, _⟩ := hit
      obtain ⟨o2, e2, c2, _⟩ := p
      rw [z, e1] at e2; cases e2
      rw [c1] at c2; simp at c2
    have hT : s.TypeIs (.ref e) "enumerate" := ⟨_, he, rfl⟩
    unfold pyNext
    refine wpAny_bind (wpAny_attempt (wpAny_callSpecial?_slot (name := Str.ofString "__next__") hT F.slot_enumerate_next
      (wpAny_call_entry F.slot_enumerate_next hT F.entry_enumerate_next ?_ (F.args_enumerate_next_1 _))))
    show wpAny _ _ (field (.ref e) 2 >>= _) _ _ _
    refine wpAny_bind (wpAny_field he rfl (x := .ref it) rfl ?_)
    refine wpAny_bind (wpAny_nextOf_tuple_end (I.ok.hd hc) hit p (by simp; omega) fun h' x he' hx' => ?_)
    obtain ⟨o, ho, hc⟩ := hx'
    refine wpAny_bind (wpAny_isInstance (T := "StopIteration") (b := true) ⟨o, ho, hc⟩ isSubtype_stop ?_)
    exact wpAny_pure ⟨rfl, I.turned (t' := s.toks) (fun b o hb q => he' b o hb q) f0 f1 f3 f4 f5⟩
  self := fun A i s Q E st h => let ⟨⟨_, he⟩, _⟩ := st; wpAny_pyIter_enum he h
def iEnumT (K : PySem.W.Frag) (ta : TA) : TI := fun σ H R => ta σ H fun vs H1 => ∃ a xs, vs = [.ref a] ∧ SqT K H1 a xs ∧ R (Itet K a) H1
theorem pi_enumT {X : Cx} {e : Expr} {ta : TA} {p pos tpos : Pos} {elts : List Expr} {kk : Nat} (hg : Gl X "enumerate") (hm : X.mg "enumerate" = none) (ha : PA X [e] ta) (hs : starEach [e] X.env = [(false, eval e X.env)] := by rfl) :
    PI X (.Tuple elts kk tpos) (.Call (.Name "enumerate" p) [e] [] pos) (iEnumT X.K ta) := by
  refine ⟨fun pins s σ H R I h => ?_⟩
  refine Call_ (ld_blt I hg hm boot_enumerate (PyProof.Rows.callWith_type1 (thn (ha.run pos pins s σ H _ I h) fun us s1 ⟨vs, H1, I1, r1, q1⟩ => ?_) hs rfl))
  obtain ⟨a, xs, ex, hq, q⟩ := q1
  subst ex
  cases r1 with
  | cons r rr =>
    cases rr
    cases r
    obtain ⟨its, rv, p', hz⟩ := I1.tuple hq
    refine my_call_enumT p' fun h' he hit hsz hk => wpAny_pyIter_enum he ?_
    have I2 : Inv X pins σ H1 { s1 with heap := h' } := I1.kept (t' := s1.toks) hk
    refine ⟨s1.heap.objs.size + 1, [s1.heap.objs.size + 1, s1.heap.objs.size], _, _, H1, rfl, I2, turn_enumT a (s1.heap.objs.size + 1) s1.heap.objs.size, ⟨⟨.none, he⟩, hit, Nat.succ_ne_self _⟩, fun b hb => ?_, q⟩
    have e' : b = s1.heap.objs.size + 1 ∨ b = s1.heap.objs.size := by simpa using hb
    have hle : s1.heap.objs.size ≤ b := by
      rcases e' with z | z
      · rw [z]; exact Nat.le_add_right _ _
      · rw [z]; exact Nat.le_refl _
    exact I1.fpOk hle (I1.hok.fresh hle)
end L2
namespace L2
open PySem PySem.Spec PyProof.Rows
/-! ### xs.count(y) of flat things -/
theorem my_countU {y : V} : ∀ {us : List Value} {ys : List V}, Vals ys us → ys.all flatV = true → us.countP (eqU y) = ys.countP (fun z => eqV z y)
  | _, _, .nil, _ => rfl
  | _, _, .cons (a := z) (b := u) r t, h => by
    rw [List.all_cons, Bool.and_eq_true] at h
    rw [List.countP_cons, List.countP_cons, my_countU t h.2, eqU_of r h.1]
def rCntV (K : PySem.W.Frag) : V → List V → Hp → VK → Prop := fun x xs H Q => ∃ (p : Addr) (ys : List V) (y : V), x = .ref p ∧ xs = [y] ∧ SqL K H p ys ∧ flatV y = true ∧ ys.all flatV = true ∧ Q (.int (ys.countP (fun z => eqV z y) : Nat)) H
theorem mt_countV {X : Cx} : MtR X "list.count" (rCntV X.K) := by
  intro pins s σ H x xs v us Q I rx rxs h
  obtain ⟨p, ys, y, rfl, rfl, hs, fy, fys, q⟩ := h
  cases rx
  obtain ⟨u, rfl, ru⟩ := rxs.one
  obtain ⟨its, rv, ⟨⟨cls, dd, data, sl⟩, n, ho, hc, hdn, hd⟩, hlen⟩ := I.list hs
  simp only at hc hd
  subst hc hd
  refine call_meets PySem.F.slot_list_count ⟨_, ho, rfl⟩ PySem.F.entry_list_count (PySem.F.args_list_count_2 _ _)
    (SeqAt.list_countAt p its.toArray n dd sl u (eqU y)) ⟨ho, fun u' hu' => mem_eqAt ru fy rv fys u' (by simpa using hu'), ?_⟩
  have ec : its.toArray.toList.countP (eqU y) = ys.countP (fun z => eqV z y) := my_countU rv fys
  refine ⟨.int (ys.countP (fun z => eqV z y) : Nat), H, I.tok _, ⟨s.toks, ?_⟩, q⟩
  show Value.int ((its.toArray.toList.countP (eqU y) : Nat) : Int) s.toks = Value.int ((ys.countP (fun z => eqV z y) : Nat) : Int) s.toks
  rw [ec]
end L2

namespace My
open PySem PySem.Spec PyProof.Rows L2
/-! ### primes -/
def PrimeI (n : Int) : Prop := 2 ≤ n ∧ ∀ d : Int, 2 ≤ d → d < n → n % d ≠ 0
theorem sq_le {a m n : Int} (h0 : 0 ≤ a) (hm : 0 ≤ m) (h : a * a ≤ n) (hn : n < (m + 1) * (m + 1)) : a ≤ m := by
  by_cases c : a ≤ m
  · exact c
  · have h1 : m + 1 ≤ a := by omega
    have h2 : (m + 1) * (m + 1) ≤ a * a := Int.mul_le_mul h1 h1 (by omega) h0
    omega
theorem prime_of_small {n k : Int} (hn : 2 ≤ n) (hk : 2 ≤ k) (hkk : n < k * k) (h : ∀ d : Int, 2 ≤ d → d < k → n % d ≠ 0) : PrimeI n := by
  refine ⟨hn, fun d h2 hd hz => ?_⟩
  by_cases c : d < k
  · exact h d h2 c hz
  · have e : n = d * (n / d) := by
      have := Int.mul_ediv_add_emod n d
      omega
    have he2 : 2 ≤ n / d := by
      by_cases c2 : 2 ≤ n / d
      · exact c2
      · have h1 : n / d ≤ 1 := by omega
        have h3 : d * (n / d) ≤ d * 1 := Int.mul_le_mul_of_nonneg_left h1 (by omega)
        omega
    have hek : n / d < k := by
      by_cases c2 : n / d < k
      · exact c2
      · have h1 : k * k ≤ d * (n / d) := Int.mul_le_mul (by omega) (by omega) (by omega) (by omega)
        omega
    refine h (n / d) he2 hek ?_
    have e2 : n = n / d * d := by rw [Int.mul_comm]; exact e
    rw [e2, Int.mul_ediv_cancel _ (by omega)]
    exact Int.mul_emod_right _ _
theorem even_div {n d : Int} (hn : n % 2 = 1) (hd : d % 2 = 0) (h0 : 2 ≤ d) : n % d ≠ 0 := fun hz => by
  have e : n = d * (n / d) := by
    have := Int.mul_ediv_add_emod n d
    omega
  have e2 : d = 2 * (d / 2) := by omega
  have e3 : n = 2 * (d / 2 * (n / d)) := by
    rw [← Int.mul_assoc, ← e2]; exact e
  have e4 : n % 2 = 0 := by rw [e3]; exact Int.mul_emod_right _ _
  omega
theorem not_prime_of {n d : Int} (h2 : 2 ≤ d) (hd : d < n) (hz : n % d = 0) : ¬ PrimeI n := fun h => h.2 d h2 hd hz
/-! ### lists of values that stand for lists of things -/
inductive AllP {α : Type} (R : α → V → Prop) : List α → List V → Prop
  | nil : AllP R [] []
  | cons {x : α} {v : V} {xs : List α} {vs : List V} : R x v → AllP R xs vs → AllP R (x :: xs) (v :: vs)
theorem AllP.mono {α : Type} {R S : α → V → Prop} (h : ∀ x v, R x v → S x v) : ∀ {xs : List α} {vs : List V}, AllP R xs vs → AllP S xs vs
  | _, _, .nil => .nil
  | _, _, .cons r t => .cons (h _ _ r) (AllP.mono h t)
theorem AllP.len {α : Type} {R : α → V → Prop} : ∀ {xs : List α} {vs : List V}, AllP R xs vs → vs.length = xs.length
  | _, _, .nil => rfl
  | _, _, .cons _ t => congrArg (· + 1) (AllP.len t)
theorem AllP.get {α : Type} {R : α → V → Prop} : ∀ {xs : List α} {vs : List V} {i : Nat} {v : V}, AllP R xs vs → vs[i]? = some v → ∃ x, xs[i]? = some x ∧ R x v
  | _, _, i, v, .nil, h => by simp at h
  | _, _, 0, v, .cons r _, h => by
    have e : _ = v := Option.some.inj h
    subst e
    exact ⟨_, rfl, r⟩
  | _, _, i + 1, v, .cons _ t, h => by
    obtain ⟨x, h1, h2⟩ := AllP.get (i := i) t (by simpa using h)
    exact ⟨x, by simpa using h1, h2⟩
theorem AllP.get' {α : Type} {R : α → V → Prop} : ∀ {xs : List α} {vs : List V} {i : Nat} {x : α}, AllP R xs vs → xs[i]? = some x → ∃ v, vs[i]? = some v ∧ R x v
  | _, _, i, v, .nil, h => by simp at h
  | _, _, 0, v, .cons r _, h => by
    have e : _ = v := Option.some.inj h
    subst e
    exact ⟨_, rfl, r⟩
  | _, _, i + 1, v, .cons _ t, h => by
    obtain ⟨x, h1, h2⟩ := AllP.get' (i := i) t (by simpa using h)
    exact ⟨x, by simpa using h1, h2⟩
theorem AllP.snoc {α : Type} {R : α → V → Prop} {x : α} {v : V} (r : R x v) : ∀ {xs : List α} {vs : List V}, AllP R xs vs → AllP R (xs ++ [x]) (vs ++ [v])
  | _, _, .nil => .cons r .nil
  | _, _, .cons q t => .cons q (AllP.snoc r t)
/-- a list's item as the walk asks it -/
theorem at_str {xs : List Str} {i : Nat} {v : V} (h : (xs.map V.str)[i]? = some v) : ∃ x, xs[i]? = some x ∧ v = .str x := by
  rw [List.getElem?_map] at h
  cases e : xs[i]? with
  | none => rw [e] at h; cases h
  | some x => rw [e] at h; exact ⟨x, rfl, (Option.some.inj h).symm⟩
theorem at_int {xs : List Int} {i : Nat} {v : V} (h : (xs.map V.int)[i]? = some v) : ∃ x, xs[i]? = some x ∧ v = .int x := by
  rw [List.getElem?_map] at h
  cases e : xs[i]? with
  | none => rw [e] at h; cases h
  | some x => rw [e] at h; exact ⟨x, rfl, (Option.some.inj h).symm⟩
theorem flat_strs (xs : List Str) : (xs.map V.str).all flatV = true := by
  rw [List.all_eq_true]
  intro v hv
  obtain ⟨x, _, rfl⟩ := List.mem_map.mp hv
  rfl
theorem flat_ints (xs : List Int) : (xs.map V.int).all flatV = true := by
  rw [List.all_eq_true]
  intro v hv
  obtain ⟨x, _, rfl⟩ := List.mem_map.mp hv
  rfl
theorem inV_strs (x : Str) (xs : List Str) : inV (.str x) (xs.map V.str) = decide (x ∈ xs) := by
  induction xs with
  | nil => rfl
  | cons y r ih =>
    have e : inV (.str x) ((y :: r).map V.str) = (y == x || inV (.str x) (r.map V.str)) := rfl
    rw [e, ih]
    by_cases c : y = x
    · subst c; simp
    · have c' : ¬ x = y := fun z => c z.symm
      simp [c, c']
theorem count_strs (x : Str) (xs : List Str) : (xs.map V.str).countP (fun z => eqV z (.str x)) = xs.count x := by
  induction xs with
  | nil => rfl
  | cons y r ih =>
    rw [List.map_cons, List.countP_cons, ih, List.count_cons]
    rfl
theorem take_more {α : Type} : ∀ {l : List α} {i : Nat} {x : α}, l[i]? = some x → l.take (i + 1) = l.take i ++ [x]
  | [], i, x, h => by simp at h
  | a :: l, 0, x, h => by
    have e : a = x := Option.some.inj h
    subst e
    rfl
  | a :: l, i + 1, x, h => by
    have ih := take_more (l := l) (i := i) (x := x) h
    show a :: l.take (i + 1) = a :: l.take i ++ [x]
    rw [ih]
    rfl
theorem lt_of_at {α : Type} {l : List α} {i : Nat} {x : α} (h : l[i]? = some x) : i < l.length := (List.getElem?_eq_some_iff.mp h).1
/-! ### trees -/
inductive Op4 | and | or | odd | same
  deriving DecidableEq
def Op4.word : Op4 → Str
  | .and => "and"
  | .or => "or"
  | .odd => "odd"
  | .same => "same"
inductive Tree | is (x : Str) | yes | no | not (a : Tree) | bin (o : Op4) (a b : Tree)
namespace Tree
def names : Tree → List Str
  | .is x => [x]
  | .yes => []
  | .no => []
  | .not a => a.names
  | .bin _ a b => a.names ++ b.names
def size : Tree → Nat
  | .is _ => 1
  | .yes => 1
  | .no => 1
  | .not a => 1 + a.size
  | .bin _ a b => 1 + (a.size + b.size)
def depth : Tree → Nat
  | .is _ => 1
  | .yes => 1
  | .no => 1
  | .not a => a.depth + 1
  | .bin _ a b => max a.depth b.depth + 1
def kids : Tree → List Tree
  | .is _ => []
  | .yes => []
  | .no => []
  | .not a => [a]
  | .bin _ a b => [a, b]
theorem names_kids (t : Tree) (h : ∀ x, t ≠ .is x) : t.names = (t.kids.map names).flatten := by
  cases t with
  | is x => exact absurd rfl (h x)
  | yes => rfl
  | no => rfl
  | not a => simp [kids, names]
  | bin o a b => simp [kids, names]
theorem names_le : ∀ t : Tree, t.names.length ≤ t.size
  | .is _ => Nat.le_refl _
  | .yes => Nat.zero_le _
  | .no => Nat.zero_le _
  | .not a => Nat.le_trans (names_le a) (by show a.size ≤ 1 + a.size; omega)
  | .bin _ a b => by
    show (a.names ++ b.names).length ≤ 1 + (a.size + b.size)
    have h1 := names_le a
    have h2 := names_le b
    rw [List.length_append]; omega
end Tree
def TreeAt (H : Hp) : Tree → V → Prop
  | .is x, v => ∃ p, v = .ref p ∧ H p = some (.tup [.str "is", .str x])
  | .yes, v => ∃ p, v = .ref p ∧ H p = some (.tup [.str "yes"])
  | .no, v => ∃ p, v = .ref p ∧ H p = some (.tup [.str "no"])
  | .not a, v => ∃ p va, v = .ref p ∧ H p = some (.tup [.str "not", va]) ∧ TreeAt H a va
  | .bin o a b, v => ∃ p va vb, v = .ref p ∧ H p = some (.tup [.str o.word, va, vb]) ∧ TreeAt H a va ∧ TreeAt H b vb
theorem TreeAt.step {l : List Addr} {H H' : Hp} (e : Stp l H H') : ∀ (t : Tree) (v : V), TreeAt H t v → TreeAt H' t v
  | .is x, v, ⟨p, h1, h2⟩ => ⟨p, h1, e.t _ _ h2⟩
  | .yes, v, ⟨p, h1, h2⟩ => ⟨p, h1, e.t _ _ h2⟩
  | .no, v, ⟨p, h1, h2⟩ => ⟨p, h1, e.t _ _ h2⟩
  | .not a, v, ⟨p, va, h1, h2, h3⟩ => ⟨p, va, h1, e.t _ _ h2, TreeAt.step e a va h3⟩
  | .bin o a b, v, ⟨p, va, vb, h1, h2, h3, h4⟩ => ⟨p, va, vb, h1, e.t _ _ h2, TreeAt.step e a va h3, TreeAt.step e b vb h4⟩
abbrev TreesAt (H : Hp) : List Tree → List V → Prop := AllP (TreeAt H)
theorem TreesAt.step {l : List Addr} {H H' : Hp} (e : Stp l H H') {ts : List Tree} {vs : List V} (h : TreesAt H ts vs) : TreesAt H' ts vs := AllP.mono (fun t v => TreeAt.step e t v) h
/-- a tree's own tuple: its word, its parts -/
def Tree.word : Tree → Str
  | .is _ => "is"
  | .yes => "yes"
  | .no => "no"
  | .not _ => "not"
  | .bin o _ _ => o.word
theorem tree_tup {H : Hp} {t : Tree} {v : V} (h : TreeAt H t v) : ∃ p xs, v = .ref p ∧ H p = some (.tup (.str t.word :: xs)) ∧ (∀ x, t = .is x → xs = [.str x]) ∧ ((∀ x, t ≠ .is x) → TreesAt H t.kids xs) := by
  cases t with
  | is x => obtain ⟨p, rfl, h2⟩ := h; exact ⟨p, [.str x], rfl, h2, fun y e => (by cases e; rfl), fun z => absurd rfl (z x)⟩
  | yes => obtain ⟨p, rfl, h2⟩ := h; exact ⟨p, [], rfl, h2, fun y e => (by cases e), fun _ => .nil⟩
  | no => obtain ⟨p, rfl, h2⟩ := h; exact ⟨p, [], rfl, h2, fun y e => (by cases e), fun _ => .nil⟩
  | not a => obtain ⟨p, va, rfl, h2, h3⟩ := h; exact ⟨p, [va], rfl, h2, fun y e => (by cases e), fun _ => .cons h3 .nil⟩
  | bin o a b => obtain ⟨p, va, vb, rfl, h2, h3, h4⟩ := h; exact ⟨p, [va, vb], rfl, h2, fun y e => (by cases e), fun _ => .cons h3 (.cons h4 .nil)⟩
theorem word_is (t : Tree) : t.word = "is" ↔ ∃ x, t = .is x := by
  constructor
  · intro h
    cases t with
    | is x => exact ⟨x, rfl⟩
    | yes => exact absurd h (by decide +kernel)
    | no => exact absurd h (by decide +kernel)
    | not a => exact absurd (show ("not" : Str) = "is" from h) (by decide +kernel)
    | bin o a b =>
      have h' : o.word = "is" := h
      cases o <;> exact absurd h' (by decide +kernel)
  · rintro ⟨x, rfl⟩; rfl
end My
namespace My
open PySem PySem.Spec PyProof.Rows L2
theorem at0 {x : V} {xs : List V} : atI (x :: xs) 0 = some x := atI_nat (j := 0) rfl
theorem at1 {x y : V} {xs : List V} : atI (x :: y :: xs) 1 = some y := atI_nat (j := 1) rfl
theorem at2 {x y z : V} {xs : List V} : atI (x :: y :: z :: xs) 2 = some z := atI_nat (j := 2) rfl
theorem at3 {x y z u : V} {xs : List V} : atI (x :: y :: z :: u :: xs) 3 = some u := atI_nat (j := 3) rfl
end My

/-! the rules whose reading names the written part, with that part as a letter of its own (a comprehension's block is another Cx, of the same part) -/
namespace L2
open PySem PySem.Spec PyProof.Rows
section
variable {X : Cx} {K : PySem.W.Frag}
theorem k_ix_list (hK : X.K = K := by rfl) : IxR X (rIxL K) := by subst hK; exact ix_list
theorem k_ix_tup (hK : X.K = K := by rfl) : IxR X (rIxT K) := by subst hK; exact ix_tup
theorem k_sl_list (hK : X.K = K := by rfl) : SlR X (rSlL K) := by subst hK; exact sl_list
theorem k_sl_tup (hK : X.K = K := by rfl) : SlR X (rSlA K) := by subst hK; exact sl_tupA
theorem k_in_seq (hK : X.K = K := by rfl) : OpR X (compareOp .In) (rIn K false) := by subst hK; exact op_in_seq
theorem k_notIn_seq (hK : X.K = K := by rfl) : OpR X (compareOp .NotIn) (rIn K true) := by subst hK; exact op_notIn_seq
theorem k_eqD (hu : X.A.units + 64 < cLine) (hK : X.K = K := by rfl) : OpR X (compareOp .Eq) (rEqD K) := by subst hK; exact op_eqD hu
theorem k_neD (hu : X.A.units + 64 < cLine) (hK : X.K = K := by rfl) : OpR X (compareOp .NotEq) (rNeD K) := by subst hK; exact op_neD hu
theorem k_catT (hK : X.K = K := by rfl) : OpR X (binaryOp .Add) (rCatA K) := by subst hK; exact op_catA
theorem k_repT (hK : X.K = K := by rfl) : OpR X (binaryOp .Mult) (rRepT K) := by subst hK; exact op_repT
def rLenK (K : PySem.W.Frag) : List V → Hp → VK → Prop := fun xs H Q => ∃ p ys, xs = [.ref p] ∧ (SqL K H p ys ∨ SqT K H p ys) ∧ Q (.int ys.length) H
theorem k_len (hK : X.K = K := by rfl) : CallR X (.builtin "len") (rLenK K) := by subst hK; exact call_len_seq
def rToList (K : PySem.W.Frag) : List V → Hp → VK → Prop := fun xs H Q => ∃ p ys, xs = [.ref p] ∧ (SqL K H p ys ∨ SqT K H p ys) ∧ ∀ l, H l = none → Q (.ref l) (upd H l (.lst ys))
theorem k_list_of (hK : X.K = K := by rfl) : CallR X (.type "list") (rToList K) := by subst hK; exact call_list_of
def rToTup (K : PySem.W.Frag) : List V → Hp → VK → Prop := fun xs H Q => ∃ p ys, xs = [.ref p] ∧ ((SqL K H p ys ∧ ∀ l, H l = none → Q (.ref l) (upd H l (.tup ys))) ∨ (SqT K H p ys ∧ Q (.ref p) H))
theorem k_tuple_of (hK : X.K = K := by rfl) : CallR X (.type "tuple") (rToTup K) := by subst hK; exact call_tuple_of
theorem k_sum (hc : X.calm = true) (hK : X.K = K := by rfl) : CallR X (.builtin "sum") (rSum K) := by subst hK; exact cr_sum hc
theorem k_max (hc : X.calm = true) (hK : X.K = K := by rfl) : CallR X (.builtin "max") (rMax K) := by subst hK; exact cr_max hc
theorem k_min (hc : X.calm = true) (hK : X.K = K := by rfl) : CallR X (.builtin "min") (rMin K) := by subst hK; exact cr_min hc
theorem k_all (hc : X.calm = true) (hK : X.K = K := by rfl) : CallR X (.builtin "all") (rAll K) := by subst hK; exact cr_all hc
theorem k_any (hc : X.calm = true) (hK : X.K = K := by rfl) : CallR X (.builtin "any") (rAny K) := by subst hK; exact cr_any hc
theorem k_isi (hK : X.K = K := by rfl) : CallR X (.builtin "isinstance") (rIsi K) := by subst hK; exact call_isi
theorem k_isiT (hK : X.K = K := by rfl) : CallR X (.builtin "isinstance") (rIsiT K) := by subst hK; exact call_isiT
theorem k_index (hK : X.K = K := by rfl) : MtR X "list.index" (rIndex K) := by subst hK; exact mt_index
theorem k_countV (hK : X.K = K := by rfl) : MtR X "list.count" (rCntV K) := by subst hK; exact mt_countV
theorem k_lcount (hK : X.K = K := by rfl) : MtR X "list.count" (rCntI K) := by subst hK; exact mt_lcount
theorem k_fld {e : Expr} {f : Str} {ta : TE} {pos : Pos} (he : PE X e ta) (hb : attributeBase e f X.env (eval e X.env) = eval e X.env) (hK : X.K = K := by rfl) : PE X (.Attribute e f pos) (tFld K ta f) := by subst hK; exact pe_fld he hb
theorem ks_fld {o value : Expr} {f : Str} {ta tv : TE} {pos pos' : Pos} (ha : PE X o ta) (hv : PE X value tv) (hs : swapsWith value (some (.Attribute o f pos')) pos.line X.env = pure false) (hK : X.K = K := by rfl) :
    PS X (.Assign [.Attribute o f pos'] value pos) (sFld K ta tv f) := by subst hK; exact ps_fld ha hv hs
theorem ks_fldaug {o value : Expr} {f : Str} {ta tv : TE} {op : Operator} {rd : V → V → Hp → VK → Prop} {pos tpos : Pos} (ha : PE X o ta) (hv : PE X value tv) (hop : InOp X op rd) (hK : X.K = K := by rfl) :
    PS X (.AugAssign (.Attribute o f tpos) op value pos) (sFldAug K ta tv rd f) := by subst hK; exact ps_fldaug ha hv hop
theorem ki_list {tg l : Expr} {tl : TE} (hl : PE X l tl) (hK : X.K = K := by rfl) : PI X tg l (iList K tl) := by subst hK; exact pi_list hl
theorem ki_tup {tg l : Expr} {tl : TE} (hl : PE X l tl) (hK : X.K = K := by rfl) : PI X tg l (iTup K tl) := by subst hK; exact pi_tup hl
theorem ki_enum {e : Expr} {ta : TA} {p pos tpos : Pos} {elts : List Expr} {kk : Nat} (hg : Gl X "enumerate") (hm : X.mg "enumerate" = none) (ha : PA X [e] ta) (hs : starEach [e] X.env = [(false, eval e X.env)] := by rfl) (hK : X.K = K := by rfl) :
    PI X (.Tuple elts kk tpos) (.Call (.Name "enumerate" p) [e] [] pos) (iEnum K ta) := by subst hK; exact pi_enum hg hm ha hs
theorem ki_enumT {e : Expr} {ta : TA} {p pos tpos : Pos} {elts : List Expr} {kk : Nat} (hg : Gl X "enumerate") (hm : X.mg "enumerate" = none) (ha : PA X [e] ta) (hs : starEach [e] X.env = [(false, eval e X.env)] := by rfl) (hK : X.K = K := by rfl) :
    PI X (.Tuple elts kk tpos) (.Call (.Name "enumerate" p) [e] [] pos) (iEnumT K ta) := by subst hK; exact pi_enumT hg hm ha hs
theorem ki_rev {tg e : Expr} {te : TE} {p pos : Pos} (hg : Gl X "reversed") (hm : X.mg "reversed" = none) (he : PE X e te) (hs : starEach [e] X.env = (false, eval e X.env) :: starEach [] X.env := by rfl) (hK : X.K = K := by rfl) :
    PI X tg (.Call (.Name "reversed" p) [e] [] pos) (RT.iRevA K te) := by subst hK; exact RT.pi_revA hg hm he hs
theorem ki_zip {e e2 : Expr} {ta : TA} {p pos tpos : Pos} {elts : List Expr} {kk : Nat} (hg : Gl X "zip") (hm : X.mg "zip" = none) (ha : PA X [e, e2] ta)
    (hs : starEach [e, e2] X.env = (false, eval e X.env) :: starEach [e2] X.env := by rfl) (hpl : (backTo pos (starEach [e2] X.env)).any (·.1) = false := by rfl) (hK : X.K = K := by rfl) :
    PI X (.Tuple elts kk tpos) (.Call (.Name "zip" p) [e, e2] [] pos) (iZip K ta) := by subst hK; exact pi_zip hg hm ha hs hpl
def rJoin (K : PySem.W.Frag) : V → List V → Hp → VK → Prop := fun x xs H Q => ∃ a p, ∃ ys : List Str, x = .str a ∧ xs = [.ref p] ∧ (SqL K H p (ys.map V.str) ∨ SqT K H p (ys.map V.str)) ∧ (ys.map (·.length)).sum + ys.length * a.length ≤ 16777216 ∧ Q (.str (Txt.join a ys)) H
theorem k_pgtup {es : List Expr} {k : Nat} {t : TGs} {n : Nat} {pos : Pos} (hc : X.calm = true) (h : PGs X es t)
    (hn : (assignEach es X.env).length = n := by rfl) (hst : (assignEach es X.env).findIdx? (·.1) = none := by rfl) (hK : X.K = K := by rfl) : PG X (.Tuple es k pos) (gTup K n t) := by subst hK; exact pg_tup hc h hn hst
theorem k_join {o e : Expr} {to te : TE} {apos pos : Pos} (ho : PE X o to) (he : PE X e te) (hs : starEach [e] X.env = [(false, eval e X.env)] := by rfl) (hbase : attributeBase o "join" X.env (eval o X.env) = eval o X.env := by rfl) (hline : (apos.endLine == pos.line) = true := by rfl) (hK : X.K = K := by rfl) :
    PE X (.Call (.Attribute o "join" apos) [e] [] pos) (tM1 (rJoin K) to te) := by subst hK; exact pe_join ho he hs hbase hline
section
variable {T id : String} {name : Str} {r : V → List V → Hp → VK → Prop} {o e : Expr} {es : List Expr} {to : TE} {t : TA} {apos cpos : Pos}
theorem k_bm0 (pa : PlainAttrs T) (slot : Slot T name id) (hty : typeOf (.builtin id) = pure (.type "method_descriptor")) (hm : MtR X id r) (ho : PE X o to)
    (hbase : attributeBase o name X.env (eval o X.env) = eval o X.env := by rfl) (hline : (apos.endLine == cpos.line) = true := by rfl) (hK : X.K = K := by rfl) : PE X (.Call (.Attribute o name apos) [] [] cpos) (tBM0 K T r to) := by
  subst hK; exact pe_bm0 pa slot hty hm ho hbase hline
theorem k_bm (pa : PlainAttrs T) (slot : Slot T name id) (hty : typeOf (.builtin id) = pure (.type "method_descriptor")) (hm : MtR X id r) (ho : PE X o to) (ha : PA X (e :: es) t)
    (hbase : attributeBase o name X.env (eval o X.env) = eval o X.env := by rfl)
    (hfew : ((backTo cpos (starEach (e :: es) X.env)).all (fun x => !x.1) && (backToKw cpos (keywordEach [] X.env)).all (fun x => x.1.isSome)
      && decide ((e :: es).length + ([] : List Keyword).length + (if ([] : List Keyword).isEmpty then 0 else 1) < 30)) = true := by rfl)
    (hline : (apos.endLine == cpos.line) = true := by rfl) (hs : starEach (e :: es) X.env = (false, eval e X.env) :: starEach es X.env := by rfl) (hplain : (backTo cpos (starEach es X.env)).any (·.1) = false := by rfl) (hK : X.K = K := by rfl) :
    PE X (.Call (.Attribute o name apos) (e :: es) [] cpos) (tBM K T r to t) := by
  subst hK; exact pe_bm pa slot hty hm ho ha hbase hfew hline hs hplain
end
end
end L2
namespace L2
open PySem PySem.Spec PyProof.Rows
def rTupIx (K : PySem.W.Frag) : V → List V → Hp → VK → Prop := fun x xs H Q => ∃ p, ∃ ys : List Str, ∃ z j, x = .ref p ∧ xs = [.str z] ∧ SqT K H p (ys.map V.str) ∧ ys[j]? = some z ∧ (∀ m, m < j → ys[m]? ≠ some z) ∧ Q (.int (j : Nat)) H
theorem k_tup_index {X : Cx} {K : PySem.W.Frag} (hK : X.K = K := by rfl) : MtR X "tuple.index" (rTupIx K) := by subst hK; exact mt_tup_index
end L2

/-! tuples that are tracked with their own object (no dict of their own), so that their methods may be called -/
namespace L2
open PySem PySem.Spec PyProof.Rows
section
variable {X : Cx} {K : PySem.W.Frag}
/-- a tuple, its object known, without a dict -/
def TupF (H : Hp) (a : Addr) (xs : List V) : Prop := ∃ o, H a = some (.frz o (.tup xs)) ∧ o.dict = none
theorem TupF.sq {H : Hp} {a : Addr} {xs : List V} (h : TupF H a xs) : SqT K H a xs := let ⟨o, e, _⟩ := h; .inl (.inr ⟨o, e⟩)
def tTupF (t : TA) : TE := fun σ H Q => t σ H fun xs H1 => xs.length ≤ sizeLine ∧ ∀ p o, H1 p = none → o.dict = none → Q (.ref p) (upd H1 p (.frz o (.tup xs)))
theorem pe_tupF {es : List Expr} {t : TA} {pos : Pos} {x1} (h : PA X es t) : PE X (.Tuple es x1 pos) (tTupF t) := by
  refine ⟨fun pins s σ H Q I hq => ?_⟩
  refine wpAny_Tuple_spliced (thn (h.run pos pins s σ H _ I hq) fun us s1 ⟨xs, H1, I1, r, z, q⟩ => ⟨by rw [← r.length]; exact z, ?_⟩)
  have hf : H1 s1.heap.objs.size = none := I1.hok.fresh (Nat.le_refl _)
  refine ⟨.ref s1.heap.objs.size, upd H1 s1.heap.objs.size (.frz { cls := .type "tuple", data := .seq us.toArray } (.tup xs)), I1.laid (t' := s1.toks) (fun b u e => Heap.get?_push_of_some _ e) (Nat.le_refl _) ?_, rfl, q _ _ hf rfl⟩
  exact ⟨Heap.get?_push_size _ rfl, z, us, r, ⟨_, Heap.get?_push_size _ rfl, rfl, _, rfl⟩⟩
def rToTupF (K : PySem.W.Frag) : List V → Hp → VK → Prop := fun xs H Q => ∃ p ys, xs = [.ref p] ∧ ((SqL K H p ys ∧ ∀ l o, H l = none → o.dict = none → Q (.ref l) (upd H l (.frz o (.tup ys)))) ∨ (SqT K H p ys ∧ Q (.ref p) H))
theorem k_tuple_ofF (hK : X.K = K := by rfl) : CallR X (.type "tuple") (rToTupF K) := by
  subst hK
  intro pins s σ H xs us Q I r h
  obtain ⟨p, ys, rfl, h⟩ := h
  obtain ⟨u, rfl, rx⟩ := vals1 r
  cases rx
  rcases h with ⟨hq, q⟩ | ⟨hq, q⟩
  · obtain ⟨its, r', pl, hz⟩ := I.list hq
    have hlen := r'.length
    refine call_tuple_list pl.isList (fun h' kp => ?_) (by simp only [List.size_toArray] <;> omega)
    have I1 : Inv X pins σ H { s with heap := h' } := I.kept (t' := s.toks) kp
    have I2 : Inv X pins σ (upd H h'.objs.size (.frz { cls := .type "tuple", data := .seq its.toArray } (.tup ys))) { s with heap := h'.push { cls := .type "tuple", data := .seq its.toArray } } :=
      I1.laid (t' := s.toks) (fun b o e => Heap.get?_push_of_some _ e) (Nat.le_refl _) (show ObjOk X.prog X.w _ _ _ (.frz _ (.tup ys)) from ⟨Heap.get?_push_size _ rfl, hz, its, r', IsTup.new _ _⟩)
    exact ⟨.ref h'.objs.size, _, I2, rfl, q _ _ (I1.hok.fresh (Nat.le_refl _)) rfl⟩
  · obtain ⟨its, r', pl, hz⟩ := I.tuple hq
    exact call_tuple_same pl ⟨.ref p, H, I, rfl, q⟩
section
variable {id : String} {name : Str} {r : V → List V → Hp → VK → Prop} {o e : Expr} {es : List Expr} {to : TE} {t : TA} {apos cpos : Pos}
def tBMF (r : V → List V → Hp → VK → Prop) (to : TE) (t : TA) : TE := fun σ H Q => to σ H fun x H1 => (∃ p xs, x = .ref p ∧ TupF H1 p xs) ∧ t σ H1 fun xs H2 => r x xs H2 Q
theorem k_bmF (pa : PlainAttrs "tuple") (slot : Slot "tuple" name id) (hty : typeOf (.builtin id) = pure (.type "method_descriptor")) (hm : MtR X id r) (ho : PE X o to) (ha : PA X (e :: es) t)
    (hbase : attributeBase o name X.env (eval o X.env) = eval o X.env := by rfl)
    (hfew : ((backTo cpos (starEach (e :: es) X.env)).all (fun x => !x.1) && (backToKw cpos (keywordEach [] X.env)).all (fun x => x.1.isSome)
      && decide ((e :: es).length + ([] : List Keyword).length + (if ([] : List Keyword).isEmpty then 0 else 1) < 30)) = true := by rfl)
    (hline : (apos.endLine == cpos.line) = true := by rfl) (hs : starEach (e :: es) X.env = (false, eval e X.env) :: starEach es X.env := by rfl) (hplain : (backTo cpos (starEach es X.env)).any (·.1) = false := by rfl) :
    PE X (.Call (.Attribute o name apos) (e :: es) [] cpos) (tBMF r to t) := by
  refine ⟨fun pins s σ H Q I h => ?_⟩
  refine wpAny_Call_method_late hbase hfew hline rfl (thn (ho.run pins s σ H _ I h) fun v s1 ⟨x, H1, I1, r1, ty, q1⟩ => ?_)
  obtain ⟨p, xs, rfl, ob, hob, hdn⟩ := ty
  obtain rfl : v = Value.ref p := r1
  obtain ⟨hp, hz, its, rv, hc⟩ := I1.hok _ _ hob
  refine ⟨"tuple", id, pa, slot, hty, hc.typeIs, fun a e => by cases e; exact ⟨ob, hp, hdn⟩, ?_⟩
  have hA := ha.run cpos pins s1 σ H1 _ I1 q1
  rw [hs] at hA ⊢
  refine Calls.callWith_builtin (by show (false || (backTo cpos (starEach es X.env)).any (·.1)) = false; rw [hplain] <;> rfl) (Calls.evalArgs_plain ?_)
  exact thn hA fun us s2 ⟨vs, H2, I2, r2, q2⟩ => hm pins s2 σ H2 (.ref p) vs _ us Q I2 rfl r2 q2
end
end
end L2
namespace L2
open PySem PySem.Spec PyProof.Rows
theorem for_enum {K : PySem.W.Frag} {a : Addr} {xs : List V} {g : TG} {tb : TS} {D : Ends} {σ : St} {H : Hp} (Pv : Nat → St → Hp → Prop) (h0 : Pv 0 σ H) (hl : ∀ i σ H, i ≤ xs.length → Pv i σ H → SqL K H a xs)
    (hs : ∀ i x σ H T, xs[i]? = some x → Pv i σ H → H T = none → g (.ref T) σ (upd H T (.tup [.int (i : Nat), x])) fun σ2 H2 => tb { D with nx := Pv (i + 1), ct := Pv (i + 1), bk := D.nx } σ2 H2) (hd : ∀ σ H, Pv xs.length σ H → D.nx σ H) :
    ∃ W : Nat → Nat → St → Hp → Prop, (∃ m, W 0 m σ H) ∧ ∀ i m σ H, W i m σ H →
      ((Ite K a).stop i H ∧ D.nx σ H) ∨ ((Ite K a).go i H ∧ ∃ N : St → Hp → Prop, (∀ σ' H', N σ' H' → ∃ m', m' < m ∧ W (i + 1) m' σ' H') ∧ ∀ x H', (Ite K a).yld i H x H' → g x σ H' fun σ2 H2 => tb { D with nx := N, ct := N, bk := D.nx } σ2 H2) := by
  refine ⟨fun i m σ H => m = xs.length - i ∧ i ≤ xs.length ∧ Pv i σ H, ⟨xs.length, by simp, Nat.zero_le _, h0⟩, ?_⟩
  rintro i m σ H ⟨rfl, hi, p⟩
  have q := hl i σ H hi p
  by_cases hlt : i < xs.length
  · refine .inr ⟨⟨xs, xs[i], q, by simp [hlt]⟩, Pv (i + 1), fun σ' H' p' => ⟨xs.length - (i + 1), by omega, rfl, hlt, p'⟩, fun x H' y => ?_⟩
    obtain ⟨T, z, rfl, hT, rfl, y⟩ := y
    exact hs i z σ _ T (y xs q) p hT
  · have e : i = xs.length := by omega
    subst e
    exact .inl ⟨⟨xs, q, Nat.le_refl _⟩, hd σ H p⟩
end L2

namespace My
/-! ### the inverse in a field -/
/-- a number between 0 and p by which a makes 1 -/
def IsInv (p a r : Int) : Prop := 0 ≤ r ∧ r < p ∧ (a * r) % p = 1
theorem emod_eq_of_sub {a b p : Int} (h : ∃ k, a - b = p * k) : a % p = b % p := by
  obtain ⟨k, hk⟩ := h
  have : a = b + p * k := by omega
  rw [this, Int.add_mul_emod_self_left]
theorem sub_of_emod_eq {a b p : Int} (h : a % p = b % p) : ∃ k, a - b = p * k := by
  have h1 := Int.mul_ediv_add_emod a p
  have h2 := Int.mul_ediv_add_emod b p
  refine ⟨a / p - b / p, ?_⟩
  rw [Int.mul_sub]; omega
theorem inv_unique {p a r s : Int} (hr : IsInv p a r) (hs : IsInv p a s) : r = s := by
  obtain ⟨r0, r1, r2⟩ := hr
  obtain ⟨s0, s1, s2⟩ := hs
  -- r = r * (a * s) = s * (a * r) = s, modulo p
  have e1 : (r * (a * s)) % p = r % p := by
    rw [Int.mul_emod, s2, Int.mul_one, Int.emod_emod]
  have e2 : (s * (a * r)) % p = s % p := by
    rw [Int.mul_emod, r2, Int.mul_one, Int.emod_emod]
  have e3 : r * (a * s) = s * (a * r) := by
    rw [← Int.mul_assoc, ← Int.mul_assoc, Int.mul_comm r a, Int.mul_comm s a, Int.mul_assoc, Int.mul_assoc, Int.mul_comm r s]
  rw [e3, e2, Int.emod_eq_of_lt s0 s1, Int.emod_eq_of_lt r0 r1] at e1
  exact e1.symm
/-- the inverse by looking for it -/
def invI (p a : Int) : Int := (((List.range p.toNat).find? fun (r : Nat) => decide ((a * (r : Int)) % p = 1)).getD 0 : Nat)
theorem invI_is {p a r : Int} (h : IsInv p a r) : IsInv p a (invI p a) := by
  unfold invI
  have hm : r.toNat ∈ List.range p.toNat := List.mem_range.mpr (by obtain ⟨a, b, _⟩ := h; omega)
  cases e : (List.range p.toNat).find? fun (r : Nat) => decide ((a * (r : Int)) % p = 1) with
  | none =>
    have := List.find?_eq_none.mp e r.toNat hm
    have h2 : ((r.toNat : Nat) : Int) = r := by obtain ⟨a, _, _⟩ := h; omega
    rw [h2] at this
    exact absurd (decide_eq_true h.2.2) this
  | some x =>
    have h1 := List.find?_some e
    have h2 := List.mem_range.mp (List.mem_of_find?_eq_some e)
    have h3 : (a * (x : Int)) % p = 1 := of_decide_eq_true h1
    refine ⟨Int.natCast_nonneg _, ?_, h3⟩
    show ((x : Nat) : Int) < p
    omega
theorem inv_eq {p a r : Int} (h : IsInv p a r) : r = invI p a := inv_unique h (invI_is h)
/-! ### the rule's value elsewhere, by differences -/
def diffsM (p : Int) : List Int → List Int
  | x :: y :: r => (y - x) % p :: diffsM p (y :: r)
  | _ => []
theorem diffsM_len (p : Int) : ∀ l : List Int, (diffsM p l).length = l.length - 1
  | [] => rfl
  | [_] => rfl
  | x :: y :: r => by
    show (diffsM p (y :: r)).length + 1 = _
    rw [diffsM_len p (y :: r)]; rfl
theorem diffsM_get (p : Int) : ∀ (l : List Int) (i : Nat) (x y : Int), l[i]? = some x → l[i + 1]? = some y → (diffsM p l)[i]? = some ((y - x) % p)
  | [], i, _, _, h, _ => by simp at h
  | [_], 0, _, _, _, h => by simp at h
  | [_], i + 1, _, _, h, _ => by simp at h
  | a :: b :: r, 0, x, y, h, h2 => by
    have e1 : a = x := Option.some.inj h
    have e2 : b = y := Option.some.inj h2
    subst e1 e2; rfl
  | a :: b :: r, i + 1, x, y, h, h2 => diffsM_get p (b :: r) i x y h h2
/-- n more turns from the k-th: left over, share, found -/
def newton (p r : Int) : Nat → Int → List Int → Int → Int → Int
  | 0, _, _, _, found => found
  | n + 1, k, left, share, found => newton p r n (k + 1) (diffsM p left) (if n = 0 then share else share * (r - k) * invI p (k + 1) % p) ((found + share * left.headD 0) % p)
def valueAt (p r : Int) (vs : List Int) : Int := newton p r vs.length 0 (vs.map (· % p)) 1 0
theorem diffsM_rng {p : Int} (h : 0 < p) : ∀ (l : List Int) (x : Int), x ∈ diffsM p l → 0 ≤ x ∧ x < p
  | [], x, hx => by cases hx
  | [_], x, hx => by cases hx
  | a :: b :: r, x, hx => by
    rcases List.mem_cons.mp hx with e | e
    · rw [e]; exact ⟨Int.emod_nonneg _ (by omega), Int.emod_lt_of_pos _ h⟩
    · exact diffsM_rng h (b :: r) x e
theorem newton_rng {p : Int} (h : 0 < p) (r : Int) : ∀ (n : Nat) (k : Int) (l : List Int) (s f : Int), 0 ≤ f ∧ f < p → 0 ≤ newton p r n k l s f ∧ newton p r n k l s f < p
  | 0, _, _, _, _, hf => hf
  | n + 1, k, l, s, f, _ => newton_rng h r n _ _ _ _ ⟨Int.emod_nonneg _ (by omega), Int.emod_lt_of_pos _ h⟩
theorem valueAt_rng {p : Int} (h : 0 < p) (r : Int) (vs : List Int) : 0 ≤ valueAt p r vs ∧ valueAt p r vs < p := newton_rng h r _ _ _ _ _ ⟨Int.le_refl 0, h⟩
/-! ### a and p have no common part -/
theorem gcd_inv {p a rest mine : Int} (h1 : (mine * a - rest) % p = 0) (h2 : rest = 1) (hp : 2 ≤ p) : IsInv p a (mine % p) := by
  refine ⟨Int.emod_nonneg _ (by omega), Int.emod_lt_of_pos _ (by omega), ?_⟩
  subst h2
  have e : (a * (mine % p)) % p = (mine * a) % p := by
    rw [Int.mul_emod, Int.emod_emod, ← Int.mul_emod, Int.mul_comm]
  rw [e]
  have e2 : (mine * a) % p = 1 % p := emod_eq_of_sub (by
    have := Int.dvd_of_emod_eq_zero h1
    obtain ⟨k, hk⟩ := this
    exact ⟨k, hk⟩)
  rw [e2]
  exact Int.emod_eq_of_lt (by omega) (by omega)
end My

namespace My
open PySem PySem.Spec PyProof.Rows L2
local macro_rules | `(tactic| walk_at "r1") => `(tactic| first
  | refine Exists.intro _ (And.intro rfl ?_)
  | refine Exists.intro _ (Exists.intro _ (And.intro rfl (And.intro rfl ?_)))
  | refine And.intro rfl ?_
  | refine And.intro (by omega) ?_
  | refine And.intro (Or.inl ⟨by omega, by omega⟩) ?_
  | refine And.intro (Or.inr ⟨by omega, by omega⟩) ?_
  | refine And.intro ⟨by decide, by decide, by decide⟩ ?_
  | refine And.intro (div_ok (by omega) (by omega)) ?_
  | refine Exists.intro _ (Exists.intro _ (And.intro rfl (And.intro (Or.inl (by first | assumption | exact .of upd_same)) ?_)))
  | refine Exists.intro _ (Exists.intro _ (Exists.intro _ (Exists.intro _ (And.intro rfl (And.intro rfl (And.intro (by first | assumption | exact .of upd_same) (And.intro rfl ?_)))))))
  | refine And.intro (by show _ ≤ sizeLine; decide) ?_)
local macro_rules | `(tactic| walk_at "r") => `(tactic| repeat walk_at "r1")
local macro_rules | `(tactic| walk_at "if") => `(tactic| (refine ite2 (fun c => ?_) (fun c => ?_) <;> simp only [decide_eq_true_eq] at c))
local macro_rules | `(tactic| walk_at "s") => `(tactic| dsimp only [tNext, tSeq, tIfS, gName])
variable {P : Program} {w : World} {K : PySem.W.Frag} {mg : Str → Option Value} {base : Heap}
/-! ### feeds -/
def FeedAt (H : Hp) (f : Addr) : Prop := ∃ o s : Int, H f = some (.lst [.int o, .int s]) ∧ 0 ≤ o ∧ 1 ≤ s ∧ s < 2147483648
theorem FeedAt.step {l : List Addr} {H H' : Hp} {f : Addr} (h : FeedAt H f) (e : Stp l H H') (hf : f ∉ l) : FeedAt H' f := let ⟨o, s, h1, h2⟩ := h; ⟨o, s, e.k _ _ h1 hf, h2⟩
theorem FeedAt.step0 {H H' : Hp} {f : Addr} (h : FeedAt H f) (e : Stp [] H H') : FeedAt H' f := h.step e (by simp)
theorem FeedAt.upd {H : Hp} {f p : Addr} {o : HO} (h : FeedAt H f) (hp : p ≠ f) : FeedAt (upd H p o) f := let ⟨o, s, h1, h2⟩ := h; ⟨o, s, by rw [upd_ne hp.symm]; exact h1, h2⟩
theorem FeedAt.ne {H : Hp} {f p : Addr} (h : FeedAt H f) (hp : H p = none) : p ≠ f := fun z => by
  obtain ⟨o, s, h1, _⟩ := h
  rw [z, h1] at hp; cases hp
def spFeed (K : PySem.W.Frag) : Sp := fun vs H Q _ => ∃ (a : Addr) (ns : List Int) (k : Int), vs = [.ref a, .int k] ∧ SqL K H a (ns.map V.int) ∧ ns.length ≤ 63 ∧ 0 ≤ k ∧ k ≤ 1000 ∧
  ∀ p H', H p = none → Stp [] H H' → FeedAt H' p → Q (.ref p) H'
theorem ok_law_feed (T : Tx K mg) : FnOk P w K mg base CX0 1 T.f_law_feed T.d_law_feed ["_law_script", "_law_k"] (spFeed K) := by
  refine T.F_law_feed.ok sc_law_feed (fun vs H Q E h => ?_) (fun cdv A outer s H vs Q E hr h => ?_)
  · obtain ⟨a, ns, k, rfl, _⟩ := h
    rfl
  obtain ⟨a, ns, k, rfl, hS, hl, h0, h1, q⟩ := h
  refine ⟨_, (pss_cons (ps_set (i := 2) sc_law_feed.nd rfl (.inl rfl) (pe_op op_add (pe_op op_mul pe_int (pv 1)) pe_int))
      (pss_cons (ps_if (pt_cmpR op_lt (pv 1) (pe_callB (k_len (K := K)) (by rfl) T.z_len (by decide +kernel) (pa_cons (pv 0) pa_nil)) (nomark _)) (pss_one (ps_set (i := 2) sc_law_feed.nd rfl (.inl rfl) (pe_ix (k_ix_list (K := K)) (pv 0) (pv 1) (fun _ _ => rfl)))) (pss_one (ps_if (pt_cmpR op_gt (pe_callB (k_len (K := K)) (by rfl) T.z_len (by decide +kernel) (pa_cons (pv 0) pa_nil)) pe_int (nomark _)) (pss_one (ps_set (i := 2) sc_law_feed.nd rfl (.inl rfl) (pe_op op_add (pe_op op_mul (pe_op op_mod (pe_ix (k_ix_list (K := K)) (pv 0) (pe_op op_mod (pv 1) (pe_callB (k_len (K := K)) (by rfl) T.z_len (by decide +kernel) (pa_cons (pv 0) pa_nil))) (fun _ _ => rfl)) pe_int) pe_int) (pe_op op_mul pe_int (pv 1))))) pss_nil)))
      (pss_cons (ps_set (i := 3) sc_law_feed.nd rfl (.inl rfl) pe_int)
      (pss_cons (ps_if (pt_cmpR op_ge (pv 2) (pe_op op_pow pe_int pe_int) (nomark _)) (pss_one (ps_set (i := 3) sc_law_feed.nd rfl (.inl rfl) (pv 2))) pss_nil)
      (pss_one (ps_ret (pe_lst (pa_cons (pv 3) (pa_cons (pe_op op_add (pe_op op_mod (pe_op op_add (pe_op op_mul (pe_op op_mod (pv 2) pe_int) pe_int) (pe_op op_mul pe_int (pv 1))) pe_int) pe_int) pa_nil))))))))), ?_⟩
  have hlen : (ns.map V.int).length = ns.length := List.length_map _
  have fin : ∀ (o c : Int), 0 ≤ o → ∀ p, H p = none → Q (.ref p) (upd H p (.lst [.int o, .int (c % 2147483646 + 1)])) := fun o c h p hp => by
    have z := mod_lt' (a := c) (m := 2147483646) (by decide)
    exact q p _ hp (Stp.new hp) ⟨_, _, upd_same, h, by omega, by omega⟩
  have at_ : ∀ j : Int, 0 ≤ j → j < ns.length → ∃ z, atI (ns.map V.int) j = some (.int z) := fun j j0 j1 =>
    ⟨ns[j.toNat]'(by omega), at_of (j := j.toNat) (by omega) (by rw [List.getElem?_map, List.getElem?_eq_getElem (by omega)]; rfl)⟩
  walk_at "r"
  walk_at "if"
  · rename_i c
    rw [hlen] at c
    obtain ⟨z, e⟩ := at_ k h0 c
    refine ⟨_, rfl, _, rfl, _, _, _, _, rfl, rfl, hS, e, ?_⟩
    walk_at "r"
    walk_at "if"
    · rename_i c2
      have z0 : 0 ≤ z := Int.le_trans (by decide) c2
      walk_at "r"
      refine ⟨Nat.le_of_lt (small1000 (by show 2 ≤ 1000; decide)), fin z _ z0⟩
    · walk_at "r"
      refine ⟨Nat.le_of_lt (small1000 (by show 2 ≤ 1000; decide)), fin 0 _ (by decide)⟩
  · walk_at "r"
    walk_at "if"
    · rename_i c
      rw [hlen] at c
      have m1 := mod_lt' (a := k) (m := (ns.length : Int)) (by omega)
      obtain ⟨z, e⟩ := at_ (k % (ns.length : Int)) m1.1 m1.2
      refine ⟨_, rfl, _, rfl, _, rfl, _, _, rfl, .inl hS, _, _, rfl, rfl, (by rw [hlen]; exact c), _, _, _, _, rfl, rfl, hS, (by rw [hlen]; exact e), ?_⟩
      walk_at "r"
      walk_at "if"
      · rename_i c2
        walk_at "r"
        refine ⟨Nat.le_of_lt (small1000 (by show 2 ≤ 1000; decide)), fin _ _ (Int.le_trans (by decide) c2)⟩
      · walk_at "r"
        refine ⟨Nat.le_of_lt (small1000 (by show 2 ≤ 1000; decide)), fin 0 _ (by decide)⟩
    · walk_at "r"
      walk_at "if"
      · rename_i c2
        walk_at "r"
        refine ⟨Nat.le_of_lt (small1000 (by show 2 ≤ 1000; decide)), fin _ _ (Int.le_trans (by decide) c2)⟩
      · walk_at "r"
        refine ⟨Nat.le_of_lt (small1000 (by show 2 ≤ 1000; decide)), fin 0 _ (by decide)⟩
def spTake : Sp := fun vs H Q _ => ∃ (f : Addr) (m : Int), vs = [.ref f, .int m] ∧ FeedAt H f ∧ 1 ≤ m ∧ m ≤ 10000000000000 ∧
  ∀ r H', Stp [f] H H' → FeedAt H' f → 0 ≤ r → r < m → Q (.int r) H'
theorem ok_law_take (T : Tx K mg) : FnOk P w K mg base CX0 1 T.f_law_take T.d_law_take ["_law_feed_here", "_law_many"] spTake := by
  refine T.F_law_take.ok sc_law_take (fun vs H Q E h => ?_) (fun cdv A outer s H vs Q E hr h => ?_)
  · obtain ⟨f, m, rfl, _⟩ := h
    rfl
  obtain ⟨f, m, rfl, hF, h0, h1, q⟩ := h
  obtain ⟨o, s', hf, o0, s1, s2⟩ := id hF
  have hL : SqL K H f [.int o, .int s'] := .of hf
  refine ⟨_, (pss_cons (ps_if (pt_cmpR op_gt (pe_ix (k_ix_list (K := K)) (pv 0) pe_int (fun _ _ => rfl)) pe_int (nomark _)) (pss_cons (ps_set (i := 2) sc_law_take.nd rfl (.inl rfl) (pe_op op_mod (pe_ix (k_ix_list (K := K)) (pv 0) pe_int (fun _ _ => rfl)) (pv 1)))
      (pss_cons (ps_asg (pe_op op_fdivW (pe_ix (k_ix_list (K := K)) (pv 0) pe_int (fun _ _ => rfl)) (pv 1)) (pg_sub (pv 0) pe_int set_list))
      (pss_one (ps_ret (pv 2))))) pss_nil)
      (pss_cons (ps_set (i := 3) sc_law_take.nd rfl (.inl rfl) (pe_op op_mod (pe_op op_mul (pe_ix (k_ix_list (K := K)) (pv 0) pe_int (fun _ _ => rfl)) pe_int) pe_int))
      (pss_cons (ps_asg (pe_op op_add (pe_op op_mod (pe_op op_add (pe_op op_mul (pv 3) pe_int) pe_int) pe_int) pe_int) (pg_sub (pv 0) pe_int set_list))
      (pss_one (ps_ret (pe_op op_mod (pe_op op_fdivW (pe_op op_add (pe_op op_mul (pv 3) pe_int) (pe_ix (k_ix_list (K := K)) (pv 0) pe_int (fun _ _ => rfl))) pe_int) (pv 1))))))), ?_⟩
  have b0 : ∀ j : Int, 0 < j → 0 ≤ o / j := fun j hj => Int.ediv_nonneg o0 (by omega)
  walk_at "r"
  walk_at "if"
  · walk_at "r"
    have z := mod_lt' (a := o) (m := m) (by omega)
    exact q _ _ (Stp.wrL hf (by simp)) ⟨_, _, upd_same, b0 m (by omega), s1, s2⟩ z.1 z.2
  · walk_at "r"
    have z := mod_lt' (a := (s' * 69621 % 2147483647 * 2147483647 + ((s' * 69621 % 2147483647 * 48271 + 30103) % 2147483646 + 1)) / 8191) (m := m) (by omega)
    have z2 := mod_lt' (a := s' * 69621 % 2147483647 * 48271 + 30103) (m := 2147483646) (by decide)
    exact q _ _ (Stp.wrL hf (by simp)) ⟨_, _, upd_same, o0, by show 1 ≤ _ + 1; omega, by show _ + 1 < _; omega⟩ z.1 z.2

/-! ### is_field -/
def spField : Sp := fun vs H Q _ => ∃ n : Int, vs = [.int n] ∧ 0 ≤ n ∧ n ≤ 1000000 ∧ ∀ b : Bool, (b = true ↔ 3 ≤ n ∧ PrimeI n) → Q (.bl b) H
theorem ok_is_field (T : Tx K mg) : FnOk P w K mg base CX0 1 T.f_is_field T.d_is_field ["number"] spField := by
  refine T.F_is_field.ok sc_is_field (fun vs H Q E h => ?_) (fun cdv A outer s H vs Q E hr h => ?_)
  · obtain ⟨n, rfl, _⟩ := h
    rfl
  obtain ⟨n, rfl, h0, h1, q⟩ := h
  refine ⟨_, (pss_cons (ps_if (PW.pt (pw_or (pt_cmpR op_lt (pv 0) pe_int (nomark _)) (pw_or1 (pt_cmpR op_eq (pe_op op_mod (pv 0) pe_int) pe_int (nomark _))))) (pss_one (ps_ret pe_bl)) pss_nil)
      (pss_cons (ps_set (i := 1) sc_is_field.nd rfl (.inl rfl) pe_int)
      (pss_cons (ps_while PassesOwn.never (pt_cmpR op_le (pe_op op_mul (pv 1) (pv 1)) (pv 0) (nomark _))
      (pss_cons (ps_if (pt_cmpR op_eq (pe_op op_mod (pv 0) (pv 1)) pe_int (nomark _)) (pss_one (ps_ret pe_bl)) pss_nil)
      (pss_one (ps_aug (i := 1) sc_is_field.nd rfl (.inl rfl) pe_int ip_add))))
      (pss_one (ps_ret pe_bl))))), ?_⟩
  have no : ¬ (3 ≤ n ∧ PrimeI n) → Q (.bl false) H := fun z => q false ⟨fun e => (by cases e), fun e => absurd e z⟩
  walk_at "r"
  walk_at "if"
  · rename_i c
    refine iteT ?_
    exact no fun z => by omega
  refine ⟨_, rfl, _, _, rfl, rfl, (by show (0 : Int) < 2; decide), rfl, _, rfl, ?_⟩
  walk_at "if"
  · rename_i c c2
    have c2' : n % 2 = 0 := V.int.inj c2
    exact no fun z => z.2.2 2 (by decide) (by omega) c2'
  rename_i c c2
  have c2' : n % 2 = 1 := by
    have : ¬ n % 2 = 0 := fun e => c2 (by rw [e])
    omega
  have n3 : 3 ≤ n := by omega
  refine ⟨fun m σ H' => ∃ part : Int, σ = [some (.int n), some (.int part)] ∧ H' = H ∧ 3 ≤ part ∧ part % 2 = 1 ∧ part ≤ 1002 ∧ (∀ d : Int, 2 ≤ d → d < part → n % d ≠ 0) ∧ m = (2000 - part).toNat,
    ⟨_, 3, rfl, rfl, by decide, by decide, by decide, fun d d1 d2 e => ?_, rfl⟩, fun m σ H' hW => ?_⟩
  · have : d = 2 := by omega
    subst this; omega
  obtain ⟨part, rfl, rfl, p3, po, pl, hd, rfl⟩ := hW
  walk_at "r"
  walk_at "if"
  · rename_i c3
    have c3' : part * part ≤ n := c3
    have pb : part ≤ 1000 := sq_le (by omega) (by decide) c3' (by show n < 1001 * 1001; omega)
    have plt : part < n := by
      have : 3 * part ≤ part * part := Int.mul_le_mul_of_nonneg_right p3 (by omega)
      omega
    refine ⟨fun σ H2 => σ = [some (.int n), some (.int (part + 2))] ∧ H2 = H' ∧ n % part ≠ 0, fun σ2 H2 ⟨e1, e2, e3⟩ => ⟨_, ?_, part + 2, e1, e2, by omega, by omega, by omega, fun d d1 d2 => ?_, rfl⟩, ?_⟩
    · omega
    · by_cases z : d < part
      · exact hd d d1 z
      · by_cases z2 : d = part
        · rw [z2]; exact e3
        · have z3 : d = part + 1 := by omega
          exact even_div c2' (by omega) d1
    · refine ⟨_, rfl, _, rfl, _, _, rfl, rfl, (by omega), rfl, _, rfl, ?_⟩
      walk_at "if"
      · rename_i c4
        exact no fun z => not_prime_of (by omega) plt (V.int.inj c4) z.2
      · rename_i c4
        have c4' : n % part ≠ 0 := fun e => c4 (by rw [e])
        exact ⟨_, rfl, _, _, rfl, rfl, rfl, rfl, c4'⟩
  · rename_i c3
    have c3' : ¬ part * part ≤ n := c3
    exact q true ⟨fun _ => ⟨n3, prime_of_small (by omega) (by omega) (by omega) hd⟩, fun _ => rfl⟩
/-! ### the law's own look at primes -/
def spPrime : Sp := fun vs H Q _ => ∃ n : Int, vs = [.int n] ∧ 0 ≤ n ∧ n ≤ 999999 ∧ ∀ b : Bool, (b = true ↔ PrimeI n) → Q (.bl b) H
theorem ok_law_is_prime (T : Tx K mg) : FnOk P w K mg base CX0 1 T.f_law_is_prime T.d_law_is_prime ["_law_number"] spPrime := by
  refine T.F_law_is_prime.ok sc_law_is_prime (fun vs H Q E h => ?_) (fun cdv A outer s H vs Q E hr h => ?_)
  · obtain ⟨n, rfl, _⟩ := h
    rfl
  obtain ⟨n, rfl, h0, h1, q⟩ := h
  refine ⟨_, (pss_cons (ps_if (pt_cmpR op_lt (pv 0) pe_int (nomark _)) (pss_one (ps_ret pe_bl)) pss_nil)
      (pss_cons (ps_for PassesOwn.never rfl (pi_range2 (by rfl) T.z_range (pa_cons pe_int (pa_cons pe_int pa_nil))) (pg_name (i := 1) sc_law_is_prime.nd (by rfl) (Or.inl (by rfl)))
      (pss_cons (ps_if (pt_cmpR op_gt (pe_op op_mul (pv 1) (pv 1)) (pv 0) (nomark _)) (pss_one (ps_ret pe_bl)) pss_nil)
      (pss_one (ps_if (pt_cmpR op_eq (pe_op op_mod (pv 0) (pv 1)) pe_int (nomark _)) (pss_one (ps_ret pe_bl)) pss_nil))))
      (pss_one (ps_ret pe_bl)))), ?_⟩
  have no : ¬ PrimeI n → Q (.bl false) H := fun z => q false ⟨fun e => (by cases e), fun e => absurd e z⟩
  walk_at "r"
  walk_at "if"
  · rename_i c
    exact no fun z => by have := z.1; omega
  rename_i c
  refine ⟨2, 1001, rfl, ⟨by decide, by decide, by decide, by decide⟩, for_range (lo := 2) (n := 999) (fun i σ H' => ∃ v, σ = [some (.int n), v] ∧ H' = H ∧ ∀ d : Int, 2 ≤ d → d < 2 + (i : Int) → n % d ≠ 0) ⟨none, rfl, rfl, fun d d1 d2 => by omega⟩ ?_ ?_⟩
  · rintro i σ H' hi ⟨v, rfl, rfl, hd⟩
    refine ⟨_, rfl, _, rfl, _, _, rfl, rfl, .inl ⟨by omega, by omega⟩, _, rfl, _, _, rfl, rfl, _, rfl, ?_⟩
    walk_at "if"
    · rename_i c2
      exact q true ⟨fun _ => prime_of_small (by omega) (by omega) c2 hd, fun _ => rfl⟩
    · rename_i c2
      have c2' : ¬ n < (2 + (i : Int)) * (2 + (i : Int)) := c2
      refine ⟨_, rfl, _, rfl, _, _, rfl, rfl, (by omega), rfl, _, rfl, ?_⟩
      walk_at "if"
      · rename_i c3
        have k2 : 2 * (2 + (i : Int)) ≤ (2 + (i : Int)) * (2 + (i : Int)) := Int.mul_le_mul_of_nonneg_right (by omega) (by omega)
        exact no fun z => not_prime_of (by omega) (by omega) (V.int.inj c3) z
      · rename_i c3
        have c3' : n % (2 + (i : Int)) ≠ 0 := fun e => c3 (by rw [e])
        refine ⟨_, rfl, rfl, fun d d1 d2 => ?_⟩
        by_cases z : d < 2 + (i : Int)
        · exact hd d d1 z
        · have : d = 2 + (i : Int) := by omega
          rw [this]; exact c3'
  · rintro σ H' ⟨v, rfl, rfl, hd⟩
    exact q true ⟨fun _ => prime_of_small (k := 1001) (by omega) (by decide) (by omega) hd, fun _ => rfl⟩

/-! ### inner_of, names_in -/
theorem cut_tail (x : V) (xs : List V) : cutV (x :: xs) (some 1) none = xs := by
  unfold cutV
  rw [show HT.sIx (x :: xs).length 0 (some 1) = min 1 (x :: xs).length from HT.sIx_nat (x :: xs).length 0 1, HT.sIx_none]
  rw [show min 1 (x :: xs).length = 1 by rw [List.length_cons]; omega]
  show (List.take ((x :: xs).length - 1) xs) = xs
  rw [List.length_cons, Nat.add_sub_cancel]
  exact List.take_length
theorem not_whole (x : V) (xs : List V) (hi : Option Int) : ¬ (HT.sIx (x :: xs).length 0 (some 1) = 0 ∧ HT.sIx (x :: xs).length (x :: xs).length hi = (x :: xs).length) := fun h => by
  have e : HT.sIx (x :: xs).length 0 (some 1) = min 1 (x :: xs).length := HT.sIx_nat (x :: xs).length 0 1
  rw [e, List.length_cons] at h
  omega
def spInner : Sp := fun vs H Q _ => ∃ (t : Tree) (v : V), vs = [v] ∧ TreeAt H t v ∧ ∀ p H', H p = none → Stp [] H H' → (∃ xs, H' p = some (.lst xs) ∧ TreesAt H' t.kids xs) → Q (.ref p) H'
theorem ok_inner_of (T : Tx K mg) : FnOk P w K mg base CX0 1 T.f_inner_of T.d_inner_of ["tree"] spInner := by
  refine T.F_inner_of.ok sc_inner_of (fun vs H Q E h => ?_) (fun cdv A outer s H vs Q E hr h => ?_)
  · obtain ⟨t, v, rfl, _⟩ := h
    rfl
  obtain ⟨t, v, rfl, ht, q⟩ := h
  obtain ⟨a, xs, rfl, ha, his, hno⟩ := tree_tup ht
  refine ⟨_, (pss_cons (ps_if (pt_cmpR op_eq (pe_ix (k_ix_tup (K := K)) (pv 0) pe_int (fun _ _ => rfl)) pe_str (nomark _)) (pss_one (ps_ret (pe_lst pa_nil))) pss_nil)
      (pss_one (ps_ret (pe_callTy (k_list_of (K := K)) (by rfl) T.z_list (by decide +kernel) (pa_cons (pe_slice (k_sl_tup (K := K)) (pv 0) (po_some pe_int) po_none) pa_nil))))), ?_⟩
  refine ⟨_, rfl, a, _, _, _, rfl, rfl, SqT.of ha, at0, rfl, _, rfl, ?_⟩
  walk_at "if"
  · rename_i c
    obtain ⟨x, rfl⟩ := (word_is t).mp (V.str.inj c)
    refine ⟨Nat.zero_le _, fun p hp => q p _ hp (Stp.new hp) ⟨[], upd_same, .nil⟩⟩
  · rename_i c
    have c' : ∀ x, t ≠ .is x := fun x e => c (by rw [e]; rfl)
    refine ⟨_, rfl, _, rfl, a, _, rfl, SqT.of ha, fun z => absurd z (not_whole _ _ _), fun _ b hb => ?_⟩
    have e1 : Stp [] H (upd H b (.tup (cutV (.str t.word :: xs) (some 1) none))) := Stp.new hb
    refine ⟨b, _, rfl, .inr (SqT.of upd_same), fun p hp => ?_⟩
    have e2 := e1.trans (Stp.new (l := []) (o := .lst (cutV (.str t.word :: xs) (some 1) none)) hp)
    refine q p _ (e1.free hp (by simp)) e2 ⟨xs, ?_, (hno c').step e2⟩
    rw [upd_same, cut_tail]
def spNames (n : Nat) : Sp := fun vs H Q _ => ∃ (t : Tree) (v : V), vs = [v] ∧ TreeAt H t v ∧ t.depth ≤ n ∧ t.size ≤ 1000 ∧ ∀ p H', H p = none → Stp [] H H' → H' p = some (.lst (t.names.map V.str)) → Q (.ref p) H'
theorem none_ok {f : Addr} {fd : FuncData} {ps : List Str} {sp : Sp} (no : ∀ vs H Q E, ¬ sp vs H Q E) (k : Nat) : FnOk P w K mg base CX0 k f fd ps sp :=
  ⟨fun vs H Q E h => absurd h (no vs H Q E), fun A outer s H args us vs Q E _ _ _ _ h => absurd h (no vs H Q E)⟩
theorem Tree.depth_pos (t : Tree) : 1 ≤ t.depth := by cases t <;> simp [Tree.depth]
theorem Tree.kids_depth {t u : Tree} (h : u ∈ t.kids) : u.depth + 1 ≤ t.depth := by
  cases t with
  | is x => cases h
  | yes => cases h
  | no => cases h
  | not a =>
    have : u = a := by simpa [Tree.kids] using h
    rw [this]; exact Nat.le_refl _
  | bin o a b =>
    have : u = a ∨ u = b := by simpa [Tree.kids] using h
    rcases this with e | e <;> (rw [e]; show _ ≤ max a.depth b.depth + 1; omega)
theorem Tree.kids_size {t u : Tree} (h : u ∈ t.kids) : u.size + 1 ≤ t.size := by
  cases t with
  | is x => cases h
  | yes => cases h
  | no => cases h
  | not a =>
    have : u = a := by simpa [Tree.kids] using h
    rw [this]; show a.size + 1 ≤ 1 + a.size; omega
  | bin o a b =>
    have : u = a ∨ u = b := by simpa [Tree.kids] using h
    rcases this with e | e <;> (rw [e]; show _ ≤ 1 + (a.size + b.size); omega)
theorem flat_len_take (l : List (List Str)) (i : Nat) : (l.take i).flatten.length ≤ l.flatten.length := by
  have h : l.flatten = (l.take i).flatten ++ (l.drop i).flatten := by rw [← List.flatten_append, List.take_append_drop]
  rw [h, List.length_append]; omega
theorem ok_names_in (T : Tx K mg) : ∀ n : Nat, FnOk P w K mg base CX0 (n + 2) T.f_names_in T.d_names_in ["tree"] (spNames n)
  | 0 => none_ok (fun vs H Q E h => by
    obtain ⟨t, v, _, _, h, _⟩ := h
    have := t.depth_pos
    omega) _
  | n + 1 => by
    have IH := ok_names_in T n
    refine T.F_names_in.ok sc_names_in (fun vs H Q E h => ?_) (fun cdv A outer s H vs Q E hr h => ?_)
    · obtain ⟨t, v, rfl, _⟩ := h
      rfl
    obtain ⟨t, v, rfl, ht, hd, hz, q⟩ := h
    obtain ⟨a, xs, rfl, ha, his, hno⟩ := tree_tup ht
    have hr1 : Room 1 _ := hr.mono (by omega)
    refine ⟨_, (pss_cons (ps_if (pt_cmpR op_eq (pe_ix (k_ix_tup (K := K)) (pv 0) pe_int (fun _ _ => rfl)) pe_str (nomark _)) (pss_one (ps_ret (pe_lst (pa_cons (pe_ix (k_ix_tup (K := K)) (pv 0) pe_int (fun _ _ => rfl)) pa_nil)))) pss_nil)
      (pss_cons (ps_set (i := 1) sc_names_in.nd rfl (.inl rfl) (pe_lst pa_nil))
      (pss_cons (ps_for PassesOwn.never rfl (ki_list (K := K) (pe_call (ok_inner_of T) (hr.mono (by omega)) (by rfl) T.g_inner_of T.F_inner_of.kp T.b_inner_of .nil pass0 (pa_cons (pv 0) pa_nil))) (pg_name (i := 2) sc_names_in.nd (by rfl) (Or.inl (by rfl)))
      (pss_one (ps_expr (k_bm (K := K) PySem.F.plainAttrs_list PySem.F.slot_list_extend PySem.F.type_list_extend mt_extend (pv 1) (pa_cons (pe_call IH (hr.mono (by omega)) (by rfl) T.g_names_in T.F_names_in.kp T.b_names_in .nil pass0 (pa_cons (pv 2) pa_nil)) pa_nil)))))
      (pss_one (ps_ret (pv 1)))))), ?_⟩
    refine ⟨_, rfl, a, _, _, _, rfl, rfl, SqT.of ha, at0, rfl, _, rfl, ?_⟩
    walk_at "if"
    · rename_i c
      obtain ⟨x, rfl⟩ := (word_is t).mp (V.str.inj c)
      have := his x rfl
      subst this
      refine ⟨_, rfl, a, _, _, _, rfl, rfl, SqT.of ha, at1, Nat.le_of_lt (small1000 (by show 1 ≤ 1000; decide)), fun p hp => q p _ hp (Stp.new hp) upd_same⟩
    · rename_i c
      have c' : ∀ x, t ≠ .is x := fun x e => c (by rw [e]; rfl)
      refine ⟨Nat.zero_le _, fun f hf => ?_⟩
      have e1 : Stp [] H (upd H f (.lst [])) := Stp.new hf
      refine ⟨_, rfl, t, _, rfl, ht.step e1, fun c H2 hc e2 hk => ?_⟩
      obtain ⟨ks, hks, hts⟩ := hk
      have f2 : H2 f = some (.lst []) := e2.k _ _ upd_same (by simp)
      have ncf : c ≠ f := fun z => by rw [z, upd_same] at hc; cases hc
      have hcH : H c = none := e1.free hc (by simp)
      refine ⟨c, rfl, ⟨ks, SqL.of hks⟩, for_list (K := K) (a := c) (xs := ks) (fun i σ H3 => ∃ y, σ = [some (.ref a), some (.ref f), y] ∧ Stp [] H H3 ∧ H3 c = some (.lst ks) ∧ TreesAt H3 t.kids ks ∧ H3 f = some (.lst (((t.kids.map Tree.names).take i).flatten.map V.str)))
        ⟨none, rfl, e1.trans e2, hks, hts, f2⟩ (fun i σ H3 _ ⟨_, _, _, h, _⟩ => SqL.of h) ?_ ?_⟩
      · rintro i y σ H3 hi ⟨y0, rfl, e3, hc3, ht3, hf3⟩
        obtain ⟨u, hu, hut⟩ := ht3.get hi
        have hum : u ∈ t.kids := List.mem_of_getElem? hu
        have d1 := Tree.kids_depth hum
        have d2 := Tree.kids_size hum
        refine ⟨_, rfl, .inl ⟨rfl, _, SqL.of hf3⟩, _, rfl, u, y, rfl, hut, by omega, by omega, fun p H4 hp e4 hp4 => ?_⟩
        have hf4 : H4 f = _ := e4.k _ _ hf3 (by simp)
        have hpf : p ≠ f := fun z => by rw [z, hf3] at hp; cases hp
        have bound : (((t.kids.map Tree.names).take i).flatten.map V.str).length + (u.names.map V.str).length ≤ sizeLine := by
          have b1 := flat_len_take (t.kids.map Tree.names) i
          rw [← Tree.names_kids t c'] at b1
          have b2 := t.names_le
          have b3 := u.names_le
          rw [List.length_map, List.length_map]
          exact Nat.le_trans (by omega : _ ≤ 2000) (by decide)
        refine ⟨f, p, _, _, rfl, rfl, hf4, hp4, bound, ?_⟩
        refine ⟨some y, rfl, (e3.trans e4).fresh hf, ?_, (ht3.step e4).step (l := [f]) (Stp.wrL hf4 (by simp)), ?_⟩
        · rw [upd_ne ncf]; exact e4.k _ _ hc3 (by simp)
        · rw [upd_same, take_more (by rw [List.getElem?_map, hu]; rfl), List.flatten_append, List.map_append, List.flatten_singleton]
      · rintro σ H3 ⟨y0, rfl, e3, hc3, ht3, hf3⟩
        refine ⟨_, rfl, q f H3 hf e3 ?_⟩
        rw [hf3, Tree.names_kids t c', List.take_of_length_le]
        rw [List.length_map]
        have := hts.len
        omega

/-! ### games -/
/-- a sequence that may be a tuple: of texts -/
def spTwice (K : PySem.W.Frag) : Sp := fun vs H Q _ => ∃ (a : Addr) (xs : List Str), vs = [.ref a] ∧ SqT K H a (xs.map V.str) ∧ xs.Nodup ∧ xs.length ≤ 100 ∧ ∀ H', Stp [] H H' → Q .non H'
theorem cut_take (xs : List V) (k : Nat) (h : k ≤ xs.length) : cutV xs none (some (k : Int)) = xs.take k := by
  unfold cutV
  rw [HT.sIx_none, HT.sIx_nat, Nat.min_eq_left h, List.drop_zero, Nat.sub_zero]
theorem nodup_take {xs : List Str} (h : xs.Nodup) {i : Nat} {x : Str} (hx : xs[i]? = some x) : x ∉ xs.take i := fun hm => by
  obtain ⟨j, hj⟩ := List.getElem?_of_mem hm
  have hj2 : j < (xs.take i).length := lt_of_at hj
  rw [List.length_take] at hj2
  rw [List.getElem?_take_of_lt (by omega)] at hj
  have := nd_ix h hj hx
  omega
theorem ok_twice_in (T : Tx K mg) : FnOk P w K mg base CX0 1 T.f_twice_in T.d_twice_in ["switches"] (spTwice K) := by
  refine T.F_twice_in.ok sc_twice_in (fun vs H Q E h => ?_) (fun cdv A outer s H vs Q E hr h => ?_)
  · obtain ⟨a, xs, rfl, _⟩ := h
    rfl
  obtain ⟨a, xs, rfl, ha, nd, hl, q⟩ := h
  refine ⟨_, (pss_cons (ps_for PassesOwn.never rfl (ki_enumT (K := K) (by rfl) T.z_enumerate (pa_cons (pv 0) pa_nil)) (pg_tup rfl (pgs_cons (pg_name (i := 1) sc_twice_in.nd (by rfl) (Or.inl (by rfl))) (pgs_cons (pg_name (i := 2) sc_twice_in.nd (by rfl) (Or.inl (by rfl))) pgs_nil)))
      (pss_one (ps_if (pt_cmpR (k_in_seq (K := K)) (pv 2) (pe_slice (k_sl_tup (K := K)) (pv 0) po_none (po_some (pv 1))) (by rfl)) (pss_one (ps_ret (pv 2))) pss_nil)))
      (pss_one (ps_ret pe_non))), ?_⟩
  refine ⟨_, rfl, a, _, rfl, ha, fun i m σ H' => ∃ y z, σ = [some (.ref a), y, z] ∧ Stp [] H H' ∧ m + i = xs.length, ⟨xs.length, none, none, rfl, .refl, by omega⟩, fun i m σ H1 hW => ?_⟩
  obtain ⟨y, z, rfl, e1, hm⟩ := hW
  have ha1 := e1.sqT ha
  by_cases hi : i < xs.length
  · obtain ⟨x, hx⟩ : ∃ x, xs[i]? = some x := ⟨_, List.getElem?_eq_getElem hi⟩
    have hv : (xs.map V.str)[i]? = some (.str x) := by rw [List.getElem?_map, hx]; rfl
    refine .inr ⟨⟨_, _, ha1, hv⟩, fun σ' H' => ∃ y z, σ' = [some (.ref a), y, z] ∧ Stp [] H H', fun σ' H' ⟨y, z, e, s⟩ => ⟨m - 1, by omega, y, z, e, s, by omega⟩, fun v H2 hy => ?_⟩
    obtain ⟨t, v', rfl, nt, rfl, hf⟩ := hy
    have ev : v' = .str x := Option.some.inj ((hf _ ha1).symm.trans hv)
    subst ev
    have e2 : Stp [] H1 (upd H1 t (.tup [.int (i : Nat), .str x])) := Stp.new nt
    refine ⟨t, _, rfl, .inl (.inl upd_same), rfl, _, [.str x], rfl, .str x, [], rfl, rfl, ?_⟩
    have ha2 := e2.sqT ha1
    have hw : HT.sIx (xs.map V.str).length 0 none = 0 := HT.sIx_none _ _
    have nw : ¬ (HT.sIx (xs.map V.str).length 0 none = 0 ∧ HT.sIx (xs.map V.str).length (xs.map V.str).length (some (i : Int)) = (xs.map V.str).length) := fun h => by
      have h2 := h.2
      rw [HT.sIx_nat, List.length_map] at h2
      omega
    refine ⟨_, rfl, _, rfl, _, rfl, _, rfl, a, _, rfl, ha2, fun h => absurd h nw, fun _ p hp => ?_⟩
    rw [cut_take _ _ (by rw [List.length_map]; omega), ← List.map_take]
    refine ⟨p, _, rfl, .inr (SqT.of upd_same), rfl, flat_strs _, _, rfl, ?_⟩
    rw [inV_strs, decide_eq_false (nodup_take nd hx)]
    refine iteF ⟨some _, some _, rfl, (e1.trans e2).trans (Stp.new hp)⟩
  · refine .inl ⟨⟨_, ha1, ?_⟩, q _ e1⟩
    rw [List.length_map]; omega
def spLook (K : PySem.W.Frag) : Sp := fun vs H Q _ => ∃ (a b : Addr) (xs : List Str) (ts : List Tree) (us : List V), vs = [.ref a, .ref b] ∧ SqT K H a (xs.map V.str) ∧ H b = some (.tup us) ∧ TreesAt H ts us ∧
  (∀ t ∈ ts, t.depth ≤ 20 ∧ t.size ≤ 1000 ∧ ∀ x ∈ t.names, x ∈ xs) ∧ ∀ H', Stp [] H H' → Q .non H'
theorem ok_look_names (T : Tx K mg) : FnOk P w K mg base CX0 24 T.f_look_names T.d_look_names ["switches", "trees"] (spLook K) := by
  refine T.F_look_names.ok sc_look_names (fun vs H Q E h => ?_) (fun cdv A outer s H vs Q E hr h => ?_)
  · obtain ⟨a, b, xs, ts, us, rfl, _⟩ := h
    rfl
  obtain ⟨a, b, xs, ts, us, rfl, ha, hb, ht, hts, q⟩ := h
  refine ⟨_, (pss_one (ps_for PassesOwn.never rfl (ki_tup (K := K) (pv 1)) (pg_name (i := 2) sc_look_names.nd (by rfl) (Or.inl (by rfl)))
      (pss_one (ps_for PassesOwn.never rfl (ki_list (K := K) (pe_call (ok_names_in T 20) (hr.mono (by omega)) (by rfl) T.g_names_in T.F_names_in.kp T.b_names_in .nil pass0 (pa_cons (pv 2) pa_nil))) (pg_name (i := 3) sc_look_names.nd (by rfl) (Or.inl (by rfl)))
      (pss_one (ps_if (pt_cmpR (k_notIn_seq (K := K)) (pv 3) (pv 0) (by rfl)) pss_never pss_nil)))))), ?_⟩
  refine ⟨_, rfl, b, rfl, ⟨_, SqT.of hb⟩, for_tup (K := K) (a := b) (xs := us) (fun i σ H' => ∃ y z, σ = [some (.ref a), some (.ref b), y, z] ∧ Stp [] H H') ⟨none, none, rfl, .refl⟩ (fun i σ H' _ ⟨_, _, _, e⟩ => e.seqT hb) ?_ ?_⟩
  · rintro i v σ H1 hi ⟨y, z, rfl, e1⟩
    obtain ⟨t, htt, htv⟩ := (ht.step e1).get hi
    obtain ⟨d1, d2, d3⟩ := hts t (List.mem_of_getElem? htt)
    refine ⟨_, rfl, t, v, rfl, htv, d1, d2, fun p H2 hp e2 hp2 => ?_⟩
    refine ⟨p, rfl, ⟨_, SqL.of hp2⟩, for_list (K := K) (a := p) (xs := t.names.map V.str) (fun j σ H' => ∃ z, σ = [some (.ref a), some (.ref b), some v, z] ∧ Stp [] H2 H') ⟨z, rfl, .refl⟩ (fun j σ H' _ ⟨_, _, e⟩ => e.seq (SqL.of hp2) (by simp)) ?_ ?_⟩
    · rintro j u σ H3 hj ⟨z', rfl, e3⟩
      obtain ⟨x, hx, rfl⟩ := at_str hj
      refine ⟨_, rfl, _, rfl, a, _, rfl, .inr (((e1.trans e2).trans e3).sqT ha), rfl, flat_strs _, _, rfl, ?_⟩
      rw [inV_strs, decide_eq_true (d3 x (List.mem_of_getElem? hx))]
      exact iteF ⟨_, rfl, e3⟩
    · rintro σ H3 ⟨z', rfl, e3⟩
      exact ⟨_, _, rfl, (e1.trans e2).trans e3⟩
  · rintro σ H1 ⟨y, z, rfl, e1⟩
    exact q _ e1
def degOf (x : Str) (ts : List Tree) : List Int := ts.map fun t => (t.names.count x : Int)
def spDeg : Sp := fun vs H Q _ => ∃ (b : Addr) (x : Str) (ts : List Tree) (us : List V), vs = [.str x, .ref b] ∧ H b = some (.tup us) ∧ TreesAt H ts us ∧ 0 < ts.length ∧ ts.length ≤ 100 ∧
  (∀ t ∈ ts, t.depth ≤ 20 ∧ t.size ≤ 1000) ∧ ∀ m H', Stp [] H H' → m ∈ degOf x ts → (∀ y ∈ degOf x ts, y ≤ m) → Q (.int m) H'
theorem ok_degree_of (T : Tx K mg) : FnOk P w K mg base CX0 24 T.f_degree_of T.d_degree_of ["name", "trees"] spDeg := by
  refine T.F_degree_of.ok sc_degree_of (fun vs H Q E h => ?_) (fun cdv A outer s H vs Q E hr h => ?_)
  · obtain ⟨b, x, ts, us, rfl, _⟩ := h
    rfl
  obtain ⟨b, x, ts, us, rfl, hb, ht, h0, hl, hts, q⟩ := h
  refine ⟨_, (pss_one (ps_ret (pe_callB (k_max (K := K) (by rfl)) (by rfl) T.z_max (by decide +kernel) (pa_cons (pe_lc (own := [("tree", 2)]) (g := gName 2) (tt := tYes) (by rfl) sc_degree_of.nd (ki_tup (K := K) (pv 1)) (blkOk_by (own := [("tree", 2)]) (N := ["name", "trees", "tree"]) (sc := defScope s_degree_of) (by decide +kernel)) (fun _ _ _ _ _ => (pg_name (i := 2) sc_degree_of.nd (by rfl) (Or.inl (by rfl)))) (fun _ _ _ _ _ => pts_nil) (fun _ _ _ _ _ => by exact (k_bm (K := K) PySem.F.plainAttrs_list PySem.F.slot_list_count PySem.F.type_list_count (k_countV (K := K)) (pe_call (ok_names_in T 20) (hr.mono (by omega)) (by rfl) T.g_names_in T.F_names_in.kp T.b_names_in .nil pass0 (pa_cons (pv 2) pa_nil)) (pa_cons (pv 0) pa_nil)))) pa_nil)))), ?_⟩
  refine ⟨_, rfl, b, rfl, ⟨_, SqT.of hb⟩, fun D hD => lc_tup (K := K) (a := b) (xs := us) (fun i H' => Stp [] H H' ∧ H' D = some (.lst (((degOf x ts).take i).map V.int))) ⟨Stp.new hD, upd_same⟩ (fun i H' _ h => h.1.seqT hb) ?_ ?_⟩
  · rintro i v H1 hi ⟨e1, hD1⟩
    obtain ⟨t, htt, htv⟩ := (ht.step e1).get hi
    obtain ⟨d1, d2⟩ := hts t (List.mem_of_getElem? htt)
    refine ⟨rfl, ?_⟩
    refine ⟨_, rfl, t, v, rfl, htv, d1, d2, fun p H2 hp e2 hp2 => ?_⟩
    refine ⟨.inl ⟨rfl, _, SqL.of hp2⟩, _, rfl, p, _, _, rfl, rfl, SqL.of hp2, rfl, flat_strs _, ?_⟩
    rw [count_strs]
    refine ⟨_, e2.k _ _ hD1 (by simp), ?_, (e1.trans e2).fresh hD, ?_⟩
    · rw [List.length_map, List.length_take]
      exact small1000 (by have : (degOf x ts).length = ts.length := List.length_map _; omega)
    · rw [upd_same, take_more (x := (t.names.count x : Int)) (by unfold degOf; rw [List.getElem?_map, htt]; rfl), List.map_append]
      rfl
  · rintro H1 ⟨e1, hD1⟩
    have hlen : us.length = ts.length := ht.len
    rw [List.take_of_length_le (by unfold degOf; rw [List.length_map]; omega)] at hD1
    exact ⟨D, _, rfl, SqL.of hD1, by unfold degOf; rw [List.length_map]; exact h0, fun m hm hle => q m _ e1 hm hle⟩

/-! ### Game(..) -/
structure GameV where
  sw : List Str
  trees : List Tree
  p : Int
  deg : List Int
/-- what is let by, by this walk's bounds -/
structure GameV.Ok (G : GameV) : Prop where
  nd : G.sw.Nodup
  sl : G.sw.length ≤ 20
  tl : 1 ≤ G.trees.length ∧ G.trees.length ≤ 20
  ts : ∀ t ∈ G.trees, t.depth ≤ 20 ∧ t.size ≤ 1000 ∧ ∀ x ∈ t.names, x ∈ G.sw
  pr : PrimeI G.p
  p3 : 3 ≤ G.p
  pm : G.p ≤ 999999
  tp : (G.trees.length : Int) ≤ G.p
  dl : G.deg.length = G.sw.length
  dp : ∀ d ∈ G.deg, d < G.p
  dg : ∀ (i : Nat) (x : Str) (d : Int), G.sw[i]? = some x → G.deg[i]? = some d → d ∈ degOf x G.trees ∧ ∀ y ∈ degOf x G.trees, y ≤ d
def gameF (a b : Addr) (p : Int) (d : Addr) : List (Str × V) := [(("switches" : Str), V.ref a), (("trees" : Str), V.ref b), (("field" : Str), V.int p), (("degrees" : Str), V.ref d)]
theorem tupF_step {l : List Addr} {H H' : Hp} (e : Stp l H H') {a : Addr} {xs : List V} (h : TupF H a xs) : TupF H' a xs := let ⟨o, h1, h2⟩ := h; ⟨o, e.f _ _ _ h1, h2⟩
def GameAt (C : Addr) (H : Hp) (g : Addr) (G : GameV) : Prop := ∃ (dx a1 a2 a3 : Addr) (us : List V), H g = some (.ins C dx (gameF a1 a2 G.p a3)) ∧
  TupF H a1 (G.sw.map V.str) ∧ H a2 = some (.tup us) ∧ TreesAt H G.trees us ∧ H a3 = some (.lst (G.deg.map V.int))
theorem tree_count_nn (x : Str) (t : Tree) : (0 : Int) ≤ (t.names.count x : Int) := Int.natCast_nonneg _
def spGame (T : Tx K mg) : Sp := fun vs H Q _ => ∃ (g dx a b : Addr) (xs : List Str) (ts : List Tree) (us : List V) (p : Int), vs = [.ref g, .ref a, .ref b, .int p] ∧ H g = some (.ins T.C_Game dx []) ∧
  TupF H a (xs.map V.str) ∧ H b = some (.tup us) ∧ TreesAt H ts us ∧ xs.Nodup ∧ xs.length ≤ 20 ∧ 1 ≤ ts.length ∧ ts.length ≤ 20 ∧ (∀ t ∈ ts, t.depth ≤ 20 ∧ t.size ≤ 1000 ∧ ∀ x ∈ t.names, x ∈ xs) ∧
  PrimeI p ∧ 3 ≤ p ∧ p ≤ 999999 ∧ (∀ x ∈ xs, ∀ t ∈ ts, (t.names.count x : Int) < p) ∧ (ts.length : Int) ≤ p ∧
  ∀ (G : GameV) H', Stp [g] H H' → G.Ok → G.sw = xs → G.trees = ts → G.p = p → GameAt T.C_Game H' g G → Q .non H'
theorem ok_Game___init__ (T : Tx K mg) : FnOk P w K mg base CX0 26 T.f_Game___init__ T.d_Game___init__ ["self", "switches", "trees", "field"] (spGame T) := by
  refine T.F_Game___init__.ok sc_Game___init__ (fun vs H Q E h => ?_) (fun cdv A outer s H vs Q E hr h => ?_)
  · obtain ⟨g, dx, a, b, xs, ts, us, p, rfl, _⟩ := h
    rfl
  obtain ⟨g, dx, a, b, xs, ts, us, p, rfl, hg, ha, hb, ht, nd, sl, t1, t2, hts, hp, p3, pm, hdeg, htp, q⟩ := h
  refine ⟨_, (pss_cons (ps_set (i := 4) sc_Game___init__.nd rfl (.inl rfl) (pe_call (ok_twice_in T) (hr.mono (by omega)) (by rfl) T.g_twice_in T.F_twice_in.kp T.b_twice_in .nil pass0 (pa_cons (pv 1) pa_nil)))
      (pss_cons (ps_if (pt_cmpR op_notN (pv 4) pe_non (nomark _)) pss_never pss_nil)
      (pss_cons (ps_expr (pe_call (ok_look_names T) (hr.mono (by omega)) (by rfl) T.g_look_names T.F_look_names.kp T.b_look_names .nil pass0 (pa_cons (pv 1) (pa_cons (pv 2) pa_nil))))
      (pss_cons (ps_if (PW.pt (pw_or (pt_cmpR op_gt (pv 3) (pe_glob (v := .int 999999) (by rfl) T.c_MOST_FIELD.choose_spec ⟨_, rfl⟩) (nomark _)) (pw_or1 (pt_not (pt_val (pe_call (ok_is_field T) (hr.mono (by omega)) (by rfl) T.g_is_field T.F_is_field.kp T.b_is_field .nil pass0 (pa_cons (pv 3) pa_nil))))))) pss_never pss_nil)
      (pss_cons (ps_setLc (i := 5) (own := [("name", 7)]) (g := gName 7) (tt := tYes) (by rfl) sc_Game___init__.nd (by rfl) (by rfl) (sw_true (by rfl) (by rfl) (by rfl) (by decide +kernel)) (ki_tup (K := K) (pv 1)) (blkOk_by (own := [("name", 7)]) (N := ["self", "switches", "trees", "field", "twice", "degrees", "greatest", "name"]) (sc := defScope s_Game___init__) (by decide +kernel)) (fun _ _ _ _ _ => (pg_name (i := 7) sc_Game___init__.nd (by rfl) (Or.inl (by rfl)))) (fun _ _ _ _ _ => pts_nil) (fun _ _ _ _ _ => by exact (pe_call (ok_degree_of T) (hr.mono (by omega)) (by rfl) T.g_degree_of T.F_degree_of.kp T.b_degree_of .nil pass0 (pa_cons (pv 7) (pa_cons (pv 2) pa_nil)))))
      (pss_cons (ps_set (i := 6) sc_Game___init__.nd rfl (.inl rfl) (pe_callB (k_max (K := K) (by rfl)) (by rfl) T.z_max (by decide +kernel) (pa_cons (pe_op op_cat (pv 5) (pe_lst (pa_cons (pe_op op_sub (pe_callB (k_len (K := K)) (by rfl) T.z_len (by decide +kernel) (pa_cons (pv 2) pa_nil)) pe_int) pa_nil))) pa_nil)))
      (pss_cons (ps_if (pt_cmpR op_le (pv 3) (pv 6) (nomark _)) pss_never pss_nil)
      (pss_cons (ks_fld (K := K) (pv 0) (pe_callTy (k_tuple_of (K := K)) (by rfl) T.z_tuple (by decide +kernel) (pa_cons (pv 1) pa_nil)) (by rfl))
      (pss_cons (ks_fld (K := K) (pv 0) (pe_callTy (k_tuple_of (K := K)) (by rfl) T.z_tuple (by decide +kernel) (pa_cons (pv 2) pa_nil)) (by rfl))
      (pss_cons (ks_fld (K := K) (pv 0) (pv 3) (by rfl))
      (pss_one (ks_fld (K := K) (pv 0) (pv 5) (by rfl))))))))))))), ?_⟩
  -- twice
  refine ⟨_, rfl, a, xs, rfl, ha.sq, nd, by omega, fun H1 e1 => ?_⟩
  refine ⟨_, rfl, rfl, _, rfl, iteF ?_⟩
  -- look_names
  refine ⟨_, rfl, _, rfl, a, b, xs, ts, us, rfl, e1.sqT ha.sq, e1.t _ _ hb, ht.step e1, hts, fun H2 e2 => ?_⟩
  -- the field
  have e12 := e1.trans e2
  refine ⟨_, rfl, _, _, rfl, rfl, _, rfl, ?_⟩
  rw [decide_eq_false (show ¬ (999999 : Int) < p by omega)]
  refine ⟨_, rfl, p, rfl, by omega, by omega, fun fb hfb => ?_⟩
  have efb : fb = true := hfb.mpr ⟨p3, hp⟩
  subst efb
  refine ⟨_, rfl, ?_⟩
  -- degrees
  have ha2 : SqT K H2 a _ := e12.sqT ha.sq
  have hb2 := e12.t _ _ hb
  have ht2 := ht.step e12
  have hg2 := e12.k _ _ hg (by simp)
  refine ⟨_, rfl, a, rfl, ⟨_, ha2⟩, fun D hD => lc_tup (K := K) (a := a) (xs := xs.map V.str) (fun i H' => Stp [] H2 H' ∧ ∃ ds : List Int, ds.length = i ∧ H' D = some (.lst (ds.map V.int)) ∧
      ∀ (j : Nat) (x : Str) (d : Int), xs[j]? = some x → ds[j]? = some d → d ∈ degOf x ts ∧ ∀ y ∈ degOf x ts, y ≤ d) ⟨Stp.new hD, [], rfl, upd_same, fun j x d _ h => (by simp at h)⟩ (fun i H' _ h => h.1.sqT ha2) ?_ ?_⟩
  · rintro i v H3 hi ⟨e3, ds, dl, hD3, hds⟩
    obtain ⟨x, hx, rfl⟩ := at_str hi
    refine ⟨rfl, ?_⟩
    refine ⟨_, rfl, _, rfl, b, x, ts, us, rfl, e3.t _ _ hb2, ht2.step e3, t1, by omega, fun t h => ⟨(hts t h).1, (hts t h).2.1⟩, fun m H4 e4 hm hle => ?_⟩
    refine ⟨_, e4.k _ _ hD3 (by simp), ?_, (e3.trans e4).fresh hD, ds ++ [m], ?_, ?_, fun j y d hj hd => ?_⟩
    · rw [List.length_map, dl]
      have := lt_of_at hx
      exact small1000 (by omega)
    · rw [List.length_append, dl]; rfl
    · rw [upd_same, List.map_append]; rfl
    · by_cases hji : j < i
      · rw [List.getElem?_append_left (by omega)] at hd
        exact hds j y d hj hd
      · have hjl := lt_of_at hd
        rw [List.length_append, dl] at hjl
        have hjl2 : j < i + 1 := hjl
        have ej : j = i := by omega
        subst ej
        rw [List.getElem?_append_right (by omega), dl, Nat.sub_self] at hd
        have ed : m = d := Option.some.inj hd
        have ex : x = y := Option.some.inj (hx.symm.trans hj)
        rw [← ed, ← ex]
        exact ⟨hm, hle⟩
  · rintro H3 ⟨e3, ds, dl, hD3, hds⟩
    rw [List.length_map] at dl
    have hb3 := e3.t _ _ hb2
    have ulen : us.length = ts.length := ht.len
    -- greatest
    refine ⟨_, rfl, _, rfl, b, _, rfl, .inr (SqT.of hb3), _, _, rfl, rfl, Nat.le_of_lt (small1000 (by show 1 ≤ 1000; decide)), fun q1 hq1 => ?_⟩
    have e4 : Stp [] H3 (upd H3 q1 (.lst [.int ((us.length : Int) - 1)])) := Stp.new hq1
    refine ⟨D, q1, _, _, rfl, rfl, e4.k _ _ hD3 (by simp), upd_same, ?_, fun q2 hq2 => ?_⟩
    · rw [List.length_map, dl]
      exact Nat.le_of_lt (small1000 (by show _ + 1 ≤ _; omega))
    have e5 := e4.trans (Stp.new (l := []) (o := .lst (ds.map V.int ++ [.int ((us.length : Int) - 1)])) hq2)
    refine ⟨q2, ds ++ [(us.length : Int) - 1], rfl, SqL.of (by rw [upd_same, List.map_append]; rfl), by rw [List.length_append]; show 0 < _ + 1; omega, fun m hm hle => ?_⟩
    have mp : m < p := by
      rcases List.mem_append.mp hm with h | h
      · obtain ⟨j, hj⟩ := List.getElem?_of_mem h
        have hjl := lt_of_at hj
        obtain ⟨x, hx⟩ : ∃ x, xs[j]? = some x := ⟨_, List.getElem?_eq_getElem (by omega)⟩
        obtain ⟨h1, _⟩ := hds j x m hx hj
        obtain ⟨t, htm, rfl⟩ := List.mem_map.mp h1
        exact hdeg x (List.mem_of_getElem? hx) t htm
      · have : m = (us.length : Int) - 1 := by simpa using h
        omega
    refine ⟨_, rfl, _, rfl, _, _, rfl, rfl, _, rfl, ?_⟩
    rw [decide_eq_false (show ¬ p ≤ m by omega)]
    refine iteF ?_
    have e05 := e12.trans (e3.trans e5)
    have ha5 : SqT K _ a _ := e05.sqT ha.sq
    have hb5 := e05.t _ _ hb
    have hg5 := e05.k _ _ hg (by simp)
    -- the fields
    have ng : ∀ {x : Addr} {ys : List V} {H' : Hp}, H' x = some (.tup ys) → ∀ {fs}, H' g = some (.ins T.C_Game dx fs) → x ≠ g := fun h1 _ h2 z => by rw [z, h2] at h1; cases h1
    refine ⟨_, rfl, a, _, rfl, .inr ⟨ha5, ?_⟩⟩
    refine ⟨_, rfl, g, _, dx, _, rfl, hg5, T.cl_Game, T.n_Game_switches, (by show 0 < 1000; decide), ?_⟩
    refine ⟨_, rfl, b, _, rfl, .inr ⟨SqT.of (by rw [upd_ne (ng hb5 hg5)]; exact hb5), ?_⟩⟩
    refine ⟨_, rfl, g, _, dx, _, rfl, upd_same, T.cl_Game, T.n_Game_trees, (by show 1 < 1000; decide), ?_⟩
    refine ⟨_, rfl, _, rfl, g, _, dx, _, rfl, upd_same, T.cl_Game, T.n_Game_field, ?_, ?_⟩
    · exact Nat.lt_of_le_of_lt (length_putF _ _ _) (by show 1 + 1 < 1000; decide)
    refine ⟨_, rfl, _, rfl, g, _, dx, _, rfl, upd_same, T.cl_Game, T.n_Game_degrees, ?_, ?_⟩
    · exact Nat.lt_of_le_of_lt (length_putF _ _ _) (Nat.lt_of_le_of_lt (Nat.add_le_add_right (length_putF _ _ _) 1) (by show 1 + 1 + 1 < 1000; decide))
    have efs : putF "degrees" (V.ref D) (putF "field" (V.int p) (putF "trees" (V.ref b) (putF "switches" (V.ref a) []))) = (gameF a b p D) := by
      have k1 : ¬ (("switches" : Str) = "trees") := by decide +kernel
      have k2 : ¬ (("switches" : Str) = "field") := by decide +kernel
      have k3 : ¬ (("trees" : Str) = "field") := by decide +kernel
      have k4 : ¬ (("switches" : Str) = "degrees") := by decide +kernel
      have k5 : ¬ (("trees" : Str) = "degrees") := by decide +kernel
      have k6 : ¬ (("field" : Str) = "degrees") := by decide +kernel
      unfold gameF
      simp only [putF, if_neg k1, if_neg k2, if_neg k3, if_neg k4, if_neg k5, if_neg k6]
    rw [efs]
    simp only [upd_upd]
    have e6 : Stp [g] H (upd _ g (.ins T.C_Game dx (gameF a b p D))) := (e05.nil (m := [g])).trans (Stp.wrI hg5 (by simp))
    refine q ⟨xs, ts, p, ds⟩ _ e6 ⟨nd, sl, ⟨t1, t2⟩, hts, hp, p3, pm, htp, dl, fun d hd => ?_, hds⟩ rfl rfl rfl ⟨dx, a, b, D, us, upd_same, ?_, ?_, ht.step e6, ?_⟩
    · obtain ⟨j, hj⟩ := List.getElem?_of_mem hd
      have hjl := lt_of_at hj
      obtain ⟨x, hx⟩ : ∃ x, xs[j]? = some x := ⟨_, List.getElem?_eq_getElem (by have : ds.length = xs.length := dl; have h2 : j < ds.length := hjl; omega)⟩
      obtain ⟨h1, _⟩ := hds j x d hx hj
      obtain ⟨t, htm, rfl⟩ := List.mem_map.mp h1
      exact hdeg x (List.mem_of_getElem? hx) t htm
    · obtain ⟨o, h1, h2⟩ := ha
      exact ⟨o, e6.f _ _ _ h1, h2⟩
    · exact e6.t _ _ hb
    · have nDg : D ≠ g := fun z => by rw [z, hg2] at hD; cases hD
      rw [upd_ne nDg]
      exact e5.k _ _ hD3 (by simp)

/-! ### settings -/
def allSettings : Nat → List (List Int)
  | 0 => [[]]
  | n + 1 => (allSettings n).flatMap fun s => [s ++ [0], s ++ [1]]
def SetAt (H : Hp) (s : List Int) (v : V) : Prop := ∃ a, v = .ref a ∧ H a = some (.tup (s.map V.int))
theorem SetAt.step {l : List Addr} {H H' : Hp} (e : Stp l H H') {s : List Int} {v : V} : SetAt H s v → SetAt H' s v := fun ⟨a, h1, h2⟩ => ⟨a, h1, e.t _ _ h2⟩
theorem allSettings_len : ∀ n : Nat, (allSettings n).length = 2 ^ n
  | 0 => rfl
  | n + 1 => by
    have h : ∀ l : List (List Int), (l.flatMap fun s => [s ++ [0], s ++ [1]]).length = 2 * l.length := fun l => by
      induction l with
      | nil => rfl
      | cons x r ih => rw [List.flatMap_cons, List.length_append, ih]; show 2 + 2 * r.length = 2 * (r.length + 1); omega
    show ((allSettings n).flatMap fun s => [s ++ [0], s ++ [1]]).length = 2 ^ (n + 1)
    rw [h, allSettings_len n, Nat.pow_succ]; omega
theorem allSettings_each : ∀ (n : Nat) (s : List Int), s ∈ allSettings n → s.length = n ∧ ∀ x ∈ s, x = 0 ∨ x = 1
  | 0, s, h => by
    have : s = [] := by simpa [allSettings] using h
    subst this; exact ⟨rfl, fun x hx => by cases hx⟩
  | n + 1, s, h => by
    obtain ⟨t, ht, hs⟩ := List.mem_flatMap.mp h
    obtain ⟨h1, h2⟩ := allSettings_each n t ht
    have hs' : s = t ++ [0] ∨ s = t ++ [1] := by simpa using hs
    rcases hs' with rfl | rfl
    · refine ⟨by rw [List.length_append, h1]; rfl, fun x hx => ?_⟩
      rcases List.mem_append.mp hx with z | z
      · exact h2 x z
      · exact .inl (by simpa using z)
    · refine ⟨by rw [List.length_append, h1]; rfl, fun x hx => ?_⟩
      rcases List.mem_append.mp hx with z | z
      · exact h2 x z
      · exact .inr (by simpa using z)
/-- a tuple and another one, put together -/
theorem cat_tup {H : Hp} {a b : Addr} {xs ys : List V} {Q : VK} (ha : H a = some (.tup xs)) (hb : H b = some (.tup ys)) (hl : xs.length + ys.length ≤ 1000)
    (q : ∀ c H', Stp [] H H' → H' c = some (.tup (xs ++ ys)) → Q (.ref c) H') : rCatA K (.ref a) (.ref b) H Q := by
  refine ⟨a, b, xs, ys, rfl, rfl, SqT.of ha, SqT.of hb, Nat.le_of_lt (small1000 hl), fun e => ?_, fun _ e => ?_, fun _ _ p hp => q p _ (Stp.new hp) upd_same⟩
  · subst e; exact q b H .refl hb
  · subst e; exact q a H .refl (by rw [List.append_nil]; exact ha)
def spAll : Sp := fun vs H Q _ => ∃ n : Nat, vs = [.int n] ∧ n ≤ 10 ∧ ∀ p H' us, H p = none → Stp [] H H' → H' p = some (.lst us) → AllP (SetAt H') (allSettings n) us → Q (.ref p) H'
theorem allP_app {α : Type} {R : α → V → Prop} : ∀ {xs ys : List α} {us vs : List V}, AllP R xs us → AllP R ys vs → AllP R (xs ++ ys) (us ++ vs)
  | _, _, _, _, .nil, h => h
  | _, _, _, _, .cons r t, h => .cons r (allP_app t h)
theorem ok_all_settings (T : Tx K mg) : FnOk P w K mg base CX0 1 T.f_all_settings T.d_all_settings ["n"] spAll := by
  refine T.F_all_settings.ok sc_all_settings (fun vs H Q E h => ?_) (fun cdv A outer s H vs Q E hr h => ?_)
  · obtain ⟨n, rfl, _⟩ := h
    rfl
  obtain ⟨n, rfl, hn, q⟩ := h
  refine ⟨_, (pss_cons (ps_set (i := 1) sc_all_settings.nd rfl (.inl rfl) (pe_lst (pa_cons (pe_tup pa_nil) pa_nil)))
      (pss_cons (ps_for PassesOwn.never rfl (pi_range1 (by rfl) T.z_range (pa_cons (pv 0) pa_nil)) (pg_name (i := 2) sc_all_settings.nd (by rfl) (Or.inl (by rfl)))
      (pss_cons (ps_set (i := 3) sc_all_settings.nd rfl (.inl rfl) (pe_lst pa_nil))
      (pss_cons (ps_for PassesOwn.never rfl (ki_list (K := K) (pv 1)) (pg_name (i := 4) sc_all_settings.nd (by rfl) (Or.inl (by rfl)))
      (pss_one (ps_expr (k_bm (K := K) PySem.F.plainAttrs_list PySem.F.slot_list_extend PySem.F.type_list_extend mt_extend (pv 3) (pa_cons (pe_lst (pa_cons (pe_op (k_catT (K := K)) (pv 4) (pe_tup (pa_cons pe_int pa_nil))) (pa_cons (pe_op (k_catT (K := K)) (pv 4) (pe_tup (pa_cons pe_int pa_nil))) pa_nil))) pa_nil)))))
      (pss_one (ps_set (i := 1) sc_all_settings.nd rfl (.inl rfl) (pv 3))))))
      (pss_one (ps_ret (pv 1))))), ?_⟩
  refine ⟨Nat.zero_le _, fun t0 ht0 => ?_⟩
  refine ⟨Nat.le_of_lt (small1000 (by show 1 ≤ 1000; decide)), fun f0 hf0 => ?_⟩
  have e0 := (Stp.new (l := []) (o := .tup []) ht0).trans (Stp.new (l := []) (o := .lst [.ref t0]) hf0)
  have nf : H f0 = none := (Stp.new (l := []) (o := .tup []) ht0).free hf0 (by simp)
  refine ⟨_, rfl, n, rfl, by omega, by omega, for_range (lo := 0) (n := (n : Int).toNat) (fun i σ H' => ∃ f y1 y2 y3 us, σ = [some (.int n), some (.ref f), y1, y2, y3] ∧ Stp [] H H' ∧ H f = none ∧ H' f = some (.lst us) ∧ AllP (SetAt H') (allSettings i) us)
    ⟨f0, none, none, none, _, rfl, e0, nf, upd_same, .cons ⟨t0, rfl, by rw [upd_ne (fun z => by rw [z, upd_same] at hf0; cases hf0), upd_same]; rfl⟩ .nil⟩ ?_ ?_⟩
  · rintro i σ H1 hi ⟨f, y1, y2, y3, us, rfl, e1, hf, hf1, hu⟩
    have hi' : i < n := by omega
    refine ⟨Nat.zero_le _, fun g hg => ?_⟩
    have e2 := Stp.new (l := []) (o := .lst []) hg
    have gH : H g = none := e1.free hg (by simp)
    have ngf : g ≠ f := fun z => by rw [z, hf1] at hg; cases hg
    refine ⟨_, rfl, f, rfl, ⟨us, SqL.of (e2.k _ _ hf1 (by simp))⟩, for_list (K := K) (a := f) (xs := us) (fun j σ H' => ∃ y3 ws, σ = [some (.int n), some (.ref f), some (.int (0 + (i : Int))), some (.ref g), y3] ∧ Stp [] H1 H' ∧ H' g = some (.lst ws) ∧ AllP (SetAt H') ((allSettings i).take j |>.flatMap fun s => [s ++ [0], s ++ [1]]) ws)
      ⟨y3, [], rfl, e2, upd_same, .nil⟩ (fun j σ H' _ ⟨_, _, _, h, _⟩ => SqL.of (h.k _ _ hf1 (by simp))) ?_ ?_⟩
    · rintro j v σ H2 hj ⟨z3, ws, rfl, e3, hg3, hw⟩
      obtain ⟨st, hst, hsv⟩ := (AllP.mono (fun s v => SetAt.step (l := []) e3) hu).get hj
      obtain ⟨sl, s01⟩ := allSettings_each i st (List.mem_of_getElem? hst)
      obtain ⟨a, rfl, ha⟩ := hsv
      have szl : (st.map V.int).length = i := by rw [List.length_map, sl]
      refine ⟨_, rfl, .inl ⟨rfl, _, SqL.of hg3⟩, ?_⟩
      refine ⟨_, rfl, Nat.le_of_lt (small1000 (by show 1 ≤ 1000; decide)), fun c1 hc1 => ?_⟩
      have e4 := Stp.new (l := []) (o := .tup [.int 0]) hc1
      refine cat_tup (e4.t _ _ ha) upd_same (by rw [szl]; show i + 1 ≤ 1000; omega) fun d1 H3 e5 hd1 => ?_
      refine ⟨_, rfl, Nat.le_of_lt (small1000 (by show 1 ≤ 1000; decide)), fun c2 hc2 => ?_⟩
      have e6 := Stp.new (l := []) (o := .tup [.int 1]) hc2
      have e46 := (e4.trans e5).trans e6
      refine cat_tup (e46.t _ _ ha) upd_same (by rw [szl]; show i + 1 ≤ 1000; omega) fun d2 H4 e7 hd2 => ?_
      refine ⟨Nat.le_of_lt (small1000 (by show 2 ≤ 1000; decide)), fun l hl => ?_⟩
      have e8 := Stp.new (l := []) (o := .lst [.ref d1, .ref d2]) hl
      have e48 := (e46.trans e7).trans e8
      have wl : ws.length = 2 * j := by
        rw [hw.len]
        have h : ∀ l : List (List Int), (l.flatMap fun s => [s ++ [0], s ++ [1]]).length = 2 * l.length := fun l => by
          induction l with
          | nil => rfl
          | cons x r ih => rw [List.flatMap_cons, List.length_append, ih]; show 2 + 2 * r.length = 2 * (r.length + 1); omega
        rw [h, List.length_take, Nat.min_eq_left]
        have := lt_of_at hst
        omega
      have jl := lt_of_at hst
      rw [allSettings_len] at jl
      have p2 : 2 ^ i ≤ 2 ^ 10 := Nat.pow_le_pow_right (by decide) (by omega)
      have hgl : upd H4 l (.lst [.ref d1, .ref d2]) g = some (.lst ws) := e48.k _ _ hg3 (by simp)
      refine ⟨g, l, ws, _, rfl, rfl, hgl, upd_same, ?_, ?_⟩
      · rw [wl]
        exact Nat.le_trans (by show 2 * j + 2 ≤ 4096; have : (2:Nat) ^ 10 = 1024 := by decide
                               omega) (by decide)
      · have e9 : Stp [] H1 (upd (upd H4 l (.lst [.ref d1, .ref d2])) g (.lst (ws ++ [.ref d1, .ref d2]))) := (e3.trans e48).fresh hg
        have eg : Stp [g] (upd H4 l (.lst [.ref d1, .ref d2])) (upd (upd H4 l (.lst [.ref d1, .ref d2])) g (.lst (ws ++ [.ref d1, .ref d2]))) := Stp.wrL hgl (by simp)
        refine ⟨some (.ref a), ws ++ [.ref d1, .ref d2], rfl, e9, upd_same, ?_⟩
        rw [take_more hst, List.flatMap_append]
        have m1 := AllP.mono (fun s v => SetAt.step (l := [g]) ((e48.nil (m := [g])).trans eg)) hw
        refine allP_app m1 ?_
        have hd1' : upd (upd H4 l (.lst [.ref d1, .ref d2])) g (.lst (ws ++ [.ref d1, .ref d2])) d1 = some (.tup ((st ++ [0]).map V.int)) := by
          have := (((e6.trans e7).trans e8).nil (m := [g]) |>.trans eg).t _ _ hd1
          rw [this, List.map_append]; rfl
        have hd2' : upd (upd H4 l (.lst [.ref d1, .ref d2])) g (.lst (ws ++ [.ref d1, .ref d2])) d2 = some (.tup ((st ++ [1]).map V.int)) := by
          have := ((e8.nil (m := [g])).trans eg).t _ _ hd2
          rw [this, List.map_append]; rfl
        exact .cons ⟨d1, rfl, hd1'⟩ (.cons ⟨d2, rfl, hd2'⟩ .nil)
    · rintro σ H2 ⟨z3, ws, rfl, e3, hg3, hw⟩
      refine ⟨_, rfl, g, _, _, _, ws, rfl, e1.trans e3, gH, hg3, ?_⟩
      rw [List.take_of_length_le (by rw [hu.len] <;> exact Nat.le_refl _)] at hw
      exact hw
  · rintro σ H1 ⟨f, y1, y2, y3, us, rfl, e1, hf, hf1, hu⟩
    refine ⟨_, rfl, q f H1 us hf e1 hf1 ?_⟩
    have : (n : Int).toNat = n := by omega
    rw [this] at hu
    exact hu

/-! ### which trees hold -/
def hj (o : Op4) (a b : Bool) : Bool := match o with
  | .and => a && b
  | .or => a || b
  | .odd => a != b
  | .same => a == b
def holds (sw : List Str) (st : List Int) : Tree → Bool
  | .is x => decide (st.getD (sw.idxOf x) 0 = 1)
  | .yes => true
  | .no => false
  | .not a => !(holds sw st a)
  | .bin o a b => hj o (holds sw st a) (holds sw st b)
def spJoin : Sp := fun vs H Q _ => ∃ (o : Op4) (a b : Bool), vs = [.str o.word, .bl a, .bl b] ∧ Q (.bl (hj o a b)) H
theorem ok_joined_settings (T : Tx K mg) : FnOk P w K mg base CX0 1 T.f_joined_settings T.d_joined_settings ["word", "one", "other"] spJoin := by
  refine T.F_joined_settings.ok sc_joined_settings (fun vs H Q E h => ?_) (fun cdv A outer s H vs Q E hr h => ?_)
  · obtain ⟨o, a, b, rfl, _⟩ := h
    rfl
  obtain ⟨o, a, b, rfl, q⟩ := h
  refine ⟨_, (pss_cons (ps_if (pt_cmpR op_eq (pv 0) pe_str (nomark _)) (pss_one (ps_ret (pe_and (pv 1) (pe_one (pv 2))))) pss_nil)
      (pss_cons (ps_if (pt_cmpR op_eq (pv 0) pe_str (nomark _)) (pss_one (ps_ret (pe_or (pv 1) (pe_one (pv 2))))) pss_nil)
      (pss_one (ps_ret (pe_cmpR op_eq (pe_cmpR op_eq (pv 1) (pv 2) (nomark _)) (pe_cmpR op_eq (pv 0) pe_str (nomark _)) (nomark _)))))), ?_⟩
  have k1 : ¬ ((Op4.or).word = ("and" : Str)) := by decide +kernel
  have k2 : ¬ ((Op4.odd).word = ("and" : Str)) := by decide +kernel
  have k3 : ¬ ((Op4.same).word = ("and" : Str)) := by decide +kernel
  have k4 : ¬ ((Op4.odd).word = ("or" : Str)) := by decide +kernel
  have k5 : ¬ ((Op4.same).word = ("or" : Str)) := by decide +kernel
  have k6 : ¬ ((Op4.odd).word = ("same" : Str)) := by decide +kernel
  have ks : ∀ {x y : Str}, ¬ x = y → decide (V.str x = V.str y) = false := fun h => decide_eq_false fun z => h (V.str.inj z)
  cases o with
  | and =>
    refine ⟨_, rfl, rfl, _, rfl, ?_⟩
    rw [decide_eq_true (show V.str (Op4.and).word = V.str "and" from rfl)]
    refine ⟨_, rfl, _, rfl, ?_⟩
    cases a
    · exact q
    · exact ⟨_, rfl, q⟩
  | or =>
    refine ⟨_, rfl, rfl, _, rfl, ?_⟩
    rw [ks k1]
    refine ⟨_, rfl, rfl, _, rfl, ?_⟩
    rw [decide_eq_true (show V.str (Op4.or).word = V.str "or" from rfl)]
    refine ⟨_, rfl, _, rfl, ?_⟩
    cases a
    · exact ⟨_, rfl, q⟩
    · exact q
  | odd =>
    refine ⟨_, rfl, rfl, _, rfl, ?_⟩
    rw [ks k2]
    refine ⟨_, rfl, rfl, _, rfl, ?_⟩
    rw [ks k4]
    refine ⟨_, rfl, _, rfl, rfl, _, rfl, rfl, rfl, ?_⟩
    rw [ks k6]
    cases a <;> cases b <;> exact q
  | same =>
    refine ⟨_, rfl, rfl, _, rfl, ?_⟩
    rw [ks k3]
    refine ⟨_, rfl, rfl, _, rfl, ?_⟩
    rw [ks k5]
    refine ⟨_, rfl, _, rfl, rfl, _, rfl, rfl, rfl, ?_⟩
    rw [decide_eq_true (show V.str (Op4.same).word = V.str "same" from rfl)]
    cases a <;> cases b <;> exact q
theorem idx_ok {sw : List Str} {x : Str} (h : x ∈ sw) : sw.idxOf x < sw.length ∧ sw[sw.idxOf x]? = some x ∧ ∀ m, m < sw.idxOf x → sw[m]? ≠ some x := by
  have h1 := List.idxOf_lt_length_of_mem h
  refine ⟨h1, ?_, fun m hm e => ?_⟩
  · rw [List.getElem?_eq_getElem h1, List.getElem_idxOf]
  · have : m < sw.length := by omega
    have e2 : sw[m] = x := by
      rw [List.getElem?_eq_getElem this] at e
      exact Option.some.inj e
    have := List.not_of_lt_findIdx (p := fun y => y == x) (xs := sw) (i := m) hm
    simp [e2] at this
def spHolds (K : PySem.W.Frag) (n : Nat) : Sp := fun vs H Q _ => ∃ (t : Tree) (v : V) (a b : Addr) (sw : List Str) (st : List Int), vs = [v, .ref a, .ref b] ∧ TreeAt H t v ∧ t.depth ≤ n ∧ SqT K H a (sw.map V.str) ∧ H b = some (.tup (st.map V.int)) ∧
  st.length = sw.length ∧ (∀ x ∈ t.names, x ∈ sw) ∧ ∀ H', Stp [] H H' → Q (.bl (holds sw st t)) H'
theorem getD_at {st : List Int} {i : Nat} (h : i < st.length) : st[i]? = some (st.getD i 0) := by
  rw [List.getD_eq_getElem?_getD, List.getElem?_eq_getElem h]; rfl
theorem word_ne {o : Op4} {x : Str} (h : x = "is" ∨ x = "yes" ∨ x = "no" ∨ x = "not") : ¬ o.word = x := by
  rcases h with rfl | rfl | rfl | rfl <;> cases o <;> decide +kernel
theorem sdec {x y : Str} (h : ¬ x = y) : decide (V.str x = V.str y) = false := decide_eq_false fun z => h (V.str.inj z)
theorem sdecT (x : Str) : decide (V.str x = V.str x) = true := decide_eq_true rfl
theorem ok_holds_at (T : Tx K mg) : ∀ n : Nat, FnOk P w K mg base CX0 (n + 2) T.f_holds_at T.d_holds_at ["tree", "switches", "setting"] (spHolds K n)
  | 0 => none_ok (fun vs H Q E h => by
    obtain ⟨t, v, a, b, sw, st, _, _, h, _⟩ := h
    have := t.depth_pos
    omega) _
  | n + 1 => by
    have IH := ok_holds_at T n
    refine T.F_holds_at.ok sc_holds_at (fun vs H Q E h => ?_) (fun cdv A outer s H vs Q E hr h => ?_)
    · obtain ⟨t, v, a, b, sw, st, rfl, _⟩ := h
      rfl
    obtain ⟨t, v, a, b, sw, st, rfl, ht, hd, ha, hb, hl, hn, q⟩ := h
    refine ⟨_, (pss_cons (ps_set (i := 3) sc_holds_at.nd rfl (.inl rfl) (pe_ix (k_ix_tup (K := K)) (pv 0) pe_int (fun _ _ => rfl)))
      (pss_cons (ps_if (pt_cmpR op_eq (pv 3) pe_str (nomark _)) (pss_one (ps_ret (pe_cmpR op_eq (pe_ix (k_ix_tup (K := K)) (pv 2) (k_bm (K := K) PySem.F.plainAttrs_list PySem.F.slot_list_index PySem.F.type_list_index (k_index (K := K)) (pe_callTy (k_list_of (K := K)) (by rfl) T.z_list (by decide +kernel) (pa_cons (pv 1) pa_nil)) (pa_cons (pe_ix (k_ix_tup (K := K)) (pv 0) pe_int (fun _ _ => rfl)) pa_nil)) (fun _ _ => rfl)) pe_int (nomark _)))) pss_nil)
      (pss_cons (ps_if (PW.pt (pw_or (pt_cmpR op_eq (pv 3) pe_str (nomark _)) (pw_or1 (pt_cmpR op_eq (pv 3) pe_str (nomark _))))) (pss_one (ps_ret (pe_cmpR op_eq (pv 3) pe_str (nomark _)))) pss_nil)
      (pss_cons (ps_if (pt_cmpR op_eq (pv 3) pe_str (nomark _)) (pss_one (ps_ret (pe_not (pe_call IH (hr.mono (by omega)) (by rfl) T.g_holds_at T.F_holds_at.kp T.b_holds_at .nil pass0 (pa_cons (pe_ix (k_ix_tup (K := K)) (pv 0) pe_int (fun _ _ => rfl)) (pa_cons (pv 1) (pa_cons (pv 2) pa_nil))))))) pss_nil)
      (pss_one (ps_ret (pe_call (ok_joined_settings T) (hr.mono (by omega)) (by rfl) T.g_joined_settings T.F_joined_settings.kp T.b_joined_settings .nil pass0 (pa_cons (pv 3) (pa_cons (pe_call IH (hr.mono (by omega)) (by rfl) T.g_holds_at T.F_holds_at.kp T.b_holds_at .nil pass0 (pa_cons (pe_ix (k_ix_tup (K := K)) (pv 0) pe_int (fun _ _ => rfl)) (pa_cons (pv 1) (pa_cons (pv 2) pa_nil)))) (pa_cons (pe_call IH (hr.mono (by omega)) (by rfl) T.g_holds_at T.F_holds_at.kp T.b_holds_at .nil pass0 (pa_cons (pe_ix (k_ix_tup (K := K)) (pv 0) pe_int (fun _ _ => rfl)) (pa_cons (pv 1) (pa_cons (pv 2) pa_nil)))) pa_nil)))))))))), ?_⟩
    cases t with
    | is x =>
      obtain ⟨p, rfl, hp⟩ := ht
      obtain ⟨i1, i2, i3⟩ := idx_ok (hn x (by simp [Tree.names]))
      refine ⟨_, rfl, p, _, _, _, rfl, rfl, SqT.of hp, at0, _, rfl, rfl, _, rfl, ?_⟩
      rw [sdecT]
      refine ⟨_, rfl, _, rfl, a, _, rfl, .inr ha, fun l hl' => ?_⟩
      have e1 := Stp.new (l := []) (o := .lst (sw.map V.str)) hl'
      refine ⟨.inl ⟨rfl, _, SqL.of upd_same⟩, _, rfl, p, _, _, _, rfl, rfl, SqT.of (e1.t _ _ hp), at1, ?_⟩
      refine ⟨l, _, _, sw.idxOf x, .str x, rfl, rfl, SqL.of upd_same, rfl, flat_strs _, by rw [List.getElem?_map, i2]; rfl, beq_self_eq_true x, fun m z hm hz => ?_, ?_⟩
      · obtain ⟨y, hy, rfl⟩ := at_str hz
        have : y ≠ x := fun e => i3 m hm (by rw [hy, e])
        exact beq_false_of_ne this
      · refine ⟨b, _, _, _, rfl, rfl, SqT.of (e1.t _ _ hb), atI_nat (by rw [List.getElem?_map, getD_at (by omega)]; rfl), rfl, ?_⟩
        have := q _ e1
        show Q (.bl (decide (V.int _ = V.int 1))) _
        have e : decide (V.int (st.getD (sw.idxOf x) 0) = V.int 1) = holds sw st (.is x) := by
          unfold holds
          exact decide_eq_decide.mpr ⟨fun z => V.int.inj z, fun z => by rw [z]⟩
        rw [e]; exact this
    | yes =>
      obtain ⟨p, rfl, hp⟩ := ht
      refine ⟨_, rfl, p, _, _, _, rfl, rfl, SqT.of hp, at0, _, rfl, rfl, _, rfl, ?_⟩
      rw [sdec (by decide +kernel)]
      refine ⟨_, rfl, rfl, _, rfl, ?_⟩
      rw [sdecT]
      exact ⟨_, rfl, rfl, by rw [sdecT]; exact q _ .refl⟩
    | no =>
      obtain ⟨p, rfl, hp⟩ := ht
      refine ⟨_, rfl, p, _, _, _, rfl, rfl, SqT.of hp, at0, _, rfl, rfl, _, rfl, ?_⟩
      rw [sdec (by decide +kernel)]
      refine ⟨_, rfl, rfl, _, rfl, ?_⟩
      rw [sdec (by decide +kernel)]
      refine ⟨_, rfl, rfl, _, rfl, ?_⟩
      rw [sdecT]
      exact ⟨_, rfl, rfl, by rw [sdec (by decide +kernel)]; exact q _ .refl⟩
    | not c =>
      obtain ⟨p, vc, rfl, hp, hc⟩ := ht
      refine ⟨_, rfl, p, _, _, _, rfl, rfl, SqT.of hp, at0, _, rfl, rfl, _, rfl, ?_⟩
      rw [sdec (by decide +kernel)]
      refine ⟨_, rfl, rfl, _, rfl, ?_⟩
      rw [sdec (by decide +kernel)]
      refine ⟨_, rfl, rfl, _, rfl, ?_⟩
      rw [sdec (by decide +kernel)]
      refine ⟨_, rfl, rfl, _, rfl, ?_⟩
      rw [sdecT]
      refine ⟨_, rfl, p, _, _, _, rfl, rfl, SqT.of hp, at1, _, rfl, _, rfl, ?_⟩
      refine ⟨c, vc, a, b, sw, st, rfl, hc, ?_, ha, hb, hl, hn, fun H' e => ⟨_, rfl, q _ e⟩⟩
      have : c.depth + 1 ≤ n + 1 := hd
      omega
    | bin o c d =>
      obtain ⟨p, vc, vd, rfl, hp, hc, hd'⟩ := ht
      have hdd : max c.depth d.depth + 1 ≤ n + 1 := hd
      refine ⟨_, rfl, p, _, _, _, rfl, rfl, SqT.of hp, at0, _, rfl, rfl, _, rfl, ?_⟩
      rw [sdec (word_ne (.inl rfl))]
      refine ⟨_, rfl, rfl, _, rfl, ?_⟩
      rw [sdec (word_ne (.inr (.inl rfl)))]
      refine ⟨_, rfl, rfl, _, rfl, ?_⟩
      rw [sdec (word_ne (.inr (.inr (.inl rfl))))]
      refine ⟨_, rfl, rfl, _, rfl, ?_⟩
      rw [sdec (word_ne (.inr (.inr (.inr rfl))))]
      refine ⟨_, rfl, _, rfl, p, _, _, _, rfl, rfl, SqT.of hp, at1, _, rfl, _, rfl, ?_⟩
      refine ⟨c, vc, a, b, sw, st, rfl, hc, by omega, ha, hb, hl, fun x hx => hn x (List.mem_append_left _ hx), fun H1 e1 => ?_⟩
      refine ⟨_, rfl, p, _, _, _, rfl, rfl, SqT.of (e1.t _ _ hp), at2, _, rfl, _, rfl, ?_⟩
      refine ⟨d, vd, a, b, sw, st, rfl, hd'.step e1, by omega, e1.sqT ha, e1.t _ _ hb, hl, fun x hx => hn x (List.mem_append_right _ hx), fun H2 e2 => ?_⟩
      exact ⟨o, _, _, rfl, q _ (e1.trans e2)⟩
/-! ### how many settings -/
def countOf (sw : List Str) (t : Tree) : Int := (((allSettings sw.length).filter fun st => holds sw st t).length : Nat)
def spCount (K : PySem.W.Frag) : Sp := fun vs H Q _ => ∃ (t : Tree) (v : V) (a : Addr) (sw : List Str), vs = [v, .ref a] ∧ TreeAt H t v ∧ t.depth ≤ 20 ∧ SqT K H a (sw.map V.str) ∧ sw.length ≤ 10 ∧
  (∀ x ∈ t.names, x ∈ sw) ∧ ∀ H', Stp [] H H' → Q (.int (countOf sw t)) H'
theorem ok_count_of (T : Tx K mg) : FnOk P w K mg base CX0 24 T.f_count_of T.d_count_of ["tree", "switches"] (spCount K) := by
  refine T.F_count_of.ok sc_count_of (fun vs H Q E h => ?_) (fun cdv A outer s H vs Q E hr h => ?_)
  · obtain ⟨t, v, a, sw, rfl, _⟩ := h
    rfl
  obtain ⟨t, v, a, sw, rfl, ht, hd, ha, hl, hn, q⟩ := h
  refine ⟨_, (pss_one (ps_ret (pe_callB (k_len (K := K)) (by rfl) T.z_len (by decide +kernel) (pa_cons (pe_lc (own := [("setting", 2)]) (g := gName 2) (by rfl) sc_count_of.nd (ki_list (K := K) (pe_call (ok_all_settings T) (hr.mono (by omega)) (by rfl) T.g_all_settings T.F_all_settings.kp T.b_all_settings .nil pass0 (pa_cons (pe_callB (k_len (K := K)) (by rfl) T.z_len (by decide +kernel) (pa_cons (pv 1) pa_nil)) pa_nil))) (blkOk_by (own := [("setting", 2)]) (N := ["tree", "switches", "setting"]) (sc := defScope s_count_of) (by decide +kernel)) (fun _ _ _ _ _ => (pg_name (i := 2) sc_count_of.nd (by rfl) (Or.inl (by rfl)))) (fun _ _ _ _ _ => by exact (pts_one (pt_val (pe_call (ok_holds_at T 20) (hr.mono (by omega)) (by rfl) T.g_holds_at T.F_holds_at.kp T.b_holds_at .nil pass0 (pa_cons (pv 0) (pa_cons (pv 1) (pa_cons (pv 2) pa_nil))))))) (fun _ _ _ _ _ => by exact (pv 2))) pa_nil)))), ?_⟩
  refine ⟨_, rfl, a, _, rfl, .inr ha, sw.length, by rw [List.length_map]; rfl, hl, fun p H1 us hp e1 hp1 hu => ?_⟩
  refine ⟨p, rfl, ⟨us, SqL.of hp1⟩, fun D hD => lc_list (K := K) (a := p) (xs := us) (fun i H' => Stp [] H1 H' ∧ ∃ ws, H' D = some (.lst ws) ∧ ws.length = (((allSettings sw.length).take i).filter fun st => holds sw st t).length) ⟨Stp.new hD, [], upd_same, rfl⟩ (fun i H' _ h => SqL.of (h.1.k _ _ hp1 (by simp))) ?_ ?_⟩
  · rintro i u H2 hi ⟨e2, ws, hD2, hw⟩
    obtain ⟨st, hst, hsu⟩ := (AllP.mono (fun s v => SetAt.step (l := []) e2) hu).get hi
    obtain ⟨sl, _⟩ := allSettings_each _ st (List.mem_of_getElem? hst)
    obtain ⟨b, rfl, hb⟩ := hsu
    have e12 := e1.trans e2
    refine ⟨rfl, ?_⟩
    refine ⟨_, rfl, _, rfl, _, rfl, t, v, a, b, sw, st, rfl, ht.step e12, hd, e12.sqT ha, hb, sl, hn, fun H3 e3 => ⟨_, rfl, ?_⟩⟩
    have hD3 := e3.k _ _ hD2 (by simp)
    have hil := lt_of_at hst
    rw [allSettings_len] at hil
    have p2 : 2 ^ sw.length ≤ 2 ^ 10 := Nat.pow_le_pow_right (by decide) hl
    rw [take_more hst, List.filter_append]
    cases hb : holds sw st t with
    | true =>
      refine ⟨_, rfl, ws, hD3, ?_, (e2.trans e3).fresh hD, _, upd_same, ?_⟩
      · rw [hw]
        have := List.length_filter_le (fun st => holds sw st t) ((allSettings sw.length).take i)
        rw [List.length_take] at this
        exact Nat.lt_of_le_of_lt (by have : (2:Nat) ^ 10 = 1024 := by decide
                                     omega : _ ≤ 2000) (by decide)
      · rw [List.length_append, List.length_append, hw]
        simp [hb]
    | false =>
      refine ⟨e2.trans e3, ws, hD3, ?_⟩
      rw [List.length_append, hw]
      simp [hb]
  · rintro H2 ⟨e2, ws, hD2, hw⟩
    refine ⟨D, ws, rfl, .inl (SqL.of hD2), ?_⟩
    rw [List.take_of_length_le (by rw [hu.len]; exact Nat.le_refl _)] at hw
    have := q _ (e1.trans e2)
    unfold countOf at this
    rw [hw]
    exact this

/-! ### worths -/
def wj (o : Op4) (a b : Int) : Int := match o with
  | .and => a * b
  | .or => a + b - a * b
  | .odd => a + b - 2 * a * b
  | .same => 1 - a - b + 2 * a * b
def worth (p : Int) (sw : List Str) (pt : List Int) : Tree → Int
  | .is x => pt.getD (sw.idxOf x) 0 % p
  | .yes => 1
  | .no => 0
  | .not a => (1 - worth p sw pt a) % p
  | .bin o a b => wj o (worth p sw pt a) (worth p sw pt b) % p
theorem worth_rng {p : Int} (h : 2 ≤ p) (sw : List Str) (pt : List Int) (t : Tree) : 0 ≤ worth p sw pt t ∧ worth p sw pt t < p := by
  cases t with
  | is x => exact mod_lt' (by omega)
  | yes => exact ⟨by show (0:Int) ≤ 1; decide, by show (1:Int) < p; omega⟩
  | no => exact ⟨by show (0:Int) ≤ 0; decide, by show (0:Int) < p; omega⟩
  | not a => exact mod_lt' (by omega)
  | bin o a b => exact mod_lt' (by omega)
def spJoinW : Sp := fun vs H Q _ => ∃ (o : Op4) (a b : Int), vs = [.str o.word, .int a, .int b] ∧ 0 ≤ a ∧ a ≤ 1000000 ∧ 0 ≤ b ∧ b ≤ 1000000 ∧ Q (.int (wj o a b)) H
theorem ok_joined_worth (T : Tx K mg) : FnOk P w K mg base CX0 1 T.f_joined_worth T.d_joined_worth ["word", "a", "b"] spJoinW := by
  refine T.F_joined_worth.ok sc_joined_worth (fun vs H Q E h => ?_) (fun cdv A outer s H vs Q E hr h => ?_)
  · obtain ⟨o, a, b, rfl, _⟩ := h
    rfl
  obtain ⟨o, a, b, rfl, a0, a1, b0, b1, q⟩ := h
  refine ⟨_, (pss_cons (ps_if (pt_cmpR op_eq (pv 0) pe_str (nomark _)) (pss_one (ps_ret (pe_op op_mul (pv 1) (pv 2)))) pss_nil)
      (pss_cons (ps_if (pt_cmpR op_eq (pv 0) pe_str (nomark _)) (pss_one (ps_ret (pe_op op_sub (pe_op op_add (pv 1) (pv 2)) (pe_op op_mul (pv 1) (pv 2))))) pss_nil)
      (pss_cons (ps_if (pt_cmpR op_eq (pv 0) pe_str (nomark _)) (pss_one (ps_ret (pe_op op_sub (pe_op op_add (pv 1) (pv 2)) (pe_op op_mul (pe_op op_mul pe_int (pv 1)) (pv 2))))) pss_nil)
      (pss_one (ps_ret (pe_op op_add (pe_op op_sub (pe_op op_sub pe_int (pv 1)) (pv 2)) (pe_op op_mul (pe_op op_mul pe_int (pv 1)) (pv 2)))))))), ?_⟩
  have k1 : ¬ ((Op4.or).word = ("and" : Str)) := by decide +kernel
  have k2 : ¬ ((Op4.odd).word = ("and" : Str)) := by decide +kernel
  have k3 : ¬ ((Op4.same).word = ("and" : Str)) := by decide +kernel
  have k4 : ¬ ((Op4.odd).word = ("or" : Str)) := by decide +kernel
  have k5 : ¬ ((Op4.same).word = ("or" : Str)) := by decide +kernel
  have k6 : ¬ ((Op4.same).word = ("odd" : Str)) := by decide +kernel
  cases o with
  | and =>
    refine ⟨_, rfl, rfl, _, rfl, ?_⟩
    rw [show decide (V.str (Op4.and).word = V.str "and") = true from sdecT _]
    exact ⟨_, rfl, _, rfl, _, _, rfl, rfl, .inl ⟨by omega, by omega⟩, q⟩
  | or =>
    refine ⟨_, rfl, rfl, _, rfl, ?_⟩
    rw [sdec k1]
    refine ⟨_, rfl, rfl, _, rfl, ?_⟩
    rw [show decide (V.str (Op4.or).word = V.str "or") = true from sdecT _]
    exact ⟨_, rfl, _, rfl, _, _, rfl, rfl, _, rfl, _, rfl, _, _, rfl, rfl, .inl ⟨by omega, by omega⟩, _, _, rfl, rfl, q⟩
  | odd =>
    refine ⟨_, rfl, rfl, _, rfl, ?_⟩
    rw [sdec k2]
    refine ⟨_, rfl, rfl, _, rfl, ?_⟩
    rw [sdec k4]
    refine ⟨_, rfl, rfl, _, rfl, ?_⟩
    rw [show decide (V.str (Op4.odd).word = V.str "odd") = true from sdecT _]
    exact ⟨_, rfl, _, rfl, _, _, rfl, rfl, _, rfl, _, _, rfl, rfl, .inr ⟨by omega, by omega⟩, _, rfl, _, _, rfl, rfl, .inr ⟨by omega, by omega⟩, _, _, rfl, rfl, q⟩
  | same =>
    refine ⟨_, rfl, rfl, _, rfl, ?_⟩
    rw [sdec k3]
    refine ⟨_, rfl, rfl, _, rfl, ?_⟩
    rw [sdec k5]
    refine ⟨_, rfl, rfl, _, rfl, ?_⟩
    rw [sdec k6]
    exact ⟨_, rfl, _, _, rfl, rfl, _, rfl, _, _, rfl, rfl, _, rfl, _, _, rfl, rfl, .inr ⟨by omega, by omega⟩, _, rfl, _, _, rfl, rfl, .inr ⟨by omega, by omega⟩, _, _, rfl, rfl, q⟩
def spWorth (n : Nat) : Sp := fun vs H Q _ => ∃ (t : Tree) (v : V) (a b : Addr) (sw : List Str) (pt : List Int) (p : Int), vs = [v, .ref a, .ref b, .int p] ∧ TreeAt H t v ∧ t.depth ≤ n ∧ TupF H a (sw.map V.str) ∧ H b = some (.tup (pt.map V.int)) ∧
  pt.length = sw.length ∧ (∀ x ∈ t.names, x ∈ sw) ∧ 2 ≤ p ∧ p ≤ 999999 ∧ ∀ H', Stp [] H H' → Q (.int (worth p sw pt t)) H'
theorem ok_worth_of (T : Tx K mg) : ∀ n : Nat, FnOk P w K mg base CX0 (n + 2) T.f_worth_of T.d_worth_of ["tree", "switches", "point", "p"] (spWorth n)
  | 0 => none_ok (fun vs H Q E h => by
    obtain ⟨t, v, a, b, sw, st, p, _, _, h, _⟩ := h
    have := t.depth_pos
    omega) _
  | n + 1 => by
    have IH := ok_worth_of T n
    refine T.F_worth_of.ok sc_worth_of (fun vs H Q E h => ?_) (fun cdv A outer s H vs Q E hr h => ?_)
    · obtain ⟨t, v, a, b, sw, st, p, rfl, _⟩ := h
      rfl
    obtain ⟨t, v, a, b, sw, pt, p, rfl, ht, hd, ha, hb, hl, hn, p2, pm, q⟩ := h
    refine ⟨_, (pss_cons (ps_set (i := 4) sc_worth_of.nd rfl (.inl rfl) (pe_ix (k_ix_tup (K := K)) (pv 0) pe_int (fun _ _ => rfl)))
      (pss_cons (ps_if (pt_cmpR op_eq (pv 4) pe_str (nomark _)) (pss_one (ps_ret (pe_op op_mod (pe_ix (k_ix_tup (K := K)) (pv 2) (k_bmF PySem.F.plainAttrs_tuple PySem.F.slot_tuple_index PySem.F.type_tuple_index (k_tup_index (K := K)) (pv 1) (pa_cons (pe_ix (k_ix_tup (K := K)) (pv 0) pe_int (fun _ _ => rfl)) pa_nil)) (fun _ _ => rfl)) (pv 3)))) pss_nil)
      (pss_cons (ps_if (PW.pt (pw_or (pt_cmpR op_eq (pv 4) pe_str (nomark _)) (pw_or1 (pt_cmpR op_eq (pv 4) pe_str (nomark _))))) (pss_one (ps_ret (pe_callTy call_int1 (by rfl) T.z_int (by decide +kernel) (pa_cons (pe_cmpR op_eq (pv 4) pe_str (nomark _)) pa_nil)))) pss_nil)
      (pss_cons (ps_set (i := 5) sc_worth_of.nd rfl (.inl rfl) (pe_call IH (hr.mono (by omega)) (by rfl) T.g_worth_of T.F_worth_of.kp T.b_worth_of .nil pass0 (pa_cons (pe_ix (k_ix_tup (K := K)) (pv 0) pe_int (fun _ _ => rfl)) (pa_cons (pv 1) (pa_cons (pv 2) (pa_cons (pv 3) pa_nil))))))
      (pss_cons (ps_if (pt_cmpR op_eq (pv 4) pe_str (nomark _)) (pss_one (ps_ret (pe_op op_mod (pe_op op_sub pe_int (pv 5)) (pv 3)))) pss_nil)
      (pss_one (ps_ret (pe_op op_mod (pe_call (ok_joined_worth T) (hr.mono (by omega)) (by rfl) T.g_joined_worth T.F_joined_worth.kp T.b_joined_worth .nil pass0 (pa_cons (pv 4) (pa_cons (pv 5) (pa_cons (pe_call IH (hr.mono (by omega)) (by rfl) T.g_worth_of T.F_worth_of.kp T.b_worth_of .nil pass0 (pa_cons (pe_ix (k_ix_tup (K := K)) (pv 0) pe_int (fun _ _ => rfl)) (pa_cons (pv 1) (pa_cons (pv 2) (pa_cons (pv 3) pa_nil))))) pa_nil)))) (pv 3))))))))), ?_⟩
    cases t with
    | is x =>
      obtain ⟨c, rfl, hc⟩ := ht
      obtain ⟨i1, i2, i3⟩ := idx_ok (hn x (by simp [Tree.names]))
      refine ⟨_, rfl, c, _, _, _, rfl, rfl, SqT.of hc, at0, _, rfl, rfl, _, rfl, ?_⟩
      rw [sdecT]
      refine ⟨_, rfl, _, rfl, ⟨a, _, rfl, ha⟩, _, rfl, c, _, _, _, rfl, rfl, SqT.of hc, at1, ?_⟩
      refine ⟨a, sw, x, sw.idxOf x, rfl, rfl, ha.sq, i2, i3, ?_⟩
      refine ⟨b, _, _, _, rfl, rfl, SqT.of hb, atI_nat (by rw [List.getElem?_map, getD_at (by omega)]; rfl), ?_⟩
      exact ⟨_, rfl, _, _, rfl, rfl, (by show 0 < p; omega), q _ .refl⟩
    | yes =>
      obtain ⟨c, rfl, hc⟩ := ht
      refine ⟨_, rfl, c, _, _, _, rfl, rfl, SqT.of hc, at0, _, rfl, rfl, _, rfl, ?_⟩
      rw [sdec (by decide +kernel)]
      refine ⟨_, rfl, rfl, _, rfl, ?_⟩
      rw [sdecT]
      exact ⟨_, rfl, rfl, .inr ⟨_, rfl, by rw [sdecT]; exact q _ .refl⟩⟩
    | no =>
      obtain ⟨c, rfl, hc⟩ := ht
      refine ⟨_, rfl, c, _, _, _, rfl, rfl, SqT.of hc, at0, _, rfl, rfl, _, rfl, ?_⟩
      rw [sdec (by decide +kernel)]
      refine ⟨_, rfl, rfl, _, rfl, ?_⟩
      rw [sdec (by decide +kernel)]
      refine ⟨_, rfl, rfl, _, rfl, ?_⟩
      rw [sdecT]
      exact ⟨_, rfl, rfl, .inr ⟨_, rfl, by rw [sdec (by decide +kernel)]; exact q _ .refl⟩⟩
    | not c =>
      obtain ⟨e, vc, rfl, hp, hc⟩ := ht
      refine ⟨_, rfl, e, _, _, _, rfl, rfl, SqT.of hp, at0, _, rfl, rfl, _, rfl, ?_⟩
      rw [sdec (by decide +kernel)]
      refine ⟨_, rfl, rfl, _, rfl, ?_⟩
      rw [sdec (by decide +kernel)]
      refine ⟨_, rfl, rfl, _, rfl, ?_⟩
      rw [sdec (by decide +kernel)]
      refine ⟨_, rfl, e, _, _, _, rfl, rfl, SqT.of hp, at1, _, rfl, _, rfl, _, rfl, ?_⟩
      refine ⟨c, vc, a, b, sw, pt, p, rfl, hc, (by have : c.depth + 1 ≤ n + 1 := hd; omega), ha, hb, hl, hn, p2, pm, fun H1 e1 => ?_⟩
      refine ⟨_, rfl, rfl, _, rfl, ?_⟩
      rw [sdecT]
      exact ⟨_, rfl, _, _, rfl, rfl, _, rfl, _, _, rfl, rfl, (by show 0 < p; omega), q _ e1⟩
    | bin o c d =>
      obtain ⟨e, vc, vd, rfl, hp, hc, hd'⟩ := ht
      have hdd : max c.depth d.depth + 1 ≤ n + 1 := hd
      refine ⟨_, rfl, e, _, _, _, rfl, rfl, SqT.of hp, at0, _, rfl, rfl, _, rfl, ?_⟩
      rw [sdec (word_ne (.inl rfl))]
      refine ⟨_, rfl, rfl, _, rfl, ?_⟩
      rw [sdec (word_ne (.inr (.inl rfl)))]
      refine ⟨_, rfl, rfl, _, rfl, ?_⟩
      rw [sdec (word_ne (.inr (.inr (.inl rfl))))]
      refine ⟨_, rfl, e, _, _, _, rfl, rfl, SqT.of hp, at1, _, rfl, _, rfl, _, rfl, ?_⟩
      refine ⟨c, vc, a, b, sw, pt, p, rfl, hc, by omega, ha, hb, hl, fun x hx => hn x (List.mem_append_left _ hx), p2, pm, fun H1 e1 => ?_⟩
      refine ⟨_, rfl, rfl, _, rfl, ?_⟩
      rw [sdec (word_ne (.inr (.inr (.inr rfl))))]
      refine ⟨_, rfl, _, rfl, _, rfl, e, _, _, _, rfl, rfl, SqT.of (e1.t _ _ hp), at2, _, rfl, _, rfl, _, rfl, ?_⟩
      refine ⟨d, vd, a, b, sw, pt, p, rfl, hd'.step e1, by omega, tupF_step e1 ha, e1.t _ _ hb, hl, fun x hx => hn x (List.mem_append_right _ hx), p2, pm, fun H2 e2 => ?_⟩
      have r1 := worth_rng p2 sw pt c
      have r2 := worth_rng p2 sw pt d
      refine ⟨o, _, _, rfl, r1.1, by omega, r2.1, by omega, ?_⟩
      exact ⟨_, rfl, _, _, rfl, rfl, (by show 0 < p; omega), q _ (e1.trans e2)⟩
/-! ### the mix -/
def mixM (p s : Int) : List Int → Int
  | [] => 0
  | n :: r => (mixM p s r * s + n) % p
theorem mixM_rng {p : Int} (h : 1 ≤ p) (s : Int) (ns : List Int) : 0 ≤ mixM p s ns ∧ mixM p s ns < p := by
  cases ns with
  | nil => exact ⟨Int.le_refl 0, by show (0:Int) < p; omega⟩
  | cons n r => exact mod_lt' (by omega)
theorem gameF_sw (a b : Addr) (p : Int) (d : Addr) : (gameF a b p d).lookup ("switches" : Str) = some (.ref a) := by
  unfold gameF; rfl
theorem gameF_trees (a b : Addr) (p : Int) (d : Addr) : (gameF a b p d).lookup ("trees" : Str) = some (.ref b) := by
  unfold gameF; rfl
theorem gameF_field (a b : Addr) (p : Int) (d : Addr) : (gameF a b p d).lookup ("field" : Str) = some (.int p) := by
  unfold gameF; rfl
theorem gameF_deg (a b : Addr) (p : Int) (d : Addr) : (gameF a b p d).lookup ("degrees" : Str) = some (.ref d) := by
  unfold gameF; rfl
theorem gameF_no (a b : Addr) (p : Int) (d : Addr) {x : Str} (h1 : ¬ x = "switches") (h2 : ¬ x = "trees") (h3 : ¬ x = "field") (h4 : ¬ x = "degrees") : (gameF a b p d).lookup x = none := by
  unfold gameF
  simp [List.lookup, beq_false_of_ne h1, beq_false_of_ne h2, beq_false_of_ne h3, beq_false_of_ne h4]
theorem GameAt.step {C : Addr} {l : List Addr} {H H' : Hp} {g : Addr} {G : GameV} (e : Stp l H H') (h : GameAt C H g G) (hg : g ∉ l) (hd : ∀ dx a b d, H g = some (.ins C dx (gameF a b G.p d)) → d ∉ l) : GameAt C H' g G := by
  obtain ⟨dx, a1, a2, a3, us, h1, h2, h3, h4, h5⟩ := h
  exact ⟨dx, a1, a2, a3, us, e.k _ _ h1 hg, tupF_step e h2, e.t _ _ h3, h4.step e, e.k _ _ h5 (hd _ _ _ _ h1)⟩
theorem GameAt.step0 {C : Addr} {H H' : Hp} {g : Addr} {G : GameV} (e : Stp [] H H') (h : GameAt C H g G) : GameAt C H' g G := h.step e (by simp) (fun _ _ _ _ _ => by simp)
def spMix (T : Tx K mg) : Sp := fun vs H Q _ => ∃ (g l dx : Addr) (fs : List (Str × V)) (ns : List Int) (s p : Int), vs = [.ref g, .ref l, .int s] ∧ H g = some (.ins T.C_Game dx fs) ∧ fs.lookup ("field" : Str) = some (.int p) ∧ H l = some (.lst (ns.map V.int)) ∧ ns.length ≤ 1000 ∧
  1 ≤ p ∧ p ≤ 999999 ∧ 0 ≤ s ∧ s ≤ 999999 ∧ Q (.int (mixM p s ns)) H
theorem ok_Game_mix (T : Tx K mg) : FnOk P w K mg base CX0 1 T.f_Game_mix T.d_Game_mix ["self", "numbers", "s"] (spMix T) := by
  refine T.F_Game_mix.ok sc_Game_mix (fun vs H Q E h => ?_) (fun cdv A outer s H vs Q E hr h => ?_)
  · obtain ⟨g, l, dx, fs, ns, s, p, rfl, _⟩ := h
    rfl
  obtain ⟨g, l, dx, fs, ns, z, p, rfl, hg, hf, hl, hn, p1, p2, s0, s1, q⟩ := h
  refine ⟨_, (pss_cons (ps_set (i := 3) sc_Game_mix.nd rfl (.inl rfl) pe_int)
      (pss_cons (ps_for PassesOwn.never rfl (ki_rev (K := K) (by rfl) T.z_reversed (pv 1)) (pg_name (i := 4) sc_Game_mix.nd (by rfl) (Or.inl (by rfl)))
      (pss_one (ps_set (i := 3) sc_Game_mix.nd rfl (.inl rfl) (pe_op op_mod (pe_op op_add (pe_op op_mul (pv 3) (pv 2)) (pv 4)) (k_fld (K := K) (pv 0) (by rfl))))))
      (pss_one (ps_ret (pv 3))))), ?_⟩
  have hlen : (ns.map V.int).length = ns.length := List.length_map _
  refine ⟨_, rfl, l, _, rfl, .inl ⟨SqL.of hl, ?_⟩⟩
  refine ⟨fun i m σ H' => ∃ y, σ = [some (.ref g), some (.ref l), some (.int z), some (.int (mixM p z (ns.drop (ns.length - i)))), y] ∧ H' = H ∧ i ≤ ns.length ∧ m + i = ns.length,
    ⟨ns.length, none, by rw [Nat.sub_zero, List.drop_length]; rfl, rfl, Nat.zero_le _, by omega⟩, fun i m σ H1 hW => ?_⟩
  obtain ⟨y, rfl, rfl, hi, hm⟩ := hW
  by_cases c : i < ns.length
  · have jl : ns.length - 1 - i < ns.length := by omega
    have hv : (ns.map V.int)[(ns.map V.int).length - 1 - i]? = some (.int (ns[ns.length - 1 - i]'jl)) := by
      rw [hlen, List.getElem?_map, List.getElem?_eq_getElem jl]; rfl
    have ed : ns.drop (ns.length - (i + 1)) = ns[ns.length - 1 - i]'jl :: ns.drop (ns.length - i) := by
      have e1 : ns.length - (i + 1) = ns.length - 1 - i := by omega
      have e2 : ns.length - i = ns.length - 1 - i + 1 := by omega
      rw [e1, e2]
      exact List.drop_eq_getElem_cons jl
    have rg := mixM_rng p1 z (ns.drop (ns.length - i))
    refine .inr ⟨⟨by rw [hlen]; exact c, _, _, SqL.of hl, hv⟩, fun σ' H' => ∃ y, σ' = [some (.ref g), some (.ref l), some (.int z), some (.int (mixM p z (ns.drop (ns.length - (i + 1))))), y] ∧ H' = H1, fun σ' H' ⟨y, e1, e2⟩ => ⟨m - 1, by omega, y, e1, e2, by omega, by omega⟩, fun v H2 hy => ?_⟩
    obtain ⟨rfl, hyv⟩ := hy
    have ev : v = .int (ns[ns.length - 1 - i]'jl) := Option.some.inj ((hyv _ (SqL.of hl)).symm.trans hv)
    subst ev
    refine ⟨_, rfl, _, rfl, _, _, rfl, rfl, .inl ⟨by omega, by omega⟩, _, rfl, _, _, rfl, rfl, _, rfl, g, _, dx, fs, _, rfl, hg, T.cl_Game, T.n_Game_field, hf, _, _, rfl, rfl, (by show 0 < p; omega), ?_⟩
    refine ⟨some (.int (ns[ns.length - 1 - i]'jl)), ?_, rfl⟩
    rw [ed]
    rfl
  · refine .inl ⟨by show _ ≤ i; rw [hlen]; omega, ?_⟩
    have : ns.length - i = 0 := by omega
    rw [this, List.drop_zero]
    exact ⟨_, rfl, q⟩

/-! ### worth_at, counts_of, summed, true_row -/
def worthsAt (G : GameV) (pt : List Int) : List Int := G.trees.map (worth G.p G.sw pt)
def worthAt (G : GameV) (pt : List Int) (s : Int) : Int := mixM G.p s (worthsAt G pt)
theorem worthAt_rng {G : GameV} (ok : G.Ok) (pt : List Int) (s : Int) : 0 ≤ worthAt G pt s ∧ worthAt G pt s < G.p := mixM_rng (by have := ok.p3; omega) s _
def spWorthAt (T : Tx K mg) : Sp := fun vs H Q _ => ∃ (g b : Addr) (G : GameV) (pt : List Int) (s : Int), vs = [.ref g, .ref b, .int s] ∧ GameAt T.C_Game H g G ∧ G.Ok ∧ H b = some (.tup (pt.map V.int)) ∧ pt.length = G.sw.length ∧ 0 ≤ s ∧ s ≤ 999999 ∧
  ∀ H', Stp [] H H' → Q (.int (worthAt G pt s)) H'
theorem ok_Game_worth_at (T : Tx K mg) : FnOk P w K mg base CX0 24 T.f_Game_worth_at T.d_Game_worth_at ["self", "point", "s"] (spWorthAt T) := by
  refine T.F_Game_worth_at.ok sc_Game_worth_at (fun vs H Q E h => ?_) (fun cdv A outer s H vs Q E hr h => ?_)
  · obtain ⟨g, b, G, pt, s, rfl, _⟩ := h
    rfl
  obtain ⟨g, b, G, pt, z, rfl, hG, ok, hb, hl, s0, s1, q⟩ := h
  refine ⟨_, (pss_one (ps_ret (pe_meth (pv 0) T.cl_Game T.m_Game_mix (ok_Game_mix T) (hr.mono (by omega)) T.b_Game_mix .nil pass0 (pa_cons (pe_lc (own := [("tree", 3)]) (g := gName 3) (tt := tYes) (by rfl) sc_Game_worth_at.nd (ki_tup (K := K) (k_fld (K := K) (pv 0) (by rfl))) (blkOk_by (own := [("tree", 3)]) (N := ["self", "point", "s", "tree"]) (sc := defScope s_Game_worth_at) (by decide +kernel)) (fun _ _ _ _ _ => (pg_name (i := 3) sc_Game_worth_at.nd (by rfl) (Or.inl (by rfl)))) (fun _ _ _ _ _ => pts_nil) (fun _ _ _ _ _ => by exact (pe_call (ok_worth_of T 20) (hr.mono (by omega)) (by rfl) T.g_worth_of T.F_worth_of.kp T.b_worth_of .nil pass0 (pa_cons (pv 3) (pa_cons (k_fld (K := K) (pv 0) (by rfl)) (pa_cons (pv 1) (pa_cons (k_fld (K := K) (pv 0) (by rfl)) pa_nil))))))) (pa_cons (pv 2) pa_nil))))), ?_⟩
  obtain ⟨dx, a1, a2, a3, us, h1, h2, h3, h4, h5⟩ := hG
  have ut : us.length = G.trees.length := h4.len
  refine ⟨_, rfl, g, dx, _, rfl, h1, gameF_no _ _ _ _ (by decide +kernel) (by decide +kernel) (by decide +kernel) (by decide +kernel), ?_⟩
  refine ⟨_, rfl, g, _, dx, _, _, rfl, h1, T.cl_Game, T.n_Game_trees, gameF_trees _ _ _ _, a2, rfl, ⟨us, SqT.of h3⟩, fun D hD => lc_tup (K := K) (a := a2) (xs := us) (fun i H' => Stp [] H H' ∧ H' D = some (.lst (((worthsAt G pt).take i).map V.int))) ⟨Stp.new hD, upd_same⟩ (fun i H' _ h => h.1.seqT h3) ?_ ?_⟩
  · rintro i v H1 hi ⟨e1, hD1⟩
    obtain ⟨t, htt, htv⟩ := (h4.step e1).get hi
    obtain ⟨d1, d2, d3⟩ := ok.ts t (List.mem_of_getElem? htt)
    have hg1 := e1.k _ _ h1 (by simp)
    refine ⟨rfl, ?_⟩
    refine ⟨_, rfl, _, rfl, g, _, dx, _, _, rfl, hg1, T.cl_Game, T.n_Game_switches, gameF_sw _ _ _ _, _, rfl, _, rfl, g, _, dx, _, _, rfl, hg1, T.cl_Game, T.n_Game_field, gameF_field _ _ _ _, ?_⟩
    refine ⟨t, v, a1, b, G.sw, pt, G.p, rfl, htv, d1, tupF_step e1 h2, e1.t _ _ hb, hl, d3, by have := ok.p3; omega, ok.pm, fun H2 e2 => ?_⟩
    refine ⟨_, e2.k _ _ hD1 (by simp), ?_, (e1.trans e2).fresh hD, ?_⟩
    · rw [List.length_map, List.length_take]
      exact small1000 (by have : (worthsAt G pt).length = G.trees.length := List.length_map _; have := ok.tl; omega)
    · rw [upd_same, take_more (x := worth G.p G.sw pt t) (by unfold worthsAt; rw [List.getElem?_map, htt]; rfl), List.map_append]
      rfl
  · rintro H1 ⟨e1, hD1⟩
    have wl : (worthsAt G pt).length = G.trees.length := List.length_map _
    rw [List.take_of_length_le (by omega)] at hD1
    have := ok.tl
    have := ok.p3
    refine ⟨_, rfl, g, D, dx, _, worthsAt G pt, z, G.p, rfl, e1.k _ _ h1 (by simp), gameF_field _ _ _ _, hD1, by omega, by omega, ok.pm, s0, s1, q _ e1⟩
def countsOf (G : GameV) : List Int := G.trees.map (countOf G.sw)
theorem countOf_rng (sw : List Str) (t : Tree) (h : sw.length ≤ 10) : 0 ≤ countOf sw t ∧ countOf sw t ≤ 1024 := by
  unfold countOf
  have h1 := List.length_filter_le (fun st => holds sw st t) (allSettings sw.length)
  rw [allSettings_len] at h1
  have p2 : 2 ^ sw.length ≤ 2 ^ 10 := Nat.pow_le_pow_right (by decide) h
  have : (2:Nat) ^ 10 = 1024 := by decide
  omega
def spCounts (T : Tx K mg) : Sp := fun vs H Q _ => ∃ (g : Addr) (G : GameV), vs = [.ref g] ∧ GameAt T.C_Game H g G ∧ G.Ok ∧ G.sw.length ≤ 10 ∧ ∀ p H', H p = none → Stp [] H H' → H' p = some (.lst ((countsOf G).map V.int)) → Q (.ref p) H'
theorem ok_counts_of (T : Tx K mg) : FnOk P w K mg base CX0 26 T.f_counts_of T.d_counts_of ["game"] (spCounts T) := by
  refine T.F_counts_of.ok sc_counts_of (fun vs H Q E h => ?_) (fun cdv A outer s H vs Q E hr h => ?_)
  · obtain ⟨g, G, rfl, _⟩ := h
    rfl
  obtain ⟨g, G, rfl, hG, ok, sl, q⟩ := h
  refine ⟨_, (pss_one (ps_ret (pe_lc (own := [("tree", 1)]) (g := gName 1) (tt := tYes) (by rfl) sc_counts_of.nd (ki_tup (K := K) (k_fld (K := K) (pv 0) (by rfl))) (blkOk_by (own := [("tree", 1)]) (N := ["game", "tree"]) (sc := defScope s_counts_of) (by decide +kernel)) (fun _ _ _ _ _ => (pg_name (i := 1) sc_counts_of.nd (by rfl) (Or.inl (by rfl)))) (fun _ _ _ _ _ => pts_nil) (fun _ _ _ _ _ => by exact (pe_call (ok_count_of T) (hr.mono (by omega)) (by rfl) T.g_count_of T.F_count_of.kp T.b_count_of .nil pass0 (pa_cons (pv 1) (pa_cons (k_fld (K := K) (pv 0) (by rfl)) pa_nil))))))), ?_⟩
  obtain ⟨dx, a1, a2, a3, us, h1, h2, h3, h4, h5⟩ := hG
  have ut : us.length = G.trees.length := h4.len
  refine ⟨_, rfl, g, _, dx, _, _, rfl, h1, T.cl_Game, T.n_Game_trees, gameF_trees _ _ _ _, a2, rfl, ⟨us, SqT.of h3⟩, fun D hD => lc_tup (K := K) (a := a2) (xs := us) (fun i H' => Stp [] H H' ∧ H' D = some (.lst (((countsOf G).take i).map V.int))) ⟨Stp.new hD, upd_same⟩ (fun i H' _ h => h.1.seqT h3) ?_ ?_⟩
  · rintro i v H1 hi ⟨e1, hD1⟩
    obtain ⟨t, htt, htv⟩ := (h4.step e1).get hi
    obtain ⟨d1, d2, d3⟩ := ok.ts t (List.mem_of_getElem? htt)
    have hg1 := e1.k _ _ h1 (by simp)
    refine ⟨rfl, ?_⟩
    refine ⟨_, rfl, _, rfl, g, _, dx, _, _, rfl, hg1, T.cl_Game, T.n_Game_switches, gameF_sw _ _ _ _, ?_⟩
    refine ⟨t, v, a1, G.sw, rfl, htv, d1, (tupF_step e1 h2).sq, sl, d3, fun H2 e2 => ?_⟩
    refine ⟨_, e2.k _ _ hD1 (by simp), ?_, (e1.trans e2).fresh hD, ?_⟩
    · rw [List.length_map, List.length_take]
      exact small1000 (by have : (countsOf G).length = G.trees.length := List.length_map _; have := ok.tl; omega)
    · rw [upd_same, take_more (x := countOf G.sw t) (by unfold countsOf; rw [List.getElem?_map, htt]; rfl), List.map_append]
      rfl
  · rintro H1 ⟨e1, hD1⟩
    have wl : (countsOf G).length = G.trees.length := List.length_map _
    rw [List.take_of_length_le (by omega)] at hD1
    exact q D _ hD e1 hD1
def sumAt (G : GameV) (s : Int) (ahead : List Int) (n : Nat) : Int := ((allSettings n).map fun st => worthAt G (ahead ++ st) s).sum % G.p
def spSummed (T : Tx K mg) : Sp := fun vs H Q _ => ∃ (g a b : Addr) (G : GameV) (s : Int) (ahead : List Int) (n : Nat) (us : List V), vs = [.ref g, .int s, .ref a, .ref b] ∧ GameAt T.C_Game H g G ∧ G.Ok ∧ H a = some (.tup (ahead.map V.int)) ∧
  H b = some (.lst us) ∧ AllP (SetAt H) (allSettings n) us ∧ ahead.length + n = G.sw.length ∧ G.sw.length ≤ 10 ∧ 0 ≤ s ∧ s ≤ 999999 ∧ ∀ H', Stp [] H H' → Q (.int (sumAt G s ahead n)) H'
theorem ok_summed (T : Tx K mg) : FnOk P w K mg base CX0 26 T.f_summed T.d_summed ["game", "s", "ahead", "behind"] (spSummed T) := by
  refine T.F_summed.ok sc_summed (fun vs H Q E h => ?_) (fun cdv A outer s H vs Q E hr h => ?_)
  · obtain ⟨g, a, b, G, s, ahead, n, us, rfl, _⟩ := h
    rfl
  obtain ⟨g, a, b, G, z, ahead, n, us, rfl, hG, ok, ha, hb, hu, hn, sl, s0, s1, q⟩ := h
  refine ⟨_, (pss_one (ps_ret (pe_op op_mod (pe_callB (k_sum (K := K) (by rfl)) (by rfl) T.z_sum (by decide +kernel) (pa_cons (pe_lc (own := [("setting", 4)]) (g := gName 4) (tt := tYes) (by rfl) sc_summed.nd (ki_list (K := K) (pv 3)) (blkOk_by (own := [("setting", 4)]) (N := ["game", "s", "ahead", "behind", "setting"]) (sc := defScope s_summed) (by decide +kernel)) (fun _ _ _ _ _ => (pg_name (i := 4) sc_summed.nd (by rfl) (Or.inl (by rfl)))) (fun _ _ _ _ _ => pts_nil) (fun _ _ _ _ _ => by exact (pe_meth (pv 0) T.cl_Game T.m_Game_worth_at (ok_Game_worth_at T) (hr.mono (by omega)) T.b_Game_worth_at .nil pass0 (pa_cons (pe_op (k_catT (K := K)) (pv 2) (pv 4)) (pa_cons (pv 1) pa_nil))))) pa_nil)) (k_fld (K := K) (pv 0) (by rfl))))), ?_⟩
  obtain ⟨dx, a1, a2, a3, vs, h1, h2, h3, h4, h5⟩ := id hG
  let W : List Int := (allSettings n).map fun st => worthAt G (ahead ++ st) z
  have Wl : W.length = 2 ^ n := by show ((allSettings n).map _).length = _; rw [List.length_map, allSettings_len]
  have p2 : 2 ^ n ≤ 2 ^ 10 := Nat.pow_le_pow_right (by decide) (by omega)
  have k1024 : (2:Nat) ^ 10 = 1024 := by decide
  refine ⟨_, rfl, b, rfl, ⟨us, SqL.of hb⟩, fun D hD => lc_list (K := K) (a := b) (xs := us) (fun i H' => Stp [] H H' ∧ H' D = some (.lst ((W.take i).map V.int))) ⟨Stp.new hD, upd_same⟩ (fun i H' _ h => SqL.of (h.1.k _ _ hb (by simp))) ?_ ?_⟩
  · rintro i v H1 hi ⟨e1, hD1⟩
    obtain ⟨st, hst, c, rfl, hc⟩ := (AllP.mono (fun s v => SetAt.step (l := []) e1) hu).get hi
    obtain ⟨stl, _⟩ := allSettings_each _ st (List.mem_of_getElem? hst)
    have hg1 := e1.k _ _ h1 (by simp)
    refine ⟨rfl, ?_⟩
    refine ⟨_, rfl, g, dx, _, rfl, hg1, gameF_no _ _ _ _ (by decide +kernel) (by decide +kernel) (by decide +kernel) (by decide +kernel), ?_⟩
    refine ⟨_, rfl, _, rfl, cat_tup (e1.t _ _ ha) hc (by rw [List.length_map, List.length_map]; omega) fun d H2 e2 hd => ?_⟩
    rw [← List.map_append] at hd
    refine ⟨_, rfl, g, d, G, ahead ++ st, z, rfl, hG.step0 (e1.trans e2), ok, hd, by rw [List.length_append]; omega, s0, s1, fun H3 e3 => ?_⟩
    refine ⟨_, (e2.trans e3).k _ _ hD1 (by simp), ?_, (e1.trans (e2.trans e3)).fresh hD, ?_⟩
    · rw [List.length_map, List.length_take]
      exact Nat.lt_of_le_of_lt (by omega : _ ≤ 2000) (by decide)
    · rw [upd_same, take_more (l := W) (x := worthAt G (ahead ++ st) z) (by show ((allSettings n).map _)[i]? = _; rw [List.getElem?_map, hst]; rfl), List.map_append]
      rfl
  · rintro H1 ⟨e1, hD1⟩
    rw [List.take_of_length_le (by rw [Wl, hu.len, allSettings_len]; exact Nat.le_refl _)] at hD1
    have := ok.p3
    refine ⟨D, W, rfl, SqL.of hD1, ?_⟩
    refine ⟨_, rfl, g, _, dx, _, _, rfl, e1.k _ _ h1 (by simp), T.cl_Game, T.n_Game_field, gameF_field _ _ _ _, _, _, rfl, rfl, (by show 0 < G.p; omega), q _ e1⟩
def trueRow (G : GameV) (s : Int) (coins : List Int) : List Int :=
  (List.range (G.deg.getD coins.length 0 + 1).toNat).map fun (x : Nat) => sumAt G s (coins ++ [(x : Int)]) (G.sw.length - coins.length - 1)
theorem deg_rng {G : GameV} (ok : G.Ok) {k : Nat} {d : Int} (h : G.deg[k]? = some d) : 0 ≤ d ∧ d ≤ 1000 := by
  have hk := lt_of_at h
  rw [ok.dl] at hk
  obtain ⟨x, hx⟩ : ∃ x, G.sw[k]? = some x := ⟨_, List.getElem?_eq_getElem hk⟩
  obtain ⟨h1, _⟩ := ok.dg k x d hx h
  obtain ⟨t, ht, rfl⟩ := List.mem_map.mp h1
  obtain ⟨_, h2, _⟩ := ok.ts t ht
  have := t.names_le
  have := List.count_le_length (a := x) (l := t.names)
  omega
def spTrueRow (T : Tx K mg) : Sp := fun vs H Q _ => ∃ (g a : Addr) (G : GameV) (s : Int) (coins : List Int), vs = [.ref g, .int s, .ref a] ∧ GameAt T.C_Game H g G ∧ G.Ok ∧ H a = some (.lst (coins.map V.int)) ∧ coins.length < G.sw.length ∧ G.sw.length ≤ 10 ∧ 0 ≤ s ∧ s ≤ 999999 ∧
  ∀ p H', H p = none → Stp [] H H' → H' p = some (.lst ((trueRow G s coins).map V.int)) → Q (.ref p) H'
theorem ok_true_row (T : Tx K mg) : FnOk P w K mg base CX0 28 T.f_true_row T.d_true_row ["game", "s", "coins"] (spTrueRow T) := by
  refine T.F_true_row.ok sc_true_row (fun vs H Q E h => ?_) (fun cdv A outer s H vs Q E hr h => ?_)
  · obtain ⟨g, a, G, s, coins, rfl, _⟩ := h
    rfl
  obtain ⟨g, a, G, z, coins, rfl, hG, ok, ha, hl, sl, s0, s1, q⟩ := h
  refine ⟨_, (pss_cons (ps_set (i := 3) sc_true_row.nd rfl (.inl rfl) (pe_callB (k_len (K := K)) (by rfl) T.z_len (by decide +kernel) (pa_cons (pv 2) pa_nil)))
      (pss_cons (ps_set (i := 4) sc_true_row.nd rfl (.inr rfl) (pe_call (ok_all_settings T) (hr.mono (by omega)) (by rfl) T.g_all_settings T.F_all_settings.kp T.b_all_settings .nil pass0 (pa_cons (pe_op op_sub (pe_op op_sub (pe_callB (k_len (K := K)) (by rfl) T.z_len (by decide +kernel) (pa_cons (k_fld (K := K) (pv 0) (by rfl)) pa_nil)) (pv 3)) pe_int) pa_nil)))
      (pss_one (ps_ret (pe_lc (own := [("x", 5)]) (g := gName 5) (tt := tYes) (by rfl) sc_true_row.nd (pi_range1 (by rfl) T.z_range (pa_cons (pe_op op_add (pe_ix (k_ix_list (K := K)) (k_fld (K := K) (pv 0) (by rfl)) (pv 3) (fun _ _ => rfl)) pe_int) pa_nil)) (blkOk_by (own := [("x", 5)]) (N := ["game", "s", "coins", "k", "behind", "x"]) (sc := defScope s_true_row) (by decide +kernel)) (fun _ _ _ _ _ => (pg_name (i := 5) sc_true_row.nd (by rfl) (Or.inl (by rfl)))) (fun _ _ _ _ _ => pts_nil) (fun _ _ _ _ _ => by exact (pe_call (ok_summed T) (hr.mono (by omega)) (by rfl) T.g_summed T.F_summed.kp T.b_summed .nil pass0 (pa_cons (pv 0) (pa_cons (pv 1) (pa_cons (pe_op (k_catT (K := K)) (pe_callTy (k_tuple_of (K := K)) (by rfl) T.z_tuple (by decide +kernel) (pa_cons (pv 2) pa_nil)) (pe_tup (pa_cons (pv 5) pa_nil))) (pa_cons (pv 4) pa_nil))))))))))), ?_⟩
  obtain ⟨dx, a1, a2, a3, vs, h1, h2, h3, h4, h5⟩ := id hG
  refine ⟨_, rfl, a, _, rfl, .inl (SqL.of ha), ?_⟩
  rw [List.length_map]
  refine ⟨_, rfl, g, _, dx, _, _, rfl, h1, T.cl_Game, T.n_Game_switches, gameF_sw _ _ _ _, a1, _, rfl, .inr h2.sq, _, rfl, _, _, rfl, rfl, _, _, rfl, rfl, ?_⟩
  rw [List.length_map]
  refine ⟨G.sw.length - coins.length - 1, ?_, by omega, fun b H1 us hb e1 hb1 hu => ?_⟩
  · show [V.int _] ++ [] = [V.int _]
    have : ((G.sw.length : Int) - (coins.length : Int) - 1) = ((G.sw.length - coins.length - 1 : Nat) : Int) := by omega
    rw [this]; rfl
  obtain ⟨d, hd⟩ : ∃ d, G.deg[coins.length]? = some d := ⟨_, List.getElem?_eq_getElem (by rw [ok.dl]; exact hl)⟩
  have dr := deg_rng ok hd
  have gd : G.deg.getD coins.length 0 = d := by rw [List.getD_eq_getElem?_getD, hd]; rfl
  have hg1 := e1.k _ _ h1 (by simp)
  let R := trueRow G z coins
  have Rl : R.length = (d + 1).toNat := by show ((List.range _).map _).length = _; rw [List.length_map, List.length_range, gd]
  refine ⟨_, rfl, g, _, dx, _, _, rfl, hg1, T.cl_Game, T.n_Game_degrees, gameF_deg _ _ _ _, _, rfl, a3, _, _, _, rfl, rfl, SqL.of (e1.k _ _ h5 (by simp)), atI_nat (by rw [List.getElem?_map, hd]; rfl), _, _, rfl, rfl, ?_⟩
  refine ⟨d + 1, rfl, by omega, by omega, fun D hD => lc_range (lo := 0) (n := (d + 1).toNat) (fun i H' => Stp [] H1 H' ∧ H' D = some (.lst ((R.take i).map V.int))) ⟨Stp.new hD, upd_same⟩ ?_ ?_⟩
  · rintro i H2 hi ⟨e2, hD2⟩
    refine ⟨rfl, ?_⟩
    have e12 := e1.trans e2
    refine ⟨_, rfl, _, rfl, _, rfl, a, _, rfl, .inl ⟨SqL.of (e12.k _ _ ha (by simp)), fun c hc => ?_⟩⟩
    have e3 := Stp.new (l := []) (o := .tup (coins.map V.int)) hc
    refine ⟨_, rfl, Nat.le_of_lt (small1000 (by show 1 ≤ 1000; decide)), fun c2 hc2 => ?_⟩
    have e4 := Stp.new (l := []) (o := .tup [.int (0 + (i : Int))]) hc2
    refine cat_tup (e4.t _ _ upd_same) upd_same (by rw [List.length_map]; show _ + 1 ≤ 1000; omega) fun c3 H5 e5 hc3 => ?_
    have e35 := (e3.trans e4).trans e5
    have hc3' : H5 c3 = some (.tup ((coins ++ [(i : Int)]).map V.int)) := by
      rw [hc3, List.map_append]
      have : (0 : Int) + (i : Int) = (i : Int) := Int.zero_add _
      rw [this]; rfl
    refine ⟨_, rfl, g, c3, b, G, z, coins ++ [(i : Int)], G.sw.length - coins.length - 1, us, rfl, hG.step0 (e12.trans e35), ok, hc3', (e2.trans e35).k _ _ hb1 (by simp), AllP.mono (fun s v => SetAt.step (l := []) (e2.trans e35)) hu, ?_, sl, s0, s1, fun H6 e6 => ?_⟩
    · rw [List.length_append]; show _ + 1 + _ = _; omega
    refine ⟨_, (e35.trans e6).k _ _ hD2 (by simp), ?_, (e2.trans (e35.trans e6)).fresh hD, ?_⟩
    · rw [List.length_map, List.length_take]
      exact Nat.lt_of_le_of_lt (by omega : _ ≤ 2000) (by decide)
    · rw [upd_same, take_more (l := R) (x := sumAt G z (coins ++ [(i : Int)]) (G.sw.length - coins.length - 1)) (by
        show ((List.range (G.deg.getD coins.length 0 + 1).toNat).map _)[i]? = _
        rw [gd, List.getElem?_map, List.getElem?_range hi]; rfl), List.map_append]
      rfl
  · rintro H2 ⟨e2, hD2⟩
    rw [List.take_of_length_le (by omega)] at hD2
    exact q D _ (e1.free hD (by simp)) (e1.trans e2) hD2

/-! ### inverse_of -/
def spInv : Sp := fun vs H Q _ => ∃ a p : Int, vs = [.int a, .int p] ∧ 1 ≤ a ∧ a < p ∧ p ≤ 999999 ∧ PrimeI p ∧ ∀ H', Stp [] H H' → Q (.int (invI p a)) H'
theorem prime_gcd {p a g : Int} (hp : PrimeI p) (h1 : 1 ≤ a) (h2 : a < p) (g1 : 1 ≤ g) (d1 : p % g = 0) (d2 : a % g = 0) : g = 1 := by
  by_cases c : g = 1
  · exact c
  · have gp : g < p := by
      by_cases z : g ≤ a
      · omega
      · have : a % g = a := Int.emod_eq_of_lt (by omega) (by omega)
        omega
    exact absurd d1 (hp.2 g (by omega) gp)
theorem ok_inverse_of (T : Tx K mg) : FnOk P w K mg base CX0 1 T.f_inverse_of T.d_inverse_of ["a", "p"] spInv := by
  refine T.F_inverse_of.ok sc_inverse_of (fun vs H Q E h => ?_) (fun cdv A outer s H vs Q E hr h => ?_)
  · obtain ⟨a, p, rfl, _⟩ := h
    rfl
  obtain ⟨a, p, rfl, a1, ap, pm, hp, q⟩ := h
  refine ⟨_, (pss_cons (ps_par (i := 2) (j := 3) (by rfl) sc_inverse_of.nd rfl rfl (by decide) rfl rfl (pa_cons (pv 1) (pa_cons (pv 0) pa_nil)) (by rfl))
      (pss_cons (ps_asg (pe_tup (pa_cons pe_int (pa_cons pe_int pa_nil))) (pg_tup rfl (pgs_cons (pg_name (i := 4) sc_inverse_of.nd (by rfl) (Or.inl (by rfl))) (pgs_cons (pg_name (i := 5) sc_inverse_of.nd (by rfl) (Or.inl (by rfl))) pgs_nil))))
      (pss_cons (ps_while PassesOwn.never (pt_cmpR op_gt (pv 3) pe_int (nomark _))
      (pss_cons (ps_set (i := 6) sc_inverse_of.nd rfl (.inl rfl) (pe_op op_fdivW (pv 2) (pv 3)))
      (pss_cons (ps_par (i := 2) (j := 3) (by rfl) sc_inverse_of.nd rfl rfl (by decide) rfl rfl (pa_cons (pv 3) (pa_cons (pe_op op_sub (pv 2) (pe_op op_mul (pv 6) (pv 3))) pa_nil)) (by rfl))
      (pss_one (ps_par (i := 4) (j := 5) (by rfl) sc_inverse_of.nd rfl rfl (by decide) rfl rfl (pa_cons (pv 5) (pa_cons (pe_op op_sub (pv 4) (pe_op op_mul (pv 6) (pv 5))) pa_nil)) (by rfl))))))
      (pss_one (ps_ret (pe_op op_mod (pv 4) (pv 1))))))), ?_⟩
  refine ⟨_, rfl, _, rfl, _, _, rfl, Nat.le_of_lt (small1000 (by show 2 ≤ 1000; decide)), fun tp htp => ?_⟩
  have et := Stp.new (l := []) (o := .tup [.int 0, .int 1]) htp
  refine ⟨tp, _, rfl, .inl (.inl upd_same), rfl, _, [.int 1], rfl, _, [], rfl, rfl, ?_⟩
  refine ⟨fun m σ H' => ∃ (x y u v : Int) (z : Option V), σ = [some (.int a), some (.int p), some (.int x), some (.int y), some (.int u), some (.int v), z] ∧ Stp [] H H' ∧ 0 ≤ y ∧ 1 ≤ x ∧ x ≤ p ∧ y ≤ p ∧ m = y.toNat ∧
      (u * a - x) % p = 0 ∧ (v * a - y) % p = 0 ∧ (∀ g : Int, 1 ≤ g → x % g = 0 → y % g = 0 → p % g = 0 ∧ a % g = 0),
    ⟨_, p, a, 0, 1, none, rfl, et, by omega, by omega, by omega, by omega, rfl, by rw [Int.zero_mul]; show (0 - p) % p = 0; rw [Int.zero_sub, Int.neg_emod_self], by rw [Int.one_mul, Int.sub_self]; exact Int.zero_emod _, fun g _ h1 h2 => ⟨h1, h2⟩⟩, fun m σ H' hW => ?_⟩
  obtain ⟨x, y, u, v, z, rfl, eH, y0, x1, xp, yp, rfl, hu, hv, hg⟩ := hW
  walk_at "r"
  walk_at "if"
  · rename_i c
    have c' : 0 < y := c
    have sh0 : 0 ≤ x / y := Int.ediv_nonneg (by omega) (by omega)
    have sh1 : x / y ≤ x := Int.ediv_le_self y (by omega)
    have em := Int.mul_ediv_add_emod x y
    have eqr : x - x / y * y = x % y := by rw [Int.mul_comm]; omega
    have md := mod_lt' (a := x) (m := y) c'
    refine ⟨fun σ H2 => ∃ z, σ = [some (.int a), some (.int p), some (.int y), some (.int (x - x / y * y)), some (.int v), some (.int (u - x / y * v)), z] ∧ H2 = H', fun σ2 H2 ⟨z, e1, e2⟩ => ⟨_, ?_, y, x - x / y * y, v, u - x / y * v, z, e1, by rw [e2]; exact eH, by omega, by omega, by omega, by omega, rfl, hv, ?_, fun g g1 h1 h2 => ?_⟩, ?_⟩
    · rw [eqr]; omega
    · have e : (u - x / y * v) * a - (x - x / y * y) = (u * a - x) - x / y * (v * a - y) := by
        rw [Int.sub_mul, Int.mul_sub, Int.mul_assoc]; omega
      rw [e, Int.sub_emod, hu, Int.mul_emod, hv, Int.mul_zero, Int.zero_emod, Int.sub_zero, Int.zero_emod]
    · refine hg g g1 ?_ h1
      obtain ⟨k1, hk1⟩ := Int.dvd_of_emod_eq_zero h1
      obtain ⟨k2, hk2⟩ := Int.dvd_of_emod_eq_zero h2
      refine Int.emod_eq_zero_of_dvd ⟨k2 + x / y * k1, ?_⟩
      rw [Int.mul_add, ← hk2, Int.mul_left_comm, ← hk1]; omega
    · refine ⟨_, rfl, _, rfl, _, _, rfl, rfl, div_ok c' (by omega), ?_⟩
      refine ⟨_, rfl, _, rfl, _, rfl, _, rfl, _, _, rfl, rfl, .inl ⟨by omega, by omega⟩, _, _, rfl, rfl, _, _, rfl, ?_⟩
      refine ⟨_, rfl, _, rfl, _, rfl, _, rfl, _, _, rfl, rfl, .inl ⟨by omega, by omega⟩, _, _, rfl, rfl, _, _, rfl, ?_⟩
      exact ⟨some (.int (x / y)), rfl, rfl⟩
  · rename_i c
    have c' : ¬ 0 < y := c
    have y00 : y = 0 := by omega
    subst y00
    have gx := hg x x1 Int.emod_self (Int.zero_emod _)
    have x11 : x = 1 := prime_gcd hp a1 ap x1 gx.1 gx.2
    have inv := gcd_inv hu x11 hp.1
    refine ⟨_, rfl, _, rfl, _, _, rfl, rfl, (by show 0 < p; omega), ?_⟩
    have e := inv_eq inv
    show Q (.int (u % p)) _
    rw [e]; exact q _ eH
/-! ### value_at, both_ends -/
def spValue (K : PySem.W.Frag) : Sp := fun vs H Q _ => ∃ (a : Addr) (ns : List Int) (r p : Int), vs = [.ref a, .int r, .int p] ∧ (SqL K H a (ns.map V.int) ∨ False) ∧ 1 ≤ ns.length ∧ (ns.length : Int) ≤ p ∧ ns.length ≤ 2000 ∧ PrimeI p ∧ p ≤ 999999 ∧ 0 ≤ r ∧ r < p ∧
  (∀ x ∈ ns, -1000000000000 ≤ x ∧ x ≤ 1000000000000) ∧ ∀ H', Stp [] H H' → Q (.int (valueAt p r ns)) H'
theorem at_i {ns : List Int} {j : Nat} {x : Int} (h : ns[j]? = some x) : atI (ns.map V.int) (j : Int) = some (.int x) := atI_nat (by rw [List.getElem?_map, h]; rfl)
theorem ok_value_at (T : Tx K mg) : FnOk P w K mg base CX0 2 T.f_value_at T.d_value_at ["values", "r", "p"] (spValue K) := by
  refine T.F_value_at.ok sc_value_at (fun vs H Q E h => ?_) (fun cdv A outer s H vs Q E hr h => ?_)
  · obtain ⟨a, ns, r, p, rfl, _⟩ := h
    rfl
  obtain ⟨a, ns, r, p, rfl, hS, n1, np, nl, hp, pm, r0, r1, hx, q⟩ := h
  have hS := hS.resolve_right id
  refine ⟨_, (pss_cons (ps_set (i := 3) sc_value_at.nd rfl (.inr rfl) (pe_lc (own := [("value", 7)]) (g := gName 7) (tt := tYes) (by rfl) sc_value_at.nd (ki_list (K := K) (pv 0)) (blkOk_by (own := [("value", 7)]) (N := ["values", "r", "p", "left", "found", "share", "k", "value", "j"]) (sc := defScope s_value_at) (by decide +kernel)) (fun _ _ _ _ _ => (pg_name (i := 7) sc_value_at.nd (by rfl) (Or.inl (by rfl)))) (fun _ _ _ _ _ => pts_nil) (fun _ _ _ _ _ => by exact (pe_op op_mod (pv 7) (pv 2)))))
      (pss_cons (ps_set (i := 4) sc_value_at.nd rfl (.inl rfl) pe_int)
      (pss_cons (ps_set (i := 5) sc_value_at.nd rfl (.inl rfl) pe_int)
      (pss_cons (ps_for PassesOwn.never rfl (pi_range1 (by rfl) T.z_range (pa_cons (pe_callB (k_len (K := K)) (by rfl) T.z_len (by decide +kernel) (pa_cons (pv 0) pa_nil)) pa_nil)) (pg_name (i := 6) sc_value_at.nd (by rfl) (Or.inl (by rfl)))
      (pss_cons (ps_set (i := 4) sc_value_at.nd rfl (.inl rfl) (pe_op op_mod (pe_op op_add (pv 4) (pe_op op_mul (pv 5) (pe_ix (k_ix_list (K := K)) (pv 3) pe_int (fun _ _ => rfl)))) (pv 2)))
      (pss_cons (ps_set (i := 3) sc_value_at.nd rfl (.inr rfl) (pe_lc (own := [("j", 8)]) (g := gName 8) (tt := tYes) (by rfl) sc_value_at.nd (pi_range1 (by rfl) T.z_range (pa_cons (pe_op op_sub (pe_callB (k_len (K := K)) (by rfl) T.z_len (by decide +kernel) (pa_cons (pv 3) pa_nil)) pe_int) pa_nil)) (blkOk_by (own := [("j", 8)]) (N := ["values", "r", "p", "left", "found", "share", "k", "value", "j"]) (sc := defScope s_value_at) (by decide +kernel)) (fun _ _ _ _ _ => (pg_name (i := 8) sc_value_at.nd (by rfl) (Or.inl (by rfl)))) (fun _ _ _ _ _ => pts_nil) (fun _ _ _ _ _ => by exact (pe_op op_mod (pe_op op_sub (pe_ix (k_ix_list (K := K)) (pv 3) (pe_op op_add (pv 8) pe_int) (fun _ _ => rfl)) (pe_ix (k_ix_list (K := K)) (pv 3) (pv 8) (fun _ _ => rfl))) (pv 2)))))
      (pss_one (ps_if (pt_cmpR op_lt (pe_op op_add (pv 6) pe_int) (pe_callB (k_len (K := K)) (by rfl) T.z_len (by decide +kernel) (pa_cons (pv 0) pa_nil)) (nomark _)) (pss_one (ps_set (i := 5) sc_value_at.nd rfl (.inl rfl) (pe_op op_mod (pe_op op_mul (pe_op op_mul (pv 5) (pe_op op_sub (pv 1) (pv 6))) (pe_call (ok_inverse_of T) (hr.mono (by omega)) (by rfl) T.g_inverse_of T.F_inverse_of.kp T.b_inverse_of .nil pass0 (pa_cons (pe_op op_add (pv 6) pe_int) (pa_cons (pv 2) pa_nil)))) (pv 2)))) pss_nil)))))
      (pss_one (ps_ret (pv 4))))))), ?_⟩
  have p2 := hp.1
  have hlen : (ns.map V.int).length = ns.length := List.length_map _
  refine ⟨_, rfl, a, rfl, ⟨_, hS⟩, fun D hD => lc_list (K := K) (a := a) (xs := ns.map V.int) (fun i H' => Stp [] H H' ∧ H' D = some (.lst (((ns.map (· % p)).take i).map V.int))) ⟨Stp.new hD, upd_same⟩ (fun i H' _ h => h.1.seq hS (by simp)) ?_ ?_⟩
  · rintro i v H1 hi ⟨e1, hD1⟩
    obtain ⟨x, hxi, rfl⟩ := at_int hi
    refine ⟨rfl, ?_⟩
    refine ⟨_, rfl, _, rfl, _, _, rfl, rfl, (by show 0 < p; omega), _, hD1, ?_, e1.fresh hD, ?_⟩
    · rw [List.length_map, List.length_take]
      exact smallN (by have := lt_of_at hxi; omega)
    · rw [upd_same, take_more (l := ns.map (· % p)) (x := x % p) (by rw [List.getElem?_map, hxi]; rfl), List.map_append]
      rfl
  · rintro H1 ⟨e1, hD1⟩
    rw [List.take_of_length_le (by rw [List.length_map, List.length_map]; exact Nat.le_refl _)] at hD1
    refine ⟨_, rfl, a, _, rfl, .inl (e1.seq hS (by simp)), ?_⟩
    rw [hlen]
    refine ⟨_, rfl, by omega, by omega, for_range (lo := 0) (n := ((ns.length : Nat) : Int).toNat) (fun i σ H' => ∃ (l : Addr) (left : List Int) (share found : Int) (y1 y2 y3 : Option V), σ = [some (.ref a), some (.int r), some (.int p), some (.ref l), some (.int found), some (.int share), y1, y2, y3] ∧ Stp [] H H' ∧
        H' l = some (.lst (left.map V.int)) ∧ left.length + i = ns.length ∧ (∀ x ∈ left, 0 ≤ x ∧ x < p) ∧ 0 ≤ found ∧ found < p ∧ 0 ≤ share ∧ share < p ∧ newton p r (ns.length - i) (i : Int) left share found = valueAt p r ns)
      ⟨D, ns.map (· % p), 1, 0, none, none, none, rfl, e1, hD1, by rw [List.length_map]; omega, fun x hxm => ?_, by omega, by omega, by omega, by omega, rfl⟩ ?_ ?_⟩
    · obtain ⟨y, _, rfl⟩ := List.mem_map.mp hxm
      exact mod_lt' (by omega)
    · rintro i σ H2 hi ⟨l, left, share, found, y1, y2, y3, rfl, e2, hl, ll, hle, f0, f1, s0, s1, hnw⟩
      have hi' : i < ns.length := by omega
      obtain ⟨x, rest, rfl⟩ : ∃ x rest, left = x :: rest := by
        cases left with
        | nil => exact absurd ll (by show ¬ 0 + i = _; omega)
        | cons x rest => exact ⟨x, rest, rfl⟩
      have hx0 := hle x List.mem_cons_self
      have rl : rest.length + 1 + i = ns.length := ll
      refine ⟨_, rfl, _, rfl, _, rfl, l, _, _, _, rfl, rfl, SqL.of hl, at0, _, _, rfl, rfl, .inl ⟨by omega, by omega⟩, _, _, rfl, rfl, _, rfl, _, _, rfl, rfl, (by show 0 < p; omega), ?_⟩
      refine ⟨_, rfl, l, _, rfl, .inl (SqL.of hl), _, _, rfl, rfl, ?_⟩
      rw [List.length_map]
      refine ⟨_, rfl, by show -(2^62) ≤ ((rest.length + 1 : Nat) : Int) - 1; omega, by show ((rest.length + 1 : Nat) : Int) - 1 < 2 ^ 62; omega, fun D2 hD2 => lc_range (lo := 0) (n := (((x :: rest).length : Nat) - 1 : Int).toNat) (fun j H' => Stp [] H2 H' ∧ H' D2 = some (.lst (((diffsM p (x :: rest)).take j).map V.int))) ⟨Stp.new hD2, upd_same⟩ ?_ ?_⟩
      · rintro j H3 hj ⟨e3, hD3⟩
        have hj' : j < rest.length := by
          have : ((x :: rest).length : Int) = (rest.length : Int) + 1 := by show ((rest.length + 1 : Nat) : Int) = _; omega
          omega
        obtain ⟨u, hu⟩ : ∃ u, (x :: rest)[j]? = some u := ⟨_, List.getElem?_eq_getElem (by show j < rest.length + 1; omega)⟩
        obtain ⟨v, hv⟩ : ∃ v, (x :: rest)[j + 1]? = some v := ⟨_, List.getElem?_eq_getElem (by show j + 1 < rest.length + 1; omega)⟩
        have hl3 : SqL K H3 l ((x :: rest).map V.int) := SqL.of (e3.k _ _ hl (by simp))
        refine ⟨rfl, ?_⟩
        refine ⟨_, rfl, _, rfl, _, _, rfl, rfl, l, _, _, _, rfl, rfl, hl3, (by have := at_i hv; rw [show (0 : Int) + (j : Int) + 1 = ((j + 1 : Nat) : Int) by omega]; exact this), ?_⟩
        refine ⟨_, rfl, _, rfl, l, _, _, _, rfl, rfl, hl3, (by rw [show (0 : Int) + (j : Int) = ((j : Nat) : Int) by omega]; exact at_i hu), _, _, rfl, rfl, _, rfl, _, _, rfl, rfl, (by show 0 < p; omega), ?_⟩
        refine ⟨_, hD3, ?_, e3.fresh hD2, ?_⟩
        · rw [List.length_map, List.length_take]
          exact smallN (by omega)
        · rw [upd_same, take_more (diffsM_get p _ j u v hu hv), List.map_append]
          rfl
      · rintro H3 ⟨e3, hD3⟩
        rw [List.take_of_length_le (by rw [diffsM_len]; show rest.length + 1 - 1 ≤ _; have : ((x :: rest).length : Int) = (rest.length : Int) + 1 := by (show ((rest.length + 1 : Nat) : Int) = _; omega)
                                       omega)] at hD3
        have e23 := e2.trans e3
        refine ⟨_, rfl, _, _, rfl, rfl, _, rfl, a, _, rfl, .inl (e23.seq hS (by simp)), _, _, rfl, rfl, _, rfl, ?_⟩
        rw [hlen]
        have dl : (diffsM p (x :: rest)).length + (i + 1) = ns.length := by rw [diffsM_len]; show rest.length + 1 - 1 + (i + 1) = _; omega
        have nw : newton p r (ns.length - (i + 1)) ((i : Int) + 1) (diffsM p (x :: rest)) (if ns.length - (i + 1) = 0 then share else share * (r - (i : Int)) * invI p ((i : Int) + 1) % p) ((found + share * x) % p) = valueAt p r ns := by
          rw [← hnw]
          have : ns.length - i = (ns.length - (i + 1)) + 1 := by omega
          rw [this]
          rfl
        have ei : (((i + 1 : Nat) : Int)) = (i : Int) + 1 := by omega
        have f' := mod_lt' (a := found + share * x) (m := p) (by omega)
        walk_at "if"
        · rename_i c
          have c' : (0 : Int) + (i : Int) + 1 < (ns.length : Int) := c
          refine ⟨_, rfl, _, rfl, _, rfl, _, _, rfl, rfl, _, _, rfl, rfl, .inl ⟨by omega, by omega⟩, ?_⟩
          refine ⟨_, rfl, _, _, rfl, rfl, _, rfl, (i : Int) + 1, p, ?_, by omega, by omega, pm, hp, fun H4 e4 => ?_⟩
          · show [V.int (0 + (i : Int) + 1), V.int p] = _
            rw [show (0 : Int) + (i : Int) + 1 = (i : Int) + 1 by omega]
          have ir : 0 ≤ invI p ((i : Int) + 1) ∧ invI p ((i : Int) + 1) ≤ 1000000 := by
            unfold invI
            refine ⟨Int.natCast_nonneg _, ?_⟩
            cases e : (List.range p.toNat).find? fun (r : Nat) => decide ((((i : Int) + 1) * (r : Int)) % p = 1) with
            | none => show ((0 : Nat) : Int) ≤ _; decide
            | some z =>
              have := List.mem_range.mp (List.mem_of_find?_eq_some e)
              show ((z : Nat) : Int) ≤ _
              omega
          refine ⟨_, _, rfl, rfl, .inr ⟨by omega, by omega⟩, _, rfl, _, _, rfl, rfl, (by show 0 < p; omega), ?_⟩
          have s' := mod_lt' (a := share * (r - (0 + (i : Int))) * invI p ((i : Int) + 1)) (m := p) (by omega)
          refine ⟨D2, diffsM p (x :: rest), _, _, _, y2, _, rfl, e23.trans e4, e4.k _ _ hD3 (by simp), dl, diffsM_rng (by omega) _, f'.1, f'.2, s'.1, s'.2, ?_⟩
          rw [ei, ← nw, if_neg (by omega), Int.zero_add]
        · rename_i c
          have c' : ¬ (0 : Int) + (i : Int) + 1 < (ns.length : Int) := c
          refine ⟨D2, diffsM p (x :: rest), _, _, _, y2, _, rfl, e23, hD3, dl, diffsM_rng (by omega) _, f'.1, f'.2, s0, s1, ?_⟩
          rw [ei, ← nw, if_pos (by omega)]
    · rintro σ H2 ⟨l, left, share, found, y1, y2, y3, rfl, e2, hl, ll, hle, f0, f1, s0, s1, hnw⟩
      have : ((ns.length : Nat) : Int).toNat = ns.length := by omega
      rw [this, Nat.sub_self] at hnw
      have hnw' : found = valueAt p r ns := hnw
      rw [hnw'] 
      exact ⟨_, rfl, q _ e2⟩

/-! ### terms, rows -/
inductive Sg | add | sub | mul | div | eq | lt
  deriving DecidableEq
def Sg.str : Sg → Str
  | .add => "+"
  | .sub => "-"
  | .mul => "*"
  | .div => "/"
  | .eq => "="
  | .lt => "<"
inductive Term | num (n : Int) | box (x : Str) | round | due | asked | coin (e : Term) | tru (e : Term) | op (s : Sg) (a b : Term)
def Term.depth : Term → Nat
  | .coin e => e.depth + 1
  | .tru e => e.depth + 1
  | .op _ a b => max a.depth b.depth + 1
  | _ => 1
def TermAt (H : Hp) : Term → V → Prop
  | .num n, v => ∃ p, v = .ref p ∧ H p = some (.tup [.str "num", .int n])
  | .box x, v => ∃ p, v = .ref p ∧ H p = some (.tup [.str "box", .str x])
  | .round, v => ∃ p, v = .ref p ∧ H p = some (.tup [.str "round"])
  | .due, v => ∃ p, v = .ref p ∧ H p = some (.tup [.str "due"])
  | .asked, v => ∃ p, v = .ref p ∧ H p = some (.tup [.str "asked"])
  | .coin e, v => ∃ p u, v = .ref p ∧ H p = some (.tup [.str "coin", u]) ∧ TermAt H e u
  | .tru e, v => ∃ p u, v = .ref p ∧ H p = some (.tup [.str "true", u]) ∧ TermAt H e u
  | .op s a b, v => ∃ p u1 u2, v = .ref p ∧ H p = some (.tup [.str "op", .str s.str, u1, u2]) ∧ TermAt H a u1 ∧ TermAt H b u2
theorem TermAt.step {l : List Addr} {H H' : Hp} (e : Stp l H H') : ∀ (t : Term) (v : V), TermAt H t v → TermAt H' t v
  | .num n, v, ⟨p, h1, h2⟩ => ⟨p, h1, e.t _ _ h2⟩
  | .box n, v, ⟨p, h1, h2⟩ => ⟨p, h1, e.t _ _ h2⟩
  | .round, v, ⟨p, h1, h2⟩ => ⟨p, h1, e.t _ _ h2⟩
  | .due, v, ⟨p, h1, h2⟩ => ⟨p, h1, e.t _ _ h2⟩
  | .asked, v, ⟨p, h1, h2⟩ => ⟨p, h1, e.t _ _ h2⟩
  | .coin a, v, ⟨p, va, h1, h2, h3⟩ => ⟨p, va, h1, e.t _ _ h2, TermAt.step e a va h3⟩
  | .tru a, v, ⟨p, va, h1, h2, h3⟩ => ⟨p, va, h1, e.t _ _ h2, TermAt.step e a va h3⟩
  | .op o a b, v, ⟨p, va, vb, h1, h2, h3, h4⟩ => ⟨p, va, vb, h1, e.t _ _ h2, TermAt.step e a va h3, TermAt.step e b vb h4⟩
inductive Row | set (x : Str) (e : Term) | say (e : Term) | iff (e : Term) (k : Int) | go (k : Int) | fin
def RowAt (H : Hp) : Row → V → Prop
  | .set x e, v => ∃ p u, v = .ref p ∧ H p = some (.tup [.str "set", .str x, u]) ∧ TermAt H e u
  | .say e, v => ∃ p u, v = .ref p ∧ H p = some (.tup [.str "say", u]) ∧ TermAt H e u
  | .iff e k, v => ∃ p u, v = .ref p ∧ H p = some (.tup [.str "if", u, .int k]) ∧ TermAt H e u
  | .go k, v => ∃ p, v = .ref p ∧ H p = some (.tup [.str "go", .int k])
  | .fin, v => ∃ p, v = .ref p ∧ H p = some (.tup [.str "end"])
theorem RowAt.step {l : List Addr} {H H' : Hp} (e : Stp l H H') : ∀ (r : Row) (v : V), RowAt H r v → RowAt H' r v
  | .set x a, v, ⟨p, va, h1, h2, h3⟩ => ⟨p, va, h1, e.t _ _ h2, h3.step e⟩
  | .say a, v, ⟨p, va, h1, h2, h3⟩ => ⟨p, va, h1, e.t _ _ h2, h3.step e⟩
  | .iff a k, v, ⟨p, va, h1, h2, h3⟩ => ⟨p, va, h1, e.t _ _ h2, h3.step e⟩
  | .go k, v, ⟨p, h1, h2⟩ => ⟨p, h1, e.t _ _ h2⟩
  | .fin, v, ⟨p, h1, h2⟩ => ⟨p, h1, e.t _ _ h2⟩
def Row.dep (n : Nat) : Row → Prop
  | .set _ e => e.depth ≤ n
  | .say e => e.depth ≤ n
  | .iff e _ => e.depth ≤ n
  | _ => True
/-! ### op_of -/
def opOf (p : Int) (s : Sg) (a b : Int) : Int := match s with
  | .add => (a + b) % p
  | .sub => (a - b) % p
  | .mul => a * b % p
  | .eq => if a = b then 1 else 0
  | .lt => if a < b then 1 else 0
  | .div => if b = 0 then 0 else a * invI p b % p
theorem opOf_rng {p : Int} (h : 2 ≤ p) (s : Sg) (a b : Int) : 0 ≤ opOf p s a b ∧ opOf p s a b < p := by
  cases s with
  | add => exact mod_lt' (by omega)
  | sub => exact mod_lt' (by omega)
  | mul => exact mod_lt' (by omega)
  | eq => unfold opOf; by_cases c : a = b <;> simp [c] <;> omega
  | lt => unfold opOf; by_cases c : a < b <;> simp [c] <;> omega
  | div =>
    unfold opOf
    by_cases c : b = 0
    · simp [c]; omega
    · simp [c]; exact mod_lt' (by omega)
theorem invI_rng {p : Int} (h : 1 ≤ p) (a : Int) : 0 ≤ invI p a ∧ invI p a < p := by
  unfold invI
  refine ⟨Int.natCast_nonneg _, ?_⟩
  cases e : (List.range p.toNat).find? fun (r : Nat) => decide ((a * (r : Int)) % p = 1) with
  | none => show ((0 : Nat) : Int) < _; omega
  | some z =>
    have := List.mem_range.mp (List.mem_of_find?_eq_some e)
    show ((z : Nat) : Int) < _
    omega
def spOp : Sp := fun vs H Q _ => ∃ (s : Sg) (a b p : Int), vs = [.str s.str, .int a, .int b, .int p] ∧ 0 ≤ a ∧ a < p ∧ 0 ≤ b ∧ b < p ∧ PrimeI p ∧ p ≤ 999999 ∧ ∀ H', Stp [] H H' → Q (.int (opOf p s a b)) H'
theorem ok_op_of (T : Tx K mg) : FnOk P w K mg base CX0 2 T.f_op_of T.d_op_of ["sign", "a", "b", "p"] spOp := by
  refine T.F_op_of.ok sc_op_of (fun vs H Q E h => ?_) (fun cdv A outer s H vs Q E hr h => ?_)
  · obtain ⟨s, a, b, p, rfl, _⟩ := h
    rfl
  obtain ⟨z, a, b, p, rfl, a0, a1, b0, b1, hp, pm, q⟩ := h
  refine ⟨_, (pss_cons (ps_if (pt_cmpR op_eq (pv 0) pe_str (nomark _)) (pss_one (ps_ret (pe_op op_mod (pe_op op_add (pv 1) (pv 2)) (pv 3)))) pss_nil)
      (pss_cons (ps_if (pt_cmpR op_eq (pv 0) pe_str (nomark _)) (pss_one (ps_ret (pe_op op_mod (pe_op op_sub (pv 1) (pv 2)) (pv 3)))) pss_nil)
      (pss_cons (ps_if (pt_cmpR op_eq (pv 0) pe_str (nomark _)) (pss_one (ps_ret (pe_op op_mod (pe_op op_mul (pv 1) (pv 2)) (pv 3)))) pss_nil)
      (pss_cons (ps_if (pt_cmpR op_eq (pv 0) pe_str (nomark _)) (pss_one (ps_ret (pe_callTy call_int1 (by rfl) T.z_int (by decide +kernel) (pa_cons (pe_cmpR op_eq (pv 1) (pv 2) (nomark _)) pa_nil)))) pss_nil)
      (pss_cons (ps_if (pt_cmpR op_eq (pv 0) pe_str (nomark _)) (pss_one (ps_ret (pe_callTy call_int1 (by rfl) T.z_int (by decide +kernel) (pa_cons (pe_cmpR op_lt (pv 1) (pv 2) (nomark _)) pa_nil)))) pss_nil)
      (pss_cons (ps_if (pt_cmpR op_eq (pv 2) pe_int (nomark _)) (pss_one (ps_ret pe_int)) pss_nil)
      (pss_one (ps_ret (pe_op op_mod (pe_op op_mul (pv 1) (pe_call (ok_inverse_of T) (hr.mono (by omega)) (by rfl) T.g_inverse_of T.F_inverse_of.kp T.b_inverse_of .nil pass0 (pa_cons (pv 2) (pa_cons (pv 3) pa_nil)))) (pv 3)))))))))), ?_⟩
  have p2 := hp.1
  have ne : ∀ {x y : Sg}, x ≠ y → decide (V.str x.str = V.str y.str) = false := fun {x y} h => sdec (by
    intro e
    cases x <;> cases y <;> first | exact h rfl | exact absurd e (by decide +kernel))
  cases z with
  | add =>
    refine ⟨_, rfl, rfl, _, rfl, ?_⟩
    rw [show decide (V.str Sg.add.str = V.str "+") = true from sdecT _]
    exact ⟨_, rfl, _, rfl, _, _, rfl, rfl, _, rfl, _, _, rfl, rfl, (by show 0 < p; omega), q _ .refl⟩
  | sub =>
    refine ⟨_, rfl, rfl, _, rfl, ?_⟩
    rw [show decide (V.str Sg.sub.str = V.str "+") = false from ne (y := .add) (by decide)]
    refine ⟨_, rfl, rfl, _, rfl, ?_⟩
    rw [show decide (V.str Sg.sub.str = V.str "-") = true from sdecT _]
    exact ⟨_, rfl, _, rfl, _, _, rfl, rfl, _, rfl, _, _, rfl, rfl, (by show 0 < p; omega), q _ .refl⟩
  | mul =>
    refine ⟨_, rfl, rfl, _, rfl, ?_⟩
    rw [show decide (V.str Sg.mul.str = V.str "+") = false from ne (y := .add) (by decide)]
    refine ⟨_, rfl, rfl, _, rfl, ?_⟩
    rw [show decide (V.str Sg.mul.str = V.str "-") = false from ne (y := .sub) (by decide)]
    refine ⟨_, rfl, rfl, _, rfl, ?_⟩
    rw [show decide (V.str Sg.mul.str = V.str "*") = true from sdecT _]
    exact ⟨_, rfl, _, rfl, _, _, rfl, rfl, .inl ⟨by omega, by omega⟩, _, rfl, _, _, rfl, rfl, (by show 0 < p; omega), q _ .refl⟩
  | eq =>
    refine ⟨_, rfl, rfl, _, rfl, ?_⟩
    rw [show decide (V.str Sg.eq.str = V.str "+") = false from ne (y := .add) (by decide)]
    refine ⟨_, rfl, rfl, _, rfl, ?_⟩
    rw [show decide (V.str Sg.eq.str = V.str "-") = false from ne (y := .sub) (by decide)]
    refine ⟨_, rfl, rfl, _, rfl, ?_⟩
    rw [show decide (V.str Sg.eq.str = V.str "*") = false from ne (y := .mul) (by decide)]
    refine ⟨_, rfl, rfl, _, rfl, ?_⟩
    rw [show decide (V.str Sg.eq.str = V.str "=") = true from sdecT _]
    refine ⟨_, rfl, _, rfl, rfl, .inr ⟨_, rfl, ?_⟩⟩
    have e : (if decide (V.int a = V.int b) = true then (1 : Int) else 0) = opOf p .eq a b := by
      unfold opOf
      by_cases c : a = b
      · rw [if_pos c, if_pos (decide_eq_true (by rw [c]))]
      · rw [if_neg c, if_neg (by rw [decide_eq_false (fun z => c (V.int.inj z))]; decide)]
    rw [e]; exact q _ .refl
  | lt =>
    refine ⟨_, rfl, rfl, _, rfl, ?_⟩
    rw [show decide (V.str Sg.lt.str = V.str "+") = false from ne (y := .add) (by decide)]
    refine ⟨_, rfl, rfl, _, rfl, ?_⟩
    rw [show decide (V.str Sg.lt.str = V.str "-") = false from ne (y := .sub) (by decide)]
    refine ⟨_, rfl, rfl, _, rfl, ?_⟩
    rw [show decide (V.str Sg.lt.str = V.str "*") = false from ne (y := .mul) (by decide)]
    refine ⟨_, rfl, rfl, _, rfl, ?_⟩
    rw [show decide (V.str Sg.lt.str = V.str "=") = false from ne (y := .eq) (by decide)]
    refine ⟨_, rfl, rfl, _, rfl, ?_⟩
    rw [show decide (V.str Sg.lt.str = V.str "<") = true from sdecT _]
    refine ⟨_, rfl, _, rfl, _, _, rfl, rfl, .inr ⟨_, rfl, ?_⟩⟩
    have e : (if decide (a < b) = true then (1 : Int) else 0) = opOf p .lt a b := by
      unfold opOf
      by_cases c : a < b
      · rw [if_pos c, if_pos (decide_eq_true c)]
      · rw [if_neg c, if_neg (by rw [decide_eq_false c]; decide)]
    rw [e]; exact q _ .refl
  | div =>
    refine ⟨_, rfl, rfl, _, rfl, ?_⟩
    rw [show decide (V.str Sg.div.str = V.str "+") = false from ne (y := .add) (by decide)]
    refine ⟨_, rfl, rfl, _, rfl, ?_⟩
    rw [show decide (V.str Sg.div.str = V.str "-") = false from ne (y := .sub) (by decide)]
    refine ⟨_, rfl, rfl, _, rfl, ?_⟩
    rw [show decide (V.str Sg.div.str = V.str "*") = false from ne (y := .mul) (by decide)]
    refine ⟨_, rfl, rfl, _, rfl, ?_⟩
    rw [show decide (V.str Sg.div.str = V.str "=") = false from ne (y := .eq) (by decide)]
    refine ⟨_, rfl, rfl, _, rfl, ?_⟩
    rw [show decide (V.str Sg.div.str = V.str "<") = false from ne (y := .lt) (by decide)]
    refine ⟨_, rfl, rfl, _, rfl, ?_⟩
    by_cases c : b = 0
    · rw [decide_eq_true (show V.int b = V.int 0 by rw [c])]
      have := q _ .refl
      unfold opOf at this
      rw [if_pos c] at this
      exact this
    · rw [decide_eq_false (show ¬ V.int b = V.int 0 from fun z => c (V.int.inj z))]
      have iv := invI_rng (p := p) (by omega) b
      refine ⟨_, rfl, _, rfl, _, rfl, b, p, rfl, by omega, b1, pm, hp, fun H' e' => ?_⟩
      refine ⟨_, _, rfl, rfl, .inl ⟨by omega, by omega⟩, _, rfl, _, _, rfl, rfl, (by show 0 < p; omega), ?_⟩
      have := q _ e'
      unfold opOf at this
      rw [if_neg c] at this
      exact this

/-! ### a round -/
theorem gameF_inj {a b a' b' d d' : Addr} {p p' : Int} (h : gameF a b p d = gameF a' b' p' d') : d = d' := by
  have := congrArg (fun l : List (Str × V) => l.getLast?) h
  unfold gameF at this
  exact V.ref.inj (Prod.mk.inj (Option.some.inj this)).2
structure RoundV where
  G : GameV
  number : Int
  many : Int
  held : Int
  s : Int
  tossed : List Int
structure RoundV.Ok (R : RoundV) : Prop where
  g : R.G.Ok
  sl : R.G.sw.length ≤ 10
  n0 : 0 ≤ R.number
  m0 : 0 ≤ R.many ∧ R.many ≤ 1000000
  h0 : 0 ≤ R.held ∧ R.held < R.G.p
  s0 : 0 ≤ R.s ∧ R.s < R.G.p
  t0 : ∀ c ∈ R.tossed, 0 ≤ c ∧ c < R.G.p
  tl : R.tossed.length ≤ 10
  tn : R.number ≠ 0 → R.tossed.length < R.G.sw.length
def roundF (g : Addr) (number many held s : Int) (t : Addr) (tr : V) : List (Str × V) :=
  [(("game" : Str), V.ref g), (("number" : Str), V.int number), (("many" : Str), V.int many), (("held" : Str), V.int held), (("mixed_by" : Str), V.int s), (("tossed" : Str), V.ref t), (("truth" : Str), tr)]
/-- N: what its own lists are (so that another list may be changed) -/
def RoundAt (CR CG : Addr) (N : Addr → Prop) (H : Hp) (r : Addr) (R : RoundV) : Prop := ∃ (dx g t : Addr) (tr : V), H r = some (.ins CR dx (roundF g R.number R.many R.held R.s t tr)) ∧ (GameAt CG H g R.G ∧ ∀ dx a b e, H g = some (.ins CG dx (gameF a b R.G.p e)) → N e) ∧ (H t = some (.lst (R.tossed.map V.int)) ∧ N t) ∧
  (tr = .non ∨ ∃ l, tr = .ref l ∧ N l ∧ H l = some (.lst ((trueRow R.G R.s R.tossed).map V.int)))
section
variable (g : Addr) (n m h s : Int) (t : Addr) (tr : V)
theorem roundF_game : (roundF g n m h s t tr).lookup ("game" : Str) = some (.ref g) := by unfold roundF; rfl
theorem roundF_number : (roundF g n m h s t tr).lookup ("number" : Str) = some (.int n) := by unfold roundF; rfl
theorem roundF_many : (roundF g n m h s t tr).lookup ("many" : Str) = some (.int m) := by unfold roundF; rfl
theorem roundF_held : (roundF g n m h s t tr).lookup ("held" : Str) = some (.int h) := by unfold roundF; rfl
theorem roundF_mixed : (roundF g n m h s t tr).lookup ("mixed_by" : Str) = some (.int s) := by unfold roundF; rfl
theorem roundF_tossed : (roundF g n m h s t tr).lookup ("tossed" : Str) = some (.ref t) := by unfold roundF; rfl
theorem roundF_truth : (roundF g n m h s t tr).lookup ("truth" : Str) = some tr := by unfold roundF; rfl
theorem roundF_no {x : Str} (h1 : ¬ x = "game") (h2 : ¬ x = "number") (h3 : ¬ x = "many") (h4 : ¬ x = "held") (h5 : ¬ x = "mixed_by") (h6 : ¬ x = "tossed") (h7 : ¬ x = "truth") : (roundF g n m h s t tr).lookup x = none := by
  unfold roundF
  simp [List.lookup, beq_false_of_ne h1, beq_false_of_ne h2, beq_false_of_ne h3, beq_false_of_ne h4, beq_false_of_ne h5, beq_false_of_ne h6, beq_false_of_ne h7]
theorem roundF_put (u : V) : putF "truth" u (roundF g n m h s t tr) = roundF g n m h s t u := by
  unfold roundF
  have k1 : ¬ (("game" : Str) = "truth") := by decide +kernel
  have k2 : ¬ (("number" : Str) = "truth") := by decide +kernel
  have k3 : ¬ (("many" : Str) = "truth") := by decide +kernel
  have k4 : ¬ (("held" : Str) = "truth") := by decide +kernel
  have k5 : ¬ (("mixed_by" : Str) = "truth") := by decide +kernel
  have k6 : ¬ (("tossed" : Str) = "truth") := by decide +kernel
  simp only [putF, if_neg k1, if_neg k2, if_neg k3, if_neg k4, if_neg k5, if_neg k6, if_pos]
theorem roundF_make : putF "truth" tr (putF "tossed" (V.ref t) (putF "mixed_by" (V.int s) (putF "held" (V.int h) (putF "many" (V.int m) (putF "number" (V.int n) (putF "game" (V.ref g) [])))))) = roundF g n m h s t tr := by
  unfold roundF
  have a1 : ¬ (("game" : Str) = "number") := by decide +kernel
  have a2 : ¬ (("game" : Str) = "many") := by decide +kernel
  have a3 : ¬ (("game" : Str) = "held") := by decide +kernel
  have a4 : ¬ (("game" : Str) = "mixed_by") := by decide +kernel
  have a5 : ¬ (("game" : Str) = "tossed") := by decide +kernel
  have a6 : ¬ (("game" : Str) = "truth") := by decide +kernel
  have b2 : ¬ (("number" : Str) = "many") := by decide +kernel
  have b3 : ¬ (("number" : Str) = "held") := by decide +kernel
  have b4 : ¬ (("number" : Str) = "mixed_by") := by decide +kernel
  have b5 : ¬ (("number" : Str) = "tossed") := by decide +kernel
  have b6 : ¬ (("number" : Str) = "truth") := by decide +kernel
  have c3 : ¬ (("many" : Str) = "held") := by decide +kernel
  have c4 : ¬ (("many" : Str) = "mixed_by") := by decide +kernel
  have c5 : ¬ (("many" : Str) = "tossed") := by decide +kernel
  have c6 : ¬ (("many" : Str) = "truth") := by decide +kernel
  have d4 : ¬ (("held" : Str) = "mixed_by") := by decide +kernel
  have d5 : ¬ (("held" : Str) = "tossed") := by decide +kernel
  have d6 : ¬ (("held" : Str) = "truth") := by decide +kernel
  have e5 : ¬ (("mixed_by" : Str) = "tossed") := by decide +kernel
  have e6 : ¬ (("mixed_by" : Str) = "truth") := by decide +kernel
  have f6 : ¬ (("tossed" : Str) = "truth") := by decide +kernel
  simp only [putF, if_neg a1, if_neg a2, if_neg a3, if_neg a4, if_neg a5, if_neg a6, if_neg b2, if_neg b3, if_neg b4, if_neg b5, if_neg b6, if_neg c3, if_neg c4, if_neg c5, if_neg c6, if_neg d4, if_neg d5, if_neg d6, if_neg e5, if_neg e6, if_neg f6]
end
theorem RoundAt.step0 {CR CG : Addr} {N : Addr → Prop} {H H' : Hp} {r : Addr} {R : RoundV} (e : Stp [] H H') (h : RoundAt CR CG N H r R) : RoundAt CR CG N H' r R := by
  obtain ⟨dx, g, t, tr, h1, ⟨h2, h2'⟩, ⟨h3, h3'⟩, h4⟩ := h
  refine ⟨dx, g, t, tr, e.k _ _ h1 (by simp), ⟨h2.step0 e, fun dx a b z hz => ?_⟩, ⟨e.k _ _ h3 (by simp), h3'⟩, ?_⟩
  · obtain ⟨gx, a1, a2, a3, us, g1, _⟩ := id h2
    rw [e.k _ _ g1 (by simp)] at hz
    rw [← gameF_inj (HO.ins.inj (Option.some.inj hz)).2.2]
    exact h2' _ _ _ _ g1
  · rcases h4 with h4 | ⟨l, h4, hn, h5⟩
    · exact .inl h4
    · exact .inr ⟨l, h4, hn, e.k _ _ h5 (by simp)⟩
/-- the round itself is written, or lists that are none of its own -/
theorem RoundAt.stepN {CR CG : Addr} {N : Addr → Prop} {l : List Addr} {H H' : Hp} {r : Addr} {R : RoundV} (e : Stp l H H') (h : RoundAt CR CG N H r R) (hl : ∀ x ∈ l, ¬ N x ∧ (∀ C dx fs, H x ≠ some (.ins C dx fs))) : RoundAt CR CG N H' r R := by
  obtain ⟨dx, g, t, tr, h1, ⟨h2, h2'⟩, ⟨h3, h3'⟩, h4⟩ := h
  obtain ⟨gx, a1, a2, a3, us, g1, g2, g3, g4, g5⟩ := id h2
  have ng : g ∉ l := fun z => (hl g z).2 _ _ _ g1
  have nr : r ∉ l := fun z => (hl r z).2 _ _ _ h1
  refine ⟨dx, g, t, tr, e.k _ _ h1 nr, ⟨h2.step e ng fun dx a b z hz => fun hm => (hl _ hm).1 (h2' _ _ _ _ hz), fun dx a b z hz => ?_⟩, ⟨e.k _ _ h3 (fun hm => (hl _ hm).1 h3'), h3'⟩, ?_⟩
  · rw [e.k _ _ g1 ng] at hz
    rw [← gameF_inj (HO.ins.inj (Option.some.inj hz)).2.2]
    exact h2' _ _ _ _ g1
  · rcases h4 with h4 | ⟨z, h4, hn, h5⟩
    · exact .inl h4
    · exact .inr ⟨z, h4, hn, e.k _ _ h5 (fun hm => (hl _ hm).1 hn)⟩
def RoundV.all (R : RoundV) : List Int := if 0 < R.number ∧ 1 < R.G.trees.length then R.s :: R.tossed else R.tossed
def coinAt (R : RoundV) (i : Int) : Int := if 1 ≤ i ∧ i ≤ R.all.length then R.all.getD (i - 1).toNat 0 else 0
def trueAt (R : RoundV) (i : Int) : Int := if R.number = 0 then (if i < (R.G.trees.length : Int) then (countsOf R.G).getD i.toNat 0 % R.G.p else 0) else valueAt R.G.p i (trueRow R.G R.s R.tossed)
theorem all_rng {R : RoundV} (ok : R.Ok) : ∀ c ∈ R.all, 0 ≤ c ∧ c < R.G.p := by
  intro c hc
  unfold RoundV.all at hc
  split at hc
  · rcases List.mem_cons.mp hc with e | e
    · rw [e]; exact ok.s0
    · exact ok.t0 c e
  · exact ok.t0 c hc
theorem all_len {R : RoundV} (ok : R.Ok) : R.all.length ≤ 11 := by
  have := ok.tl
  unfold RoundV.all
  split
  · show R.tossed.length + 1 ≤ 11; omega
  · omega
theorem coinAt_rng {R : RoundV} (ok : R.Ok) (i : Int) : 0 ≤ coinAt R i ∧ coinAt R i < R.G.p := by
  unfold coinAt
  have := ok.g.p3
  split
  · rename_i c
    have hi : (i - 1).toNat < R.all.length := by omega
    have e := getD_at hi
    exact all_rng ok _ (List.mem_of_getElem? e)
  · omega
theorem trueAt_rng {R : RoundV} (ok : R.Ok) (i : Int) : 0 ≤ trueAt R i ∧ trueAt R i < R.G.p := by
  unfold trueAt
  have := ok.g.p3
  split
  · split
    · exact mod_lt' (by omega)
    · omega
  · exact valueAt_rng (by omega) _ _
def spAllT (T : Tx K mg) : Sp := fun vs H Q _ => ∃ (r : Addr) (R : RoundV) (N : Addr → Prop), vs = [.ref r] ∧ RoundAt T.C_Round T.C_Game N H r R ∧ R.Ok ∧ ∀ p H', Stp [] H H' → H' p = some (.lst (R.all.map V.int)) → Q (.ref p) H'
theorem ok_Round_all_tossed (T : Tx K mg) : FnOk P w K mg base CX0 1 T.f_Round_all_tossed T.d_Round_all_tossed ["self"] (spAllT T) := by
  refine T.F_Round_all_tossed.ok sc_Round_all_tossed (fun vs H Q E h => ?_) (fun cdv A outer s H vs Q E hr h => ?_)
  · obtain ⟨r, R, N, rfl, _⟩ := h
    rfl
  obtain ⟨r, R, N, rfl, hR, ok, q⟩ := h
  refine ⟨_, (pss_cons (ps_if (PW.pt (pw_and (pt_cmpR op_gt (k_fld (K := K) (pv 0) (by rfl)) pe_int (nomark _)) (pw_and1 (pt_cmpR op_gt (pe_callB (k_len (K := K)) (by rfl) T.z_len (by decide +kernel) (pa_cons (k_fld (K := K) (k_fld (K := K) (pv 0) (by rfl)) (by rfl)) pa_nil)) pe_int (nomark _))))) (pss_one (ps_ret (pe_op op_cat (pe_lst (pa_cons (k_fld (K := K) (pv 0) (by rfl)) pa_nil)) (k_fld (K := K) (pv 0) (by rfl))))) pss_nil)
      (pss_one (ps_ret (k_fld (K := K) (pv 0) (by rfl))))), ?_⟩
  obtain ⟨dx, g, t, tr, h1, ⟨⟨gx, a1, a2, a3, us, g1, g2, g3, g4, g5⟩, _⟩, ⟨h3, _⟩, h4⟩ := hR
  have ul : us.length = R.G.trees.length := g4.len
  have fin : Q (.ref t) H → (¬ (0 < R.number ∧ 1 < R.G.trees.length)) → Q (.ref t) H := fun h _ => h
  have other : ¬ (0 < R.number ∧ 1 < R.G.trees.length) → Q (.ref t) H := fun c => q t H .refl (by unfold RoundV.all; rw [if_neg c]; exact h3)
  refine ⟨_, rfl, r, _, dx, _, _, rfl, h1, T.cl_Round, T.n_Round_number, roundF_number _ _ _ _ _ _ _, _, _, rfl, rfl, _, rfl, ?_⟩
  by_cases c1 : 0 < R.number
  · rw [decide_eq_true c1]
    refine ⟨_, rfl, r, _, dx, _, _, rfl, h1, T.cl_Round, T.n_Round_game, roundF_game _ _ _ _ _ _ _, g, _, gx, _, _, rfl, g1, T.cl_Game, T.n_Game_trees, gameF_trees _ _ _ _, a2, us, rfl, .inr (SqT.of g3), _, _, rfl, rfl, _, rfl, ?_⟩
    rw [ul]
    by_cases c2 : 1 < R.G.trees.length
    · rw [decide_eq_true (show (1 : Int) < (R.G.trees.length : Int) by omega)]
      refine ⟨_, rfl, r, _, dx, _, _, rfl, h1, T.cl_Round, T.n_Round_mixed_by, roundF_mixed _ _ _ _ _ _ _, Nat.le_of_lt (small1000 (by show 1 ≤ 1000; decide)), fun b hb => ?_⟩
      have e1 := Stp.new (l := []) (o := .lst [.int R.s]) hb
      refine ⟨_, rfl, r, _, dx, _, _, rfl, e1.k _ _ h1 (by simp), T.cl_Round, T.n_Round_tossed, roundF_tossed _ _ _ _ _ _ _, b, t, _, _, rfl, rfl, upd_same, e1.k _ _ h3 (by simp), ?_, fun p hp => ?_⟩
      · rw [List.length_map]
        have := ok.tl
        exact Nat.le_of_lt (small1000 (by show 1 + _ ≤ 1000; omega))
      · refine q p _ (e1.trans (Stp.new hp)) ?_
        rw [upd_same]
        unfold RoundV.all
        rw [if_pos ⟨c1, c2⟩]
        rfl
    · rw [decide_eq_false (show ¬ (1 : Int) < (R.G.trees.length : Int) by omega)]
      exact ⟨_, rfl, r, _, dx, _, _, rfl, h1, T.cl_Round, T.n_Round_tossed, roundF_tossed _ _ _ _ _ _ _, other fun z => c2 z.2⟩
  · rw [decide_eq_false c1]
    exact ⟨_, rfl, r, _, dx, _, _, rfl, h1, T.cl_Round, T.n_Round_tossed, roundF_tossed _ _ _ _ _ _ _, other fun z => c1 z.1⟩
def spCoinAt (T : Tx K mg) : Sp := fun vs H Q _ => ∃ (r : Addr) (R : RoundV) (N : Addr → Prop) (i : Int), vs = [.ref r, .int i] ∧ RoundAt T.C_Round T.C_Game N H r R ∧ R.Ok ∧ ∀ H', Stp [] H H' → Q (.int (coinAt R i)) H'
theorem ok_Round_coin_at (T : Tx K mg) : FnOk P w K mg base CX0 2 T.f_Round_coin_at T.d_Round_coin_at ["self", "at"] (spCoinAt T) := by
  refine T.F_Round_coin_at.ok sc_Round_coin_at (fun vs H Q E h => ?_) (fun cdv A outer s H vs Q E hr h => ?_)
  · obtain ⟨r, R, N, i, rfl, _⟩ := h
    rfl
  obtain ⟨r, R, N, i, rfl, hR, ok, q⟩ := h
  refine ⟨_, (pss_cons (ps_set (i := 2) sc_Round_coin_at.nd rfl (.inl rfl) (pe_meth0 (pv 0) T.cl_Round T.m_Round_all_tossed (ok_Round_all_tossed T) (hr.mono (by omega)) T.b_Round_all_tossed .nil pass0))
      (pss_cons (ps_if (pt_chain op_le op_le pe_int (pv 1) (pe_callB (k_len (K := K)) (by rfl) T.z_len (by decide +kernel) (pa_cons (pv 2) pa_nil))) (pss_one (ps_ret (pe_ix (k_ix_list (K := K)) (pv 2) (pe_op op_sub (pv 1) pe_int) (fun _ _ => rfl)))) pss_nil)
      (pss_one (ps_ret pe_int)))), ?_⟩
  obtain ⟨dx, g, t, tr, h1, ⟨h2, h2'⟩, ⟨h3, h3'⟩, h4⟩ := id hR
  refine ⟨_, rfl, r, dx, _, rfl, h1, roundF_no _ _ _ _ _ _ _ (by decide +kernel) (by decide +kernel) (by decide +kernel) (by decide +kernel) (by decide +kernel) (by decide +kernel) (by decide +kernel), r, R, N, rfl, hR, ok, fun p H1 e1 hp => ?_⟩
  have q1 := q _ e1
  unfold coinAt at q1
  refine ⟨_, rfl, _, _, rfl, rfl, _, rfl, ?_⟩
  by_cases c1 : 1 ≤ i
  · rw [decide_eq_true c1]
    refine ⟨_, rfl, p, _, rfl, .inl (SqL.of hp), _, _, rfl, rfl, _, rfl, ?_⟩
    rw [List.length_map]
    by_cases c2 : i ≤ R.all.length
    · rw [decide_eq_true c2]
      rw [if_pos ⟨c1, c2⟩] at q1
      have hi : (i - 1).toNat < R.all.length := by omega
      refine ⟨_, rfl, _, rfl, _, _, rfl, rfl, p, _, _, _, rfl, rfl, SqL.of hp, at_of (j := (i - 1).toNat) (by omega) (by rw [List.getElem?_map, getD_at hi]; rfl), q1⟩
    · rw [decide_eq_false c2]
      rw [if_neg (fun z => c2 z.2)] at q1
      exact q1
  · rw [decide_eq_false c1]
    rw [if_neg (fun z => c1 z.1)] at q1
    exact ⟨_, rfl, q1⟩
def spTrueAt (T : Tx K mg) : Sp := fun vs H Q _ => ∃ (r : Addr) (R : RoundV) (N : Addr → Prop) (i : Int), vs = [.ref r, .int i] ∧ RoundAt T.C_Round T.C_Game N H r R ∧ R.Ok ∧ 0 ≤ i ∧ i < R.G.p ∧ (∀ z, H z = none → N z) ∧ ∀ H', Stp [r] H H' → RoundAt T.C_Round T.C_Game N H' r R → Q (.int (trueAt R i)) H'
theorem trueRow_rng {G : GameV} (ok : G.Ok) {s : Int} {coins : List Int} : ∀ x ∈ trueRow G s coins, 0 ≤ x ∧ x < G.p := fun x hx => by
  obtain ⟨n, _, rfl⟩ := List.mem_map.mp hx
  have := ok.p3
  exact mod_lt' (by omega)
theorem ok_Round_true_at (T : Tx K mg) : FnOk P w K mg base CX0 30 T.f_Round_true_at T.d_Round_true_at ["self", "at"] (spTrueAt T) := by
  refine T.F_Round_true_at.ok sc_Round_true_at (fun vs H Q E h => ?_) (fun cdv A outer s H vs Q E hr h => ?_)
  · obtain ⟨r, R, N, i, rfl, _⟩ := h
    rfl
  obtain ⟨r, R, N, i, rfl, hR, ok, i0, i1, hN, q⟩ := h
  refine ⟨_, (pss_cons (ps_if (pt_cmpR op_eq (k_fld (K := K) (pv 0) (by rfl)) pe_int (nomark _)) (pss_cons (ps_set (i := 2) sc_Round_true_at.nd rfl (.inl rfl) (pe_call (ok_counts_of T) (hr.mono (by omega)) (by rfl) T.g_counts_of T.F_counts_of.kp T.b_counts_of .nil pass0 (pa_cons (k_fld (K := K) (pv 0) (by rfl)) pa_nil)))
      (pss_cons (ps_if (pt_cmpR op_lt (pv 1) (pe_callB (k_len (K := K)) (by rfl) T.z_len (by decide +kernel) (pa_cons (pv 2) pa_nil)) (nomark _)) (pss_one (ps_ret (pe_op op_mod (pe_ix (k_ix_list (K := K)) (pv 2) (pv 1) (fun _ _ => rfl)) (k_fld (K := K) (k_fld (K := K) (pv 0) (by rfl)) (by rfl))))) pss_nil)
      (pss_one (ps_ret pe_int)))) pss_nil)
      (pss_cons (ps_if (pt_cmpR op_isN (k_fld (K := K) (pv 0) (by rfl)) pe_non (nomark _)) (pss_one (ks_fld (K := K) (pv 0) (pe_call (ok_true_row T) (hr.mono (by omega)) (by rfl) T.g_true_row T.F_true_row.kp T.b_true_row .nil pass0 (pa_cons (k_fld (K := K) (pv 0) (by rfl)) (pa_cons (k_fld (K := K) (pv 0) (by rfl)) (pa_cons (k_fld (K := K) (pv 0) (by rfl)) pa_nil)))) (by rfl))) pss_nil)
      (pss_one (ps_ret (pe_call (ok_value_at T) (hr.mono (by omega)) (by rfl) T.g_value_at T.F_value_at.kp T.b_value_at .nil pass0 (pa_cons (k_fld (K := K) (pv 0) (by rfl)) (pa_cons (pv 1) (pa_cons (k_fld (K := K) (k_fld (K := K) (pv 0) (by rfl)) (by rfl)) pa_nil)))))))), ?_⟩
  obtain ⟨dx, g, t, tr, h1, ⟨h2, h2'⟩, ⟨h3, h3'⟩, h4⟩ := id hR
  obtain ⟨gx, a1, a2, a3, us, g1, g2, g3, g4, g5⟩ := id h2
  have p3 := ok.g.p3
  have pm := ok.g.pm
  refine ⟨_, rfl, r, _, dx, _, _, rfl, h1, T.cl_Round, T.n_Round_number, roundF_number _ _ _ _ _ _ _, rfl, _, rfl, ?_⟩
  by_cases c : R.number = 0
  · rw [decide_eq_true (show V.int R.number = V.int 0 by rw [c])]
    have q1 : ∀ H', Stp [] H H' → Q (.int (trueAt R i)) H' := fun H' e => q _ e.nil (hR.step0 e)
    unfold trueAt at q1
    rw [if_pos c] at q1
    refine ⟨_, rfl, r, _, dx, _, _, rfl, h1, T.cl_Round, T.n_Round_game, roundF_game _ _ _ _ _ _ _, g, R.G, rfl, h2, ok.g, ok.sl, fun p H1 hp e1 hp1 => ?_⟩
    have cl : (countsOf R.G).length = R.G.trees.length := List.length_map _
    refine ⟨_, rfl, _, rfl, p, _, rfl, .inl (SqL.of hp1), _, _, rfl, rfl, _, rfl, ?_⟩
    rw [List.length_map, cl]
    by_cases c2 : i < (R.G.trees.length : Int)
    · rw [decide_eq_true c2]
      rw [if_pos c2] at q1
      refine ⟨_, rfl, _, rfl, p, _, _, _, rfl, rfl, SqL.of hp1, at_of (j := i.toNat) (by omega) (by rw [List.getElem?_map, getD_at (by omega)]; rfl), ?_⟩
      refine ⟨_, rfl, r, _, dx, _, _, rfl, e1.k _ _ h1 (by simp), T.cl_Round, T.n_Round_game, roundF_game _ _ _ _ _ _ _, g, _, gx, _, _, rfl, e1.k _ _ g1 (by simp), T.cl_Game, T.n_Game_field, gameF_field _ _ _ _, _, _, rfl, rfl, (by show 0 < R.G.p; omega), q1 _ e1⟩
    · rw [decide_eq_false c2]
      rw [if_neg c2] at q1
      exact q1 _ e1
  · rw [decide_eq_false (show ¬ V.int R.number = V.int 0 from fun z => c (V.int.inj z))]
    have tn := ok.tn c
    have q1 := q
    unfold trueAt at q1
    rw [if_neg c] at q1
    have tl := ok.tl
    obtain ⟨d, hd⟩ : ∃ d, R.G.deg[R.tossed.length]? = some d := ⟨_, List.getElem?_eq_getElem (by rw [ok.g.dl]; exact tn)⟩
    have dr := deg_rng ok.g hd
    have gd : R.G.deg.getD R.tossed.length 0 = d := by rw [List.getD_eq_getElem?_getD, hd]; rfl
    have rl : (trueRow R.G R.s R.tossed).length = (d + 1).toNat := by unfold trueRow; rw [List.length_map, List.length_range, gd]
    have dp := ok.g.dp d (List.mem_of_getElem? hd)
    -- behind the look at truth: its row stands in a list
    have last : ∀ (l : Addr) (H1 : Hp), Stp [r] H H1 → H1 r = some (.ins T.C_Round dx (roundF g R.number R.many R.held R.s t (.ref l))) → GameAt T.C_Game H1 g R.G → H1 t = some (.lst (R.tossed.map V.int)) → N l → H1 l = some (.lst ((trueRow R.G R.s R.tossed).map V.int)) →
        (tRet (tCall (spValue K) [] E0 (tCons (tFld K (tVar 0) "truth") (tCons (tVar 1) (tCons (tFld K (tFld K (tVar 0) "game") "field") tNil))))) { nx := fun _ H' => Q .non H', rt := Q } [some (.ref r), some (.int i), none] H1 := fun l H1 e1 hr1 hg1 ht1 nl hl1 => by
      obtain ⟨gx', a1', a2', a3', us', gg1, _⟩ := id hg1
      refine ⟨_, rfl, r, _, dx, _, _, rfl, hr1, T.cl_Round, T.n_Round_truth, roundF_truth _ _ _ _ _ _ _, _, rfl, _, rfl, r, _, dx, _, _, rfl, hr1, T.cl_Round, T.n_Round_game, roundF_game _ _ _ _ _ _ _, g, _, gx', _, _, rfl, gg1, T.cl_Game, T.n_Game_field, gameF_field _ _ _ _, ?_⟩
      refine ⟨l, trueRow R.G R.s R.tossed, i, R.G.p, rfl, .inl (SqL.of hl1), by rw [rl]; omega, by rw [rl]; omega, by rw [rl]; omega, ok.g.pr, pm, i0, i1, fun x hx => ?_, fun H2 e2 => ?_⟩
      · have := trueRow_rng ok.g x hx; omega
      · refine q1 H2 (e1.trans e2.nil) (RoundAt.step0 e2 ⟨dx, g, t, _, hr1, ⟨hg1, fun dx a b z hz => ?_⟩, ⟨ht1, h3'⟩, .inr ⟨l, rfl, nl, hl1⟩⟩)
        have : g ≠ r := fun y => by
          rw [y, h1] at g1
          have := congrArg List.length (HO.ins.inj (Option.some.inj g1)).2.2
          cases this
        rw [e1.k _ _ g1 (by simpa using this)] at hz
        rw [← gameF_inj (HO.ins.inj (Option.some.inj hz)).2.2]
        exact h2' _ _ _ _ g1
    refine ⟨_, rfl, r, _, dx, _, _, rfl, h1, T.cl_Round, T.n_Round_truth, roundF_truth _ _ _ _ _ _ _, rfl, _, rfl, ?_⟩
    rcases h4 with h4 | ⟨l, h4, nl, h5⟩
    · subst h4
      refine ⟨_, rfl, r, _, dx, _, _, rfl, h1, T.cl_Round, T.n_Round_game, roundF_game _ _ _ _ _ _ _, _, rfl, r, _, dx, _, _, rfl, h1, T.cl_Round, T.n_Round_mixed_by, roundF_mixed _ _ _ _ _ _ _, _, rfl, r, _, dx, _, _, rfl, h1, T.cl_Round, T.n_Round_tossed, roundF_tossed _ _ _ _ _ _ _, ?_⟩
      have s0 := ok.s0
      refine ⟨g, t, R.G, R.s, R.tossed, rfl, h2, ok.g, h3, tn, ok.sl, s0.1, by omega, fun l H1 hl e1 hl1 => ?_⟩
      have hr1 := e1.k _ _ h1 (by simp)
      refine ⟨_, rfl, r, _, dx, _, rfl, hr1, T.cl_Round, T.n_Round_truth, (by unfold roundF; show 7 < 1000; decide), ?_⟩
      rw [roundF_put]
      have nlr : l ≠ r := fun z => by rw [z, h1] at hl; cases hl
      have er : Stp [r] H1 (upd H1 r (.ins T.C_Round dx (roundF g R.number R.many R.held R.s t (.ref l)))) := Stp.wrI hr1 (by simp)
      have ntr : t ≠ r := fun z => by rw [z, h1] at h3; cases h3
      have ngr : g ≠ r := fun z => by
        rw [z, h1] at g1
        have := (HO.ins.inj (Option.some.inj g1)).2.2
        unfold roundF gameF at this
        have := congrArg List.length this
        cases this
      refine last l _ (e1.nil.trans er) upd_same ((h2.step0 e1).step er (by simpa using ngr) fun dx' a b d' hd' => ?_) (by rw [upd_ne ntr]; exact e1.k _ _ h3 (by simp)) (hN l hl) (by rw [upd_ne nlr]; exact hl1)
      have hgg := e1.k _ _ g1 (by simp)
      rw [hgg] at hd'
      have e := (HO.ins.inj (Option.some.inj hd')).2.2
      have ed : a3 = d' := by
        have := congrArg (fun l : List (Str × V) => l.getLast?) e
        unfold gameF at this
        exact V.ref.inj (Prod.mk.inj (Option.some.inj this)).2
      rw [← ed]
      have : a3 ≠ r := fun z => by rw [z, h1] at g5; cases g5
      simpa using this
    · subst h4
      exact last l H .refl h1 h2 h3 nl h5

/-! ### Round(..), a term's worth -/
def spRound (T : Tx K mg) : Sp := fun vs H Q _ => ∃ (r dx g a : Addr) (R : RoundV) (N : Addr → Prop), vs = [.ref r, .ref g, .int R.number, .int R.many, .int R.held, .int R.s, .ref a] ∧ H r = some (.ins T.C_Round dx []) ∧ GameAt T.C_Game H g R.G ∧ H a = some (.lst (R.tossed.map V.int)) ∧ R.tossed.length ≤ 1000 ∧ (∀ z, H z = none → N z) ∧ (∀ dx a b e, H g = some (.ins T.C_Game dx (gameF a b R.G.p e)) → N e) ∧
  ∀ H', Stp [r] H H' → RoundAt T.C_Round T.C_Game N H' r R → Q .non H'
theorem GameAt.deg_of {C : Addr} {H : Hp} {g dx a b d : Addr} {G : GameV} (h : GameAt C H g G) (e : H g = some (.ins C dx (gameF a b G.p d))) : H d = some (.lst (G.deg.map V.int)) ∧ H g = some (.ins C dx (gameF a b G.p d)) := by
  obtain ⟨dx', a1, a2, a3, us, h1, h2, h3, h4, h5⟩ := h
  refine ⟨?_, e⟩
  rw [h1] at e
  have e := (HO.ins.inj (Option.some.inj e)).2.2
  have ed : a3 = d := by
    have := congrArg (fun l : List (Str × V) => l.getLast?) e
    unfold gameF at this
    exact V.ref.inj (Prod.mk.inj (Option.some.inj this)).2
  rw [← ed]; exact h5
/-- a game stands where instances alone are written, itself not -/
theorem GameAt.stepI {C : Addr} {l : List Addr} {H H' : Hp} {g : Addr} {G : GameV} (e : Stp l H H') (h : GameAt C H g G) (hg : g ∉ l) (hd : ∀ x ∈ l, ∀ ys, H x ≠ some (.lst ys)) : GameAt C H' g G :=
  h.step e hg fun dx a b d hh => fun hm => hd d hm _ (h.deg_of hh).1
theorem ok_Round___init__ (T : Tx K mg) : FnOk P w K mg base CX0 1 T.f_Round___init__ T.d_Round___init__ ["self", "game", "number", "many", "held", "s", "tossed"] (spRound T) := by
  refine T.F_Round___init__.ok sc_Round___init__ (fun vs H Q E h => ?_) (fun cdv A outer s H vs Q E hr h => ?_)
  · obtain ⟨r, dx, g, a, R, N, rfl, _⟩ := h
    rfl
  obtain ⟨r, dx, g, a, R, N, rfl, hr0, hG, hS, hl, hN, hNg, q⟩ := h
  refine ⟨_, (pss_cons (ks_fld (K := K) (pv 0) (pv 1) (by rfl))
      (pss_cons (ks_fld (K := K) (pv 0) (pv 2) (by rfl))
      (pss_cons (ks_fld (K := K) (pv 0) (pv 3) (by rfl))
      (pss_cons (ks_fld (K := K) (pv 0) (pv 4) (by rfl))
      (pss_cons (ks_fld (K := K) (pv 0) (pv 5) (by rfl))
      (pss_cons (ks_fld (K := K) (pv 0) (pe_callTy (k_list_of (K := K)) (by rfl) T.z_list (by decide +kernel) (pa_cons (pv 6) pa_nil)) (by rfl))
      (pss_one (ks_fld (K := K) (pv 0) pe_non (by rfl))))))))), ?_⟩
  have lt : ∀ {n : Nat} {v : V} {x : Str} {fs : List (Str × V)}, fs.length < n → n < 999 → (putF x v fs).length < n + 1 := fun h _ => Nat.lt_succ_of_le (Nat.le_trans (length_putF _ _ _) h)
  refine ⟨_, rfl, _, rfl, r, _, dx, _, rfl, hr0, T.cl_Round, T.n_Round_game, (by show 0 < 1000; decide), ?_⟩
  refine ⟨_, rfl, _, rfl, r, _, dx, _, rfl, upd_same, T.cl_Round, T.n_Round_number, (by show 1 < 1000; decide), ?_⟩
  rw [upd_upd]
  refine ⟨_, rfl, _, rfl, r, _, dx, _, rfl, upd_same, T.cl_Round, T.n_Round_many, Nat.lt_of_le_of_lt (length_putF _ _ _) (by show 1 + 1 < 1000; decide), ?_⟩
  rw [upd_upd]
  refine ⟨_, rfl, _, rfl, r, _, dx, _, rfl, upd_same, T.cl_Round, T.n_Round_held, Nat.lt_of_le_of_lt (length_putF _ _ _) (Nat.lt_of_le_of_lt (Nat.add_le_add_right (length_putF _ _ _) 1) (by show 1 + 1 + 1 < 1000; decide)), ?_⟩
  rw [upd_upd]
  refine ⟨_, rfl, _, rfl, r, _, dx, _, rfl, upd_same, T.cl_Round, T.n_Round_mixed_by, Nat.lt_of_le_of_lt (length_putF _ _ _) (Nat.lt_of_le_of_lt (Nat.add_le_add_right (length_putF _ _ _) 1) (Nat.lt_of_le_of_lt (Nat.add_le_add_right (Nat.add_le_add_right (length_putF _ _ _) 1) 1) (by show 1 + 1 + 1 + 1 < 1000; decide))), ?_⟩
  rw [upd_upd]
  have nar : a ≠ r := fun z => by rw [z, hr0] at hS; cases hS
  have l5 : (putF "mixed_by" (V.int R.s) (putF "held" (V.int R.held) (putF "many" (V.int R.many) (putF "number" (V.int R.number) (putF "game" (V.ref g) []))))).length ≤ 5 :=
    Nat.le_trans (length_putF _ _ _) (Nat.succ_le_succ (Nat.le_trans (length_putF _ _ _) (Nat.succ_le_succ (Nat.le_trans (length_putF _ _ _) (Nat.succ_le_succ (Nat.le_trans (length_putF _ _ _) (Nat.succ_le_succ (length_putF _ _ _))))))))
  -- tossed = list(tossed)
  refine ⟨_, rfl, a, _, rfl, .inl (SqL.of (by rw [upd_ne nar]; exact hS)), fun t ht => ?_⟩
  have ntr : t ≠ r := fun z => by rw [z, upd_same] at ht; cases ht
  have nta : t ≠ a := fun z => by rw [z, upd_ne nar, hS] at ht; cases ht
  refine ⟨_, rfl, r, _, dx, _, rfl, by rw [upd_ne ntr.symm]; exact upd_same, T.cl_Round, T.n_Round_tossed, Nat.lt_of_le_of_lt l5 (by decide), ?_⟩
  refine ⟨_, rfl, r, _, dx, _, rfl, upd_same, T.cl_Round, T.n_Round_truth, Nat.lt_of_le_of_lt (Nat.le_trans (length_putF _ _ _) (Nat.succ_le_succ l5)) (by decide), ?_⟩
  rw [upd_upd, roundF_make]
  have htH : H t = none := by rw [upd_ne ntr] at ht; exact ht
  have e1 : Stp [r] H (upd H r (.ins T.C_Round dx (putF "mixed_by" (V.int R.s) (putF "held" (V.int R.held) (putF "many" (V.int R.many) (putF "number" (V.int R.number) (putF "game" (V.ref g) []))))))) := Stp.wrI hr0 (by simp)
  have e2 := e1.trans (Stp.new (l := [r]) (o := .lst (R.tossed.map V.int)) ht)
  have e3 : Stp [r] (upd (upd H r (.ins T.C_Round dx (putF "mixed_by" (V.int R.s) (putF "held" (V.int R.held) (putF "many" (V.int R.many) (putF "number" (V.int R.number) (putF "game" (V.ref g) []))))))) t (.lst (R.tossed.map V.int))) (upd (upd (upd H r (.ins T.C_Round dx (putF "mixed_by" (V.int R.s) (putF "held" (V.int R.held) (putF "many" (V.int R.many) (putF "number" (V.int R.number) (putF "game" (V.ref g) []))))))) t (.lst (R.tossed.map V.int))) r (.ins T.C_Round dx (roundF g R.number R.many R.held R.s t .non))) :=
    Stp.wrI (by rw [upd_ne ntr.symm]; exact upd_same) (by simp)
  have ngr : g ≠ r := fun z => by
    obtain ⟨gx, a1, a2, a3, us, g1, _⟩ := hG
    rw [z, hr0] at g1
    have := congrArg List.length (HO.ins.inj (Option.some.inj g1)).2.2
    cases this
  refine q _ (e2.trans e3) ⟨dx, g, t, .non, upd_same, ⟨hG.stepI (e2.trans e3) (by simpa using ngr) (fun x hx ys h => ?_), fun dx a b z hz => ?_⟩, ⟨?_, hN t htH⟩, .inl rfl⟩
  · have : x = r := by simpa using hx
    rw [this, hr0] at h; cases h
  · obtain ⟨gx, a1, a2, a3, us, g1, _⟩ := id hG
    rw [(e2.trans e3).k _ _ g1 (by simpa using ngr)] at hz
    rw [← gameF_inj (HO.ins.inj (Option.some.inj hz)).2.2]
    exact hNg _ _ _ _ g1
  · rw [upd_ne ntr]; exact upd_same
def termW (R : RoundV) (B : Str → Int) : Term → Int
  | .num n => n % R.G.p
  | .box x => B x
  | .round => R.number % R.G.p
  | .due => R.held
  | .asked => R.many % R.G.p
  | .coin e => coinAt R (termW R B e)
  | .tru e => trueAt R (termW R B e)
  | .op s a b => opOf R.G.p s (termW R B a) (termW R B b)
theorem termW_rng {R : RoundV} (ok : R.Ok) {B : Str → Int} (hB : ∀ x, 0 ≤ B x ∧ B x < R.G.p) (t : Term) : 0 ≤ termW R B t ∧ termW R B t < R.G.p := by
  have := ok.g.p3
  cases t with
  | num n => exact mod_lt' (by omega)
  | box x => exact hB x
  | round => exact mod_lt' (by omega)
  | due => exact ok.h0
  | asked => exact mod_lt' (by omega)
  | coin e => exact coinAt_rng ok _
  | tru e => exact trueAt_rng ok _
  | op s a b => exact opOf_rng (by omega) s _ _
def BoxAt (H : Hp) (d : Addr) (B : Str → Int) (n : Nat) : Prop := ∃ kvs : List (Key × V), H d = some (.dK kvs) ∧ (∀ x : Str, (valV kvs (Sum.inr x : Key)).getD (.int 0) = .int (B x)) ∧ kvs.length ≤ n
theorem BoxAt.step {l : List Addr} {H H' : Hp} {d : Addr} {B : Str → Int} {n : Nat} (e : Stp l H H') (h : BoxAt H d B n) (hd : d ∉ l) : BoxAt H' d B n := let ⟨kvs, h1, h2, h3⟩ := h; ⟨kvs, e.k _ _ h1 hd, h2, h3⟩
theorem Term.depth_pos (t : Term) : 1 ≤ t.depth := by cases t <;> simp [Term.depth]
def spTerm (T : Tx K mg) (n : Nat) : Sp := fun vs H Q _ => ∃ (r d : Addr) (R : RoundV) (N : Addr → Prop) (t : Term) (v : V) (B : Str → Int) (k : Nat), vs = [.ref r, v, .ref d] ∧ RoundAt T.C_Round T.C_Game N H r R ∧ R.Ok ∧ TermAt H t v ∧ t.depth ≤ n ∧ BoxAt H d B k ∧ (∀ x, 0 ≤ B x ∧ B x < R.G.p) ∧ (∀ z, H z = none → N z) ∧
  ∀ H', Stp [r] H H' → RoundAt T.C_Round T.C_Game N H' r R → Q (.int (termW R B t)) H'
theorem ok_Round_worth (T : Tx K mg) : ∀ n : Nat, FnOk P w K mg base CX0 (n + 32) T.f_Round_worth T.d_Round_worth ["self", "term", "boxes"] (spTerm T n)
  | 0 => none_ok (fun vs H Q E h => by
    obtain ⟨r, d, R, N, t, v, B, k, _, _, _, _, h, _⟩ := h
    have := t.depth_pos
    omega) _
  | n + 1 => by
    have IH := ok_Round_worth T n
    refine T.F_Round_worth.ok sc_Round_worth (fun vs H Q E h => ?_) (fun cdv A outer s H vs Q E hr h => ?_)
    · obtain ⟨r, d, R, N, t, v, B, k, rfl, _⟩ := h
      rfl
    obtain ⟨r, d, R, N, t, v, B, k, rfl, hR, ok, ht, hd, hB, hBr, hN, q⟩ := h
    have hu := hu_of hr
    refine ⟨_, (pss_cons (ps_set (i := 3) sc_Round_worth.nd rfl (.inl rfl) (pe_ix (k_ix_tup (K := K)) (pv 1) pe_int (fun _ _ => rfl)))
      (pss_cons (ps_set (i := 4) sc_Round_worth.nd rfl (.inl rfl) (k_fld (K := K) (k_fld (K := K) (pv 0) (by rfl)) (by rfl)))
      (pss_cons (ps_if (pt_cmpR op_eq (pv 3) pe_str (nomark _)) (pss_one (ps_ret (pe_op op_mod (pe_ix (k_ix_tup (K := K)) (pv 1) pe_int (fun _ _ => rfl)) (pv 4)))) pss_nil)
      (pss_cons (ps_if (pt_cmpR op_eq (pv 3) pe_str (nomark _)) (pss_one (ps_ret (pe_dget2 hu (pv 2) (pe_ix (k_ix_tup (K := K)) (pv 1) pe_int (fun _ _ => rfl)) pe_int ⟨by rfl, by rfl, by rfl, by rfl⟩))) pss_nil)
      (pss_cons (ps_if (pt_cmpR op_eq (pv 3) pe_str (nomark _)) (pss_one (ps_ret (pe_op op_mod (k_fld (K := K) (pv 0) (by rfl)) (pv 4)))) pss_nil)
      (pss_cons (ps_if (pt_cmpR op_eq (pv 3) pe_str (nomark _)) (pss_one (ps_ret (k_fld (K := K) (pv 0) (by rfl)))) pss_nil)
      (pss_cons (ps_if (pt_cmpR op_eq (pv 3) pe_str (nomark _)) (pss_one (ps_ret (pe_op op_mod (k_fld (K := K) (pv 0) (by rfl)) (pv 4)))) pss_nil)
      (pss_cons (ps_if (pt_cmpR op_eq (pv 3) pe_str (nomark _)) (pss_one (ps_ret (pe_meth (pv 0) T.cl_Round T.m_Round_coin_at (ok_Round_coin_at T) (hr.mono (by omega)) T.b_Round_coin_at .nil pass0 (pa_cons (pe_meth (pv 0) T.cl_Round T.m_Round_worth IH (hr.mono (by omega)) T.b_Round_worth .nil pass0 (pa_cons (pe_ix (k_ix_tup (K := K)) (pv 1) pe_int (fun _ _ => rfl)) (pa_cons (pv 2) pa_nil))) pa_nil)))) pss_nil)
      (pss_cons (ps_if (pt_cmpR op_eq (pv 3) pe_str (nomark _)) (pss_one (ps_ret (pe_meth (pv 0) T.cl_Round T.m_Round_true_at (ok_Round_true_at T) (hr.mono (by omega)) T.b_Round_true_at .nil pass0 (pa_cons (pe_meth (pv 0) T.cl_Round T.m_Round_worth IH (hr.mono (by omega)) T.b_Round_worth .nil pass0 (pa_cons (pe_ix (k_ix_tup (K := K)) (pv 1) pe_int (fun _ _ => rfl)) (pa_cons (pv 2) pa_nil))) pa_nil)))) pss_nil)
      (pss_one (ps_ret (pe_call (ok_op_of T) (hr.mono (by omega)) (by rfl) T.g_op_of T.F_op_of.kp T.b_op_of .nil pass0 (pa_cons (pe_ix (k_ix_tup (K := K)) (pv 1) pe_int (fun _ _ => rfl)) (pa_cons (pe_meth (pv 0) T.cl_Round T.m_Round_worth IH (hr.mono (by omega)) T.b_Round_worth .nil pass0 (pa_cons (pe_ix (k_ix_tup (K := K)) (pv 1) pe_int (fun _ _ => rfl)) (pa_cons (pv 2) pa_nil))) (pa_cons (pe_meth (pv 0) T.cl_Round T.m_Round_worth IH (hr.mono (by omega)) T.b_Round_worth .nil pass0 (pa_cons (pe_ix (k_ix_tup (K := K)) (pv 1) pe_int (fun _ _ => rfl)) (pa_cons (pv 2) pa_nil))) (pa_cons (pv 4) pa_nil)))))))))))))))), ?_⟩
    obtain ⟨dx, g, tt, tr, h1, ⟨h2, h2'⟩, ⟨h3, h3'⟩, h4⟩ := id hR
    obtain ⟨gx, a1, a2, a3, us, g1, g2, g3, g4, g5⟩ := id h2
    have p3 := ok.g.p3
    have ndr : d ≠ r := fun z => by
      obtain ⟨kvs, b1, _⟩ := hB
      rw [z, h1] at b1; cases b1
    have nof : ∀ {x : Str}, ¬ x = "game" → ¬ x = "number" → ¬ x = "many" → ¬ x = "held" → ¬ x = "mixed_by" → ¬ x = "tossed" → ¬ x = "truth" → (roundF g R.number R.many R.held R.s tt tr).lookup x = none := roundF_no g R.number R.many R.held R.s tt tr
    have fieldp : ∀ Q' : VK, Q' (.int R.G.p) H → tFld K (tFld K (tVar 0) "game") "field" [some (.ref r), some v, some (.ref d), some (.str "num"), none] H Q' := fun Q' h => ⟨_, rfl, r, _, dx, _, _, rfl, h1, T.cl_Round, T.n_Round_game, roundF_game _ _ _ _ _ _ _, g, _, gx, _, _, rfl, g1, T.cl_Game, T.n_Game_field, gameF_field _ _ _ _, h⟩
    have hN1 : ∀ H1, Stp [r] H H1 → RoundAt T.C_Round T.C_Game N H1 r R → ∀ z, H1 z = none → N z := fun H1 e1 hR1 z hz => by
      by_cases c : z = r
      · obtain ⟨_, _, _, _, h, _⟩ := hR1
        rw [c, h] at hz; cases hz
      · exact hN z (e1.free hz (by simpa using c))
    -- the head: its word, the field
    have hw : ∃ (a : Addr) (x : Str) (xs : List V), v = .ref a ∧ H a = some (.tup (.str x :: xs)) ∧ (x = "num" → ∃ m, t = .num m ∧ xs = [.int m]) ∧ (x = "box" → ∃ m, t = .box m ∧ xs = [.str m]) ∧ (x = "round" → t = .round) ∧ (x = "due" → t = .due) ∧ (x = "asked" → t = .asked) ∧
        (x = "coin" → ∃ e u, t = .coin e ∧ xs = [u] ∧ TermAt H e u) ∧ (x = "true" → ∃ e u, t = .tru e ∧ xs = [u] ∧ TermAt H e u) ∧
        (x ≠ "num" → x ≠ "box" → x ≠ "round" → x ≠ "due" → x ≠ "asked" → x ≠ "coin" → x ≠ "true" → ∃ s e f u1 u2, t = .op s e f ∧ xs = [.str s.str, u1, u2] ∧ TermAt H e u1 ∧ TermAt H f u2) := by
      cases t with
      | num m => obtain ⟨a, rfl, h⟩ := ht; exact ⟨a, _, _, rfl, h, fun _ => ⟨m, rfl, rfl⟩, fun z => absurd z (by decide +kernel), fun z => absurd z (by decide +kernel), fun z => absurd z (by decide +kernel), fun z => absurd z (by decide +kernel), fun z => absurd z (by decide +kernel), fun z => absurd z (by decide +kernel), fun z => absurd rfl z⟩
      | box m => obtain ⟨a, rfl, h⟩ := ht; exact ⟨a, _, _, rfl, h, fun z => absurd z (by decide +kernel), fun _ => ⟨m, rfl, rfl⟩, fun z => absurd z (by decide +kernel), fun z => absurd z (by decide +kernel), fun z => absurd z (by decide +kernel), fun z => absurd z (by decide +kernel), fun z => absurd z (by decide +kernel), fun _ z => absurd rfl z⟩
      | round => obtain ⟨a, rfl, h⟩ := ht; exact ⟨a, _, _, rfl, h, fun z => absurd z (by decide +kernel), fun z => absurd z (by decide +kernel), fun _ => rfl, fun z => absurd z (by decide +kernel), fun z => absurd z (by decide +kernel), fun z => absurd z (by decide +kernel), fun z => absurd z (by decide +kernel), fun _ _ z => absurd rfl z⟩
      | due => obtain ⟨a, rfl, h⟩ := ht; exact ⟨a, _, _, rfl, h, fun z => absurd z (by decide +kernel), fun z => absurd z (by decide +kernel), fun z => absurd z (by decide +kernel), fun _ => rfl, fun z => absurd z (by decide +kernel), fun z => absurd z (by decide +kernel), fun z => absurd z (by decide +kernel), fun _ _ _ z => absurd rfl z⟩
      | asked => obtain ⟨a, rfl, h⟩ := ht; exact ⟨a, _, _, rfl, h, fun z => absurd z (by decide +kernel), fun z => absurd z (by decide +kernel), fun z => absurd z (by decide +kernel), fun z => absurd z (by decide +kernel), fun _ => rfl, fun z => absurd z (by decide +kernel), fun z => absurd z (by decide +kernel), fun _ _ _ _ z => absurd rfl z⟩
      | coin e => obtain ⟨a, u, rfl, h, he⟩ := ht; exact ⟨a, _, _, rfl, h, fun z => absurd z (by decide +kernel), fun z => absurd z (by decide +kernel), fun z => absurd z (by decide +kernel), fun z => absurd z (by decide +kernel), fun z => absurd z (by decide +kernel), fun _ => ⟨e, u, rfl, rfl, he⟩, fun z => absurd z (by decide +kernel), fun _ _ _ _ _ z => absurd rfl z⟩
      | tru e => obtain ⟨a, u, rfl, h, he⟩ := ht; exact ⟨a, _, _, rfl, h, fun z => absurd z (by decide +kernel), fun z => absurd z (by decide +kernel), fun z => absurd z (by decide +kernel), fun z => absurd z (by decide +kernel), fun z => absurd z (by decide +kernel), fun z => absurd z (by decide +kernel), fun _ => ⟨e, u, rfl, rfl, he⟩, fun _ _ _ _ _ _ z => absurd rfl z⟩
      | op s e f => obtain ⟨a, u1, u2, rfl, h, he, hf⟩ := ht; exact ⟨a, _, _, rfl, h, fun z => absurd z (by decide +kernel), fun z => absurd z (by decide +kernel), fun z => absurd z (by decide +kernel), fun z => absurd z (by decide +kernel), fun z => absurd z (by decide +kernel), fun z => absurd z (by decide +kernel), fun z => absurd z (by decide +kernel), fun _ _ _ _ _ _ _ => ⟨s, e, f, u1, u2, rfl, rfl, he, hf⟩⟩
    obtain ⟨a, x, xs, rfl, ha, w1, w2, w3, w4, w5, w6, w7, w8⟩ := hw
    refine ⟨_, rfl, a, _, _, _, rfl, rfl, SqT.of ha, at0, ?_⟩
    refine ⟨_, rfl, r, _, dx, _, _, rfl, h1, T.cl_Round, T.n_Round_game, roundF_game _ _ _ _ _ _ _, g, _, gx, _, _, rfl, g1, T.cl_Game, T.n_Game_field, gameF_field _ _ _ _, ?_⟩
    refine ⟨_, rfl, rfl, _, rfl, ?_⟩
    by_cases c1 : x = "num"
    · obtain ⟨m, rfl, rfl⟩ := w1 c1
      rw [decide_eq_true (by rw [c1])]
      exact ⟨_, rfl, a, _, _, _, rfl, rfl, SqT.of ha, at1, _, rfl, _, _, rfl, rfl, (by show 0 < R.G.p; omega), q _ .refl hR⟩
    rw [sdec c1]
    refine ⟨_, rfl, rfl, _, rfl, ?_⟩
    by_cases c2 : x = "box"
    · obtain ⟨m, rfl, rfl⟩ := w2 c2
      rw [decide_eq_true (by rw [c2])]
      obtain ⟨kvs, b1, b2, b3⟩ := id hB
      refine ⟨_, rfl, d, rfl, .inl ⟨kvs, .inl b1⟩, _, rfl, a, _, _, _, rfl, rfl, SqT.of ha, at1, _, DGet.k (k := Sum.inr m) b1, ?_⟩
      rw [b2 m]
      exact q _ .refl hR
    rw [sdec c2]
    refine ⟨_, rfl, rfl, _, rfl, ?_⟩
    by_cases c3 : x = "round"
    · obtain rfl := w3 c3
      rw [decide_eq_true (by rw [c3])]
      exact ⟨_, rfl, r, _, dx, _, _, rfl, h1, T.cl_Round, T.n_Round_number, roundF_number _ _ _ _ _ _ _, _, rfl, _, _, rfl, rfl, (by show 0 < R.G.p; omega), q _ .refl hR⟩
    rw [sdec c3]
    refine ⟨_, rfl, rfl, _, rfl, ?_⟩
    by_cases c4 : x = "due"
    · obtain rfl := w4 c4
      rw [decide_eq_true (by rw [c4])]
      exact ⟨_, rfl, r, _, dx, _, _, rfl, h1, T.cl_Round, T.n_Round_held, roundF_held _ _ _ _ _ _ _, q _ .refl hR⟩
    rw [sdec c4]
    refine ⟨_, rfl, rfl, _, rfl, ?_⟩
    by_cases c5 : x = "asked"
    · obtain rfl := w5 c5
      rw [decide_eq_true (by rw [c5])]
      exact ⟨_, rfl, r, _, dx, _, _, rfl, h1, T.cl_Round, T.n_Round_many, roundF_many _ _ _ _ _ _ _, _, rfl, _, _, rfl, rfl, (by show 0 < R.G.p; omega), q _ .refl hR⟩
    rw [sdec c5]
    refine ⟨_, rfl, rfl, _, rfl, ?_⟩
    by_cases c6 : x = "coin"
    · obtain ⟨e, u, rfl, rfl, he⟩ := w6 c6
      rw [decide_eq_true (by rw [c6])]
      refine ⟨_, rfl, r, dx, _, rfl, h1, nof (by decide +kernel) (by decide +kernel) (by decide +kernel) (by decide +kernel) (by decide +kernel) (by decide +kernel) (by decide +kernel), _, rfl, r, dx, _, rfl, h1, nof (by decide +kernel) (by decide +kernel) (by decide +kernel) (by decide +kernel) (by decide +kernel) (by decide +kernel) (by decide +kernel), _, rfl, a, _, _, _, rfl, rfl, SqT.of ha, at1, _, rfl, ?_⟩
      refine ⟨r, d, R, N, e, u, B, k, rfl, hR, ok, he, (by have : e.depth + 1 ≤ n + 1 := hd; omega), hB, hBr, hN, fun H1 e1 hR1 => ?_⟩
      exact ⟨r, R, N, _, rfl, hR1, ok, fun H2 e2 => q _ (e1.trans e2.nil) (hR1.step0 e2)⟩
    rw [sdec c6]
    refine ⟨_, rfl, rfl, _, rfl, ?_⟩
    by_cases c7 : x = "true"
    · obtain ⟨e, u, rfl, rfl, he⟩ := w7 c7
      rw [decide_eq_true (by rw [c7])]
      refine ⟨_, rfl, r, dx, _, rfl, h1, nof (by decide +kernel) (by decide +kernel) (by decide +kernel) (by decide +kernel) (by decide +kernel) (by decide +kernel) (by decide +kernel), _, rfl, r, dx, _, rfl, h1, nof (by decide +kernel) (by decide +kernel) (by decide +kernel) (by decide +kernel) (by decide +kernel) (by decide +kernel) (by decide +kernel), _, rfl, a, _, _, _, rfl, rfl, SqT.of ha, at1, _, rfl, ?_⟩
      refine ⟨r, d, R, N, e, u, B, k, rfl, hR, ok, he, (by have : e.depth + 1 ≤ n + 1 := hd; omega), hB, hBr, hN, fun H1 e1 hR1 => ?_⟩
      have rg := termW_rng ok hBr e
      exact ⟨r, R, N, _, rfl, hR1, ok, rg.1, rg.2, hN1 H1 e1 hR1, fun H2 e2 hR2 => q _ (e1.trans e2) hR2⟩
    rw [sdec c7]
    obtain ⟨s', e, f, u1, u2, rfl, rfl, he, hf⟩ := w8 c1 c2 c3 c4 c5 c6 c7
    have hdd : max e.depth f.depth + 1 ≤ n + 1 := hd
    refine ⟨_, rfl, a, _, _, _, rfl, rfl, SqT.of ha, at1, _, rfl, r, dx, _, rfl, h1, nof (by decide +kernel) (by decide +kernel) (by decide +kernel) (by decide +kernel) (by decide +kernel) (by decide +kernel) (by decide +kernel), _, rfl, a, _, _, _, rfl, rfl, SqT.of ha, at2, _, rfl, ?_⟩
    refine ⟨r, d, R, N, e, u1, B, k, rfl, hR, ok, he, by omega, hB, hBr, hN, fun H1 e1 hR1 => ?_⟩
    obtain ⟨dx1, g1', tt1, tr1, hh1, _⟩ := id hR1
    refine ⟨_, rfl, r, dx1, _, rfl, hh1, roundF_no _ _ _ _ _ _ _ (by decide +kernel) (by decide +kernel) (by decide +kernel) (by decide +kernel) (by decide +kernel) (by decide +kernel) (by decide +kernel), _, rfl, a, _, _, _, rfl, rfl, SqT.of (e1.t _ _ ha), at3, _, rfl, ?_⟩
    refine ⟨r, d, R, N, f, u2, B, k, rfl, hR1, ok, hf.step e1, by omega, hB.step e1 (by simpa using ndr), hBr, hN1 H1 e1 hR1, fun H2 e2 hR2 => ?_⟩
    have r1 := termW_rng ok hBr e
    have r2 := termW_rng ok hBr f
    exact ⟨_, rfl, s', _, _, _, rfl, r1.1, r1.2, r2.1, r2.2, ok.g.pr, ok.g.pm, fun H3 e3 => q _ ((e1.trans e2).trans e3.nil) (hR2.step0 e3)⟩

/-! ### a machine -/
structure MachV where
  G : GameV
  rows : List Row
  B : Str → Int
  rounds : Int
def machF (g h d : Addr) (n : Int) : List (Str × V) := [(("game" : Str), V.ref g), (("helper" : Str), V.ref h), (("boxes" : Str), V.ref d), (("rounds" : Str), V.int n)]
abbrev RowsAt (H : Hp) : List Row → List V → Prop := AllP (RowAt H)
/-- a machine whose boxes stand at d -/
def MachAt (CM CG : Addr) (H : Hp) (m d : Addr) (M : MachV) (k : Nat) : Prop := ∃ (dx g h : Addr) (us : List V), H m = some (.ins CM dx (machF g h d M.rounds)) ∧ GameAt CG H g M.G ∧ H h = some (.tup us) ∧ RowsAt H M.rows us ∧ BoxAt H d M.B k
theorem machF_game (g h d : Addr) (n : Int) : (machF g h d n).lookup ("game" : Str) = some (.ref g) := by unfold machF; rfl
theorem machF_helper (g h d : Addr) (n : Int) : (machF g h d n).lookup ("helper" : Str) = some (.ref h) := by unfold machF; rfl
theorem machF_boxes (g h d : Addr) (n : Int) : (machF g h d n).lookup ("boxes" : Str) = some (.ref d) := by unfold machF; rfl
theorem machF_rounds (g h d : Addr) (n : Int) : (machF g h d n).lookup ("rounds" : Str) = some (.int n) := by unfold machF; rfl
theorem machF_no (g h d : Addr) (n : Int) {x : Str} (h1 : ¬ x = "game") (h2 : ¬ x = "helper") (h3 : ¬ x = "boxes") (h4 : ¬ x = "rounds") : (machF g h d n).lookup x = none := by
  unfold machF
  simp [List.lookup, beq_false_of_ne h1, beq_false_of_ne h2, beq_false_of_ne h3, beq_false_of_ne h4]
theorem machF_make (g h d : Addr) (n : Int) : putF "rounds" (V.int n) (putF "boxes" (V.ref d) (putF "helper" (V.ref h) (putF "game" (V.ref g) []))) = machF g h d n := by
  unfold machF
  have a1 : ¬ (("game" : Str) = "helper") := by decide +kernel
  have a2 : ¬ (("game" : Str) = "boxes") := by decide +kernel
  have a3 : ¬ (("game" : Str) = "rounds") := by decide +kernel
  have b2 : ¬ (("helper" : Str) = "boxes") := by decide +kernel
  have b3 : ¬ (("helper" : Str) = "rounds") := by decide +kernel
  have c3 : ¬ (("boxes" : Str) = "rounds") := by decide +kernel
  simp only [putF, if_neg a1, if_neg a2, if_neg a3, if_neg b2, if_neg b3, if_neg c3]
theorem machF_put (g h d : Addr) (n m : Int) : putF "rounds" (V.int m) (machF g h d n) = machF g h d m := by
  unfold machF
  have a3 : ¬ (("game" : Str) = "rounds") := by decide +kernel
  have b3 : ¬ (("helper" : Str) = "rounds") := by decide +kernel
  have c3 : ¬ (("boxes" : Str) = "rounds") := by decide +kernel
  simp only [putF, if_neg a3, if_neg b3, if_neg c3, if_pos]
theorem machF_putB (g h d e : Addr) (n : Int) : putF "boxes" (V.ref e) (machF g h d n) = machF g h e n := by
  unfold machF
  have a3 : ¬ (("game" : Str) = "boxes") := by decide +kernel
  have b3 : ¬ (("helper" : Str) = "boxes") := by decide +kernel
  simp only [putF, if_neg a3, if_neg b3, if_pos]
theorem machF_inj {g h d g' h' d' : Addr} {n n' : Int} (e : machF g h d n = machF g' h' d' n') : g = g' := by
  unfold machF at e
  exact V.ref.inj (Prod.mk.inj (List.cons.inj e).1).2
/-- N: what its game's own list is -/
def GN (CM CG : Addr) (N : Addr → Prop) (p : Int) (H : Hp) (m : Addr) : Prop := ∀ dx g h d n0, H m = some (.ins CM dx (machF g h d n0)) → ∀ gx a b e, H g = some (.ins CG gx (gameF a b p e)) → N e
theorem GN.of {CM CG : Addr} {N : Addr → Prop} {p : Int} {H H' : Hp} {m m' dx dx' g hh hh' d d' : Addr} {n n' : Int} {o : HO} (h : GN CM CG N p H m) (h1 : H m = some (.ins CM dx (machF g hh d n))) (h2 : H' m' = some (.ins CM dx' (machF g hh' d' n'))) (hg : H g = some o) (hg' : H' g = some o) : GN CM CG N p H' m' := by
  intro dx2 g2 h2' d2 n2 e2 gx a b e he
  rw [h2] at e2
  have eg := machF_inj (HO.ins.inj (Option.some.inj e2)).2.2
  rw [← eg, hg'] at he
  exact h dx g hh d n h1 gx a b e (hg.trans he)
def zeroB : Str → Int := fun _ => 0
def spMach (T : Tx K mg) : Sp := fun vs H Q _ => ∃ (m dx g h : Addr) (G : GameV) (rows : List Row) (us : List V), vs = [.ref m, .ref g, .ref h] ∧ H m = some (.ins T.C_Machine dx []) ∧ GameAt T.C_Game H g G ∧ H h = some (.tup us) ∧ RowsAt H rows us ∧
  ∀ d H', H d = none → d ≠ m → Stp [m] H H' → MachAt T.C_Machine T.C_Game H' m d ⟨G, rows, zeroB, 0⟩ 0 → (∃ dx' h', H' m = some (.ins T.C_Machine dx' (machF g h' d 0))) → Q .non H'
theorem ok_Machine___init__ (T : Tx K mg) : FnOk P w K mg base CX0 1 T.f_Machine___init__ T.d_Machine___init__ ["self", "game", "helper"] (spMach T) := by
  refine T.F_Machine___init__.ok sc_Machine___init__ (fun vs H Q E h => ?_) (fun cdv A outer s H vs Q E hr h => ?_)
  · obtain ⟨m, dx, g, h, G, rows, us, rfl, _⟩ := h
    rfl
  obtain ⟨m, dx, g, h, G, rows, us, rfl, hm, hG, hh, hu, q⟩ := h
  refine ⟨_, (pss_cons (ks_fld (K := K) (pv 0) (pv 1) (by rfl))
      (pss_cons (ks_fld (K := K) (pv 0) (pe_callTy (k_tuple_of (K := K)) (by rfl) T.z_tuple (by decide +kernel) (pa_cons (pv 2) pa_nil)) (by rfl))
      (pss_cons (ks_fld (K := K) (pv 0) pe_dnewK (by rfl))
      (pss_one (ks_fld (K := K) (pv 0) pe_int (by rfl)))))), ?_⟩
  refine ⟨_, rfl, _, rfl, m, _, dx, _, rfl, hm, T.cl_Machine, T.n_Machine_game, (by show 0 < 1000; decide), ?_⟩
  have nhm : h ≠ m := fun z => by rw [z, hm] at hh; cases hh
  refine ⟨_, rfl, h, us, rfl, .inr ⟨SqT.of (by rw [upd_ne nhm]; exact hh), ?_⟩⟩
  refine ⟨_, rfl, m, _, dx, _, rfl, upd_same, T.cl_Machine, T.n_Machine_helper, (by show 1 < 1000; decide), ?_⟩
  rw [upd_upd]
  intro d hd
  have ndm : d ≠ m := fun z => by rw [z, upd_same] at hd; cases hd
  have hdH : H d = none := by rw [upd_ne ndm] at hd; exact hd
  refine ⟨_, rfl, m, _, dx, _, rfl, by rw [upd_ne ndm.symm]; exact upd_same, T.cl_Machine, T.n_Machine_boxes, Nat.lt_of_le_of_lt (length_putF _ _ _) (by show 1 + 1 < 1000; decide), ?_⟩
  refine ⟨_, rfl, m, _, dx, _, rfl, upd_same, T.cl_Machine, T.n_Machine_rounds, Nat.lt_of_le_of_lt (length_putF _ _ _) (Nat.lt_of_le_of_lt (Nat.add_le_add_right (length_putF _ _ _) 1) (by show 1 + 1 + 1 < 1000; decide)), ?_⟩
  rw [upd_upd, machF_make]
  have e1 : Stp [m] H (upd H m (.ins T.C_Machine dx (putF "helper" (V.ref h) (putF "game" (V.ref g) [])))) := Stp.wrI hm (by simp)
  have e2 := e1.trans (Stp.new (l := [m]) (o := .dK []) hd)
  have e3 := e2.trans (Stp.wrI (l := [m]) (p := m) (o := .ins T.C_Machine dx (machF g h d 0)) (by rw [upd_ne ndm.symm]; exact upd_same) (by simp))
  have ngm : g ≠ m := fun z => by
    obtain ⟨gx, a1, a2, a3, us, g1, _⟩ := hG
    rw [z, hm] at g1
    have := congrArg List.length (HO.ins.inj (Option.some.inj g1)).2.2
    cases this
  refine q d _ hdH ndm e3 ⟨dx, g, h, us, upd_same, hG.stepI e3 (by simpa using ngm) (fun x hx ys hy => ?_), e3.t _ _ hh, AllP.mono (fun r v => RowAt.step e3 r v) hu, [], ?_, fun x => rfl, Nat.le_refl _⟩ ⟨dx, h, upd_same⟩
  · have : x = m := by simpa using hx
    rw [this, hm] at hy; cases hy
  · rw [upd_ne ndm]; exact upd_same
def spBox (T : Tx K mg) : Sp := fun vs H Q _ => ∃ (m d : Addr) (M : MachV) (k : Nat) (x : Str), vs = [.ref m, .str x] ∧ MachAt T.C_Machine T.C_Game H m d M k ∧ Q (.int (M.B x)) H
theorem ok_Machine_box (T : Tx K mg) : FnOk P w K mg base CX0 1 T.f_Machine_box T.d_Machine_box ["self", "x"] (spBox T) := by
  refine T.F_Machine_box.ok sc_Machine_box (fun vs H Q E h => ?_) (fun cdv A outer s H vs Q E hr h => ?_)
  · obtain ⟨m, d, M, k, x, rfl, _⟩ := h
    rfl
  obtain ⟨m, d, M, k, x, rfl, ⟨dx, g, h, us, m1, m2, m3, m4, kvs, b1, b2, b3⟩, q⟩ := h
  have hu := hu_of hr
  refine ⟨_, (pss_one (ps_ret (pe_dget2 hu (k_fld (K := K) (pv 0) (by rfl)) (pv 1) pe_int ⟨by rfl, by rfl, by rfl, by rfl⟩))), ?_⟩
  refine ⟨_, rfl, m, _, dx, _, _, rfl, m1, T.cl_Machine, T.n_Machine_boxes, machF_boxes _ _ _ _, d, rfl, .inl ⟨kvs, .inl b1⟩, _, rfl, _, DGet.k (k := Sum.inr x) b1, ?_⟩
  rw [b2 x]
  exact q
/-! ### a row done; all rows -/
structure Loc where
  at_ : Int
  B : Str → Int
  said : List Int
def putB (B : Str → Int) (x : Str) (v : Int) : Str → Int := fun y => if y = x then v else B y
def stepM (R : RoundV) (L : Loc) : Row → Loc
  | .fin => ⟨-1, L.B, L.said⟩
  | .go k => ⟨k, L.B, L.said⟩
  | .set x e => ⟨L.at_ + 1, putB L.B x (termW R L.B e), L.said⟩
  | .say e => ⟨L.at_ + 1, L.B, L.said ++ [termW R L.B e]⟩
  | .iff e k => if termW R L.B e ≠ 0 then ⟨k, L.B, L.said⟩ else ⟨L.at_ + 1, L.B, L.said⟩
def runM (R : RoundV) (rows : List Row) : Nat → Loc → Loc
  | 0, L => L
  | n + 1, L => if 0 ≤ L.at_ ∧ L.at_ < (rows.length : Int) ∧ (L.said.length : Int) < R.many then runM R rows n (stepM R L (rows.getD L.at_.toNat .fin)) else L
theorem BoxAt.put {H : Hp} {d : Addr} {B : Str → Int} {n : Nat} {kvs : List (Key × V)} (b1 : H d = some (.dK kvs)) (b2 : ∀ x : Str, (valV kvs (Sum.inr x : Key)).getD (.int 0) = .int (B x)) (b3 : kvs.length ≤ n) (x : Str) (v : Int) :
    BoxAt (upd H d (.dK (putK kvs (Sum.inr x) (.int v)))) d (putB B x v) (n + 1) := by
  refine ⟨_, upd_same, fun y => ?_, ?_⟩
  · rw [valV_put]
    unfold putB
    by_cases c : y = x
    · subst c; rw [if_pos rfl, if_pos rfl]; rfl
    · rw [if_neg (fun z => c (Sum.inr.inj z)), if_neg c]; exact b2 y
  · have : (putK kvs (Sum.inr x : Key) (.int v)).length ≤ kvs.length + 1 := length_putK _ _ _
    omega
/-- l is where what is said stands: no list of the round's (N) -/
def spStep (T : Tx K mg) (n : Nat) : Sp := fun vs H Q _ => ∃ (m d r l : Addr) (v : V) (R : RoundV) (N : Addr → Prop) (row : Row) (dx g h : Addr) (n0 : Int) (k : Nat) (L : Loc), vs = [.ref m, .ref r, v, .int L.at_, .ref l] ∧ H m = some (.ins T.C_Machine dx (machF g h d n0)) ∧ BoxAt H d L.B k ∧ k ≤ 1000000 ∧
  RoundAt T.C_Round T.C_Game N H r R ∧ R.Ok ∧ RowAt H row v ∧ row.dep n ∧ (∀ x, 0 ≤ L.B x ∧ L.B x < R.G.p) ∧ H l = some (.lst (L.said.map V.int)) ∧ L.said.length ≤ 10000 ∧ (∀ z, H z = none → N z) ∧ ¬ N l ∧ ¬ N d ∧
  ∀ H', Stp [r, d, l] H H' → RoundAt T.C_Round T.C_Game N H' r R → BoxAt H' d (stepM R L row).B (k + 1) → H' l = some (.lst ((stepM R L row).said.map V.int)) → Q (.int (stepM R L row).at_) H'
theorem BoxAt.le {H : Hp} {d : Addr} {B : Str → Int} {n m : Nat} (h : BoxAt H d B n) (e : n ≤ m) : BoxAt H d B m := let ⟨kvs, h1, h2, h3⟩ := h; ⟨kvs, h1, h2, Nat.le_trans h3 e⟩
theorem ok_Machine_step (T : Tx K mg) (n : Nat) : FnOk P w K mg base CX0 (n + 33) T.f_Machine_step T.d_Machine_step ["self", "now", "row", "at", "said"] (spStep T n) := by
  refine T.F_Machine_step.ok sc_Machine_step (fun vs H Q E h => ?_) (fun cdv A outer s H vs Q E hr h => ?_)
  · obtain ⟨m, d, r, l, v, R, N, row, dx, g, h, n0, k, L, rfl, _⟩ := h
    rfl
  obtain ⟨m, d, r, l, v, R, N, row, dx, g, h, n0, k, L, rfl, hm, hB, hk, hR, ok, hrow, hdep, hBr, hl, hll, hN, nl, nd, q⟩ := h
  have hu := hu_of hr
  refine ⟨_, (pss_cons (ps_if (pt_cmpR op_eq (pe_ix (k_ix_tup (K := K)) (pv 2) pe_int (fun _ _ => rfl)) pe_str (nomark _)) (pss_one (ps_ret (pe_un un_neg pe_int))) pss_nil)
      (pss_cons (ps_if (pt_cmpR op_eq (pe_ix (k_ix_tup (K := K)) (pv 2) pe_int (fun _ _ => rfl)) pe_str (nomark _)) (pss_one (ps_ret (pe_ix (k_ix_tup (K := K)) (pv 2) pe_int (fun _ _ => rfl)))) pss_nil)
      (pss_cons (ps_if (pt_cmpR op_eq (pe_ix (k_ix_tup (K := K)) (pv 2) pe_int (fun _ _ => rfl)) pe_str (nomark _)) (pss_one (ps_dput hu (k_fld (K := K) (pv 0) (by rfl)) (pe_ix (k_ix_tup (K := K)) (pv 2) pe_int (fun _ _ => rfl)) (pe_meth (pv 1) T.cl_Round T.m_Round_worth (ok_Round_worth T n) (hr.mono (by omega)) T.b_Round_worth .nil pass0 (pa_cons (pe_ix (k_ix_tup (K := K)) (pv 2) pe_int (fun _ _ => rfl)) (pa_cons (k_fld (K := K) (pv 0) (by rfl)) pa_nil))) rfl)) (pss_one (ps_if (pt_cmpR op_eq (pe_ix (k_ix_tup (K := K)) (pv 2) pe_int (fun _ _ => rfl)) pe_str (nomark _)) (pss_one (ps_expr (k_bm (K := K) PySem.F.plainAttrs_list PySem.F.slot_list_append PySem.F.type_list_append mt_append (pv 4) (pa_cons (pe_meth (pv 1) T.cl_Round T.m_Round_worth (ok_Round_worth T n) (hr.mono (by omega)) T.b_Round_worth .nil pass0 (pa_cons (pe_ix (k_ix_tup (K := K)) (pv 2) pe_int (fun _ _ => rfl)) (pa_cons (k_fld (K := K) (pv 0) (by rfl)) pa_nil))) pa_nil)))) (pss_one (ps_if (pt_cmpR op_ne (pe_meth (pv 1) T.cl_Round T.m_Round_worth (ok_Round_worth T n) (hr.mono (by omega)) T.b_Round_worth .nil pass0 (pa_cons (pe_ix (k_ix_tup (K := K)) (pv 2) pe_int (fun _ _ => rfl)) (pa_cons (k_fld (K := K) (pv 0) (by rfl)) pa_nil))) pe_int (nomark _)) (pss_one (ps_ret (pe_ix (k_ix_tup (K := K)) (pv 2) pe_int (fun _ _ => rfl)))) pss_nil)))))
      (pss_one (ps_ret (pe_op op_add (pv 3) pe_int)))))), ?_⟩
  obtain ⟨rx, g', t', tr', r1, _⟩ := id hR
  obtain ⟨kvs, b1, b2, b3⟩ := id hB
  have noW : (roundF g' R.number R.many R.held R.s t' tr').lookup ("worth" : Str) = none := roundF_no _ _ _ _ _ _ _ (by decide +kernel) (by decide +kernel) (by decide +kernel) (by decide +kernel) (by decide +kernel) (by decide +kernel) (by decide +kernel)
  have ndr : d ≠ r := fun z => by rw [z, r1] at b1; cases b1
  have nlr : l ≠ r := fun z => by rw [z, r1] at hl; cases hl
  have nld : l ≠ d := fun z => by rw [z, b1] at hl; cases hl
  have nmr : m ≠ r := fun z => by
    rw [z, r1] at hm
    have := congrArg List.length (HO.ins.inj (Option.some.inj hm)).2.2
    cases this
  have up3 : ∀ {H' : Hp}, Stp [r] H H' → Stp [r, d, l] H H' := fun e => e.mono (by simp)
  cases row with
  | fin =>
    obtain ⟨a, rfl, ha⟩ := hrow
    refine ⟨_, rfl, a, _, _, _, rfl, rfl, SqT.of ha, at0, rfl, _, rfl, ?_⟩
    rw [sdecT]
    exact ⟨_, rfl, q _ .refl hR (hB.le (Nat.le_succ _)) hl⟩
  | go j =>
    obtain ⟨a, rfl, ha⟩ := hrow
    refine ⟨_, rfl, a, _, _, _, rfl, rfl, SqT.of ha, at0, rfl, _, rfl, ?_⟩
    rw [sdec (by decide +kernel)]
    refine ⟨_, rfl, a, _, _, _, rfl, rfl, SqT.of ha, at0, rfl, _, rfl, ?_⟩
    rw [sdecT]
    exact ⟨_, rfl, a, _, _, _, rfl, rfl, SqT.of ha, at1, q _ .refl hR (hB.le (Nat.le_succ _)) hl⟩
  | set x e =>
    obtain ⟨a, u, rfl, ha, he⟩ := hrow
    refine ⟨_, rfl, a, _, _, _, rfl, rfl, SqT.of ha, at0, rfl, _, rfl, ?_⟩
    rw [sdec (by decide +kernel)]
    refine ⟨_, rfl, a, _, _, _, rfl, rfl, SqT.of ha, at0, rfl, _, rfl, ?_⟩
    rw [sdec (by decide +kernel)]
    refine ⟨_, rfl, a, _, _, _, rfl, rfl, SqT.of ha, at0, rfl, _, rfl, ?_⟩
    rw [sdecT]
    refine ⟨_, rfl, r, rx, _, rfl, r1, noW, _, rfl, a, _, _, _, rfl, rfl, SqT.of ha, at2, _, rfl, m, _, dx, _, _, rfl, hm, T.cl_Machine, T.n_Machine_boxes, machF_boxes _ _ _ _, ?_⟩
    refine ⟨r, d, R, N, e, u, L.B, k, rfl, hR, ok, he, hdep, hB, hBr, hN, fun H1 e1 hR1 => ?_⟩
    obtain ⟨kvs1, c1, c2, c3⟩ := hB.step e1 (by simpa using ndr)
    have hm1 := e1.k _ _ hm (by simpa using nmr)
    refine ⟨_, rfl, m, _, dx, _, _, rfl, hm1, T.cl_Machine, T.n_Machine_boxes, machF_boxes _ _ _ _, _, rfl, a, _, _, _, rfl, rfl, SqT.of (e1.t _ _ ha), at1, d, _, rfl, DPut.k (k := Sum.inr x) c1 (smallX (by omega)), ?_⟩
    have e2 : Stp [d] H1 (upd H1 d (.dK (putK kvs1 (Sum.inr x) (.int (termW R L.B e))))) := Stp.wrD c1 (by simp)
    refine ⟨_, rfl, _, _, rfl, rfl, q _ ((up3 e1).trans (e2.mono (by simp))) (hR1.stepN e2 fun z hz => ?_) (BoxAt.put c1 c2 c3 _ _) ?_⟩
    · have : z = d := by simpa using hz
      subst this
      exact ⟨nd, fun C dx fs hh => by rw [c1] at hh; cases hh⟩
    · rw [upd_ne nld]
      exact e1.k _ _ hl (by simpa using nlr)
  | say e =>
    obtain ⟨a, u, rfl, ha, he⟩ := hrow
    refine ⟨_, rfl, a, _, _, _, rfl, rfl, SqT.of ha, at0, rfl, _, rfl, ?_⟩
    rw [sdec (by decide +kernel)]
    refine ⟨_, rfl, a, _, _, _, rfl, rfl, SqT.of ha, at0, rfl, _, rfl, ?_⟩
    rw [sdec (by decide +kernel)]
    refine ⟨_, rfl, a, _, _, _, rfl, rfl, SqT.of ha, at0, rfl, _, rfl, ?_⟩
    rw [sdec (by decide +kernel)]
    refine ⟨_, rfl, a, _, _, _, rfl, rfl, SqT.of ha, at0, rfl, _, rfl, ?_⟩
    rw [sdecT]
    refine ⟨_, rfl, .inl ⟨rfl, _, SqL.of hl⟩, _, rfl, r, rx, _, rfl, r1, noW, _, rfl, a, _, _, _, rfl, rfl, SqT.of ha, at1, _, rfl, m, _, dx, _, _, rfl, hm, T.cl_Machine, T.n_Machine_boxes, machF_boxes _ _ _ _, ?_⟩
    refine ⟨r, d, R, N, e, u, L.B, k, rfl, hR, ok, he, hdep, hB, hBr, hN, fun H1 e1 hR1 => ?_⟩
    have hl1 := e1.k _ _ hl (by simpa using nlr)
    have e2 : Stp [l] H1 (upd H1 l (.lst (L.said.map V.int ++ [.int (termW R L.B e)]))) := Stp.wrL hl1 (by simp)
    refine ⟨l, _, _, rfl, rfl, hl1, by rw [List.length_map]; exact smallX (by omega), ?_⟩
    refine ⟨_, rfl, _, _, rfl, rfl, q _ ((up3 e1).trans (e2.mono (by simp))) (hR1.stepN e2 fun z hz => ?_) (((hB.step e1 (by simpa using ndr)).step e2 (by simpa using nld.symm)).le (Nat.le_succ _)) ?_⟩
    · have : z = l := by simpa using hz
      subst this
      exact ⟨nl, fun C dx fs hh => by rw [hl1] at hh; cases hh⟩
    · rw [upd_same]
      show _ = some (HO.lst ((L.said ++ [termW R L.B e]).map V.int))
      rw [List.map_append]; rfl
  | iff e j =>
    obtain ⟨a, u, rfl, ha, he⟩ := hrow
    refine ⟨_, rfl, a, _, _, _, rfl, rfl, SqT.of ha, at0, rfl, _, rfl, ?_⟩
    rw [sdec (by decide +kernel)]
    refine ⟨_, rfl, a, _, _, _, rfl, rfl, SqT.of ha, at0, rfl, _, rfl, ?_⟩
    rw [sdec (by decide +kernel)]
    refine ⟨_, rfl, a, _, _, _, rfl, rfl, SqT.of ha, at0, rfl, _, rfl, ?_⟩
    rw [sdec (by decide +kernel)]
    refine ⟨_, rfl, a, _, _, _, rfl, rfl, SqT.of ha, at0, rfl, _, rfl, ?_⟩
    rw [sdec (by decide +kernel)]
    refine ⟨_, rfl, r, rx, _, rfl, r1, noW, _, rfl, a, _, _, _, rfl, rfl, SqT.of ha, at1, _, rfl, m, _, dx, _, _, rfl, hm, T.cl_Machine, T.n_Machine_boxes, machF_boxes _ _ _ _, ?_⟩
    refine ⟨r, d, R, N, e, u, L.B, k, rfl, hR, ok, he, hdep, hB, hBr, hN, fun H1 e1 hR1 => ?_⟩
    have hl1 := e1.k _ _ hl (by simpa using nlr)
    have q1 := q H1 (up3 e1) hR1
    refine ⟨rfl, _, rfl, ?_⟩
    by_cases c : termW R L.B e = 0
    · have es : stepM R L (.iff e j) = ⟨L.at_ + 1, L.B, L.said⟩ := if_neg (fun z => z c)
      rw [es] at q1
      rw [decide_eq_true (show V.int (termW R L.B e) = V.int 0 by rw [c])]
      exact ⟨_, rfl, _, _, rfl, rfl, q1 ((hB.step e1 (by simpa using ndr)).le (Nat.le_succ _)) hl1⟩
    · have es : stepM R L (.iff e j) = ⟨j, L.B, L.said⟩ := if_pos c
      rw [es] at q1
      rw [decide_eq_false (show ¬ V.int (termW R L.B e) = V.int 0 from fun z => c (V.int.inj z))]
      exact ⟨_, rfl, a, _, _, _, rfl, rfl, SqT.of (e1.t _ _ ha), at2, q1 ((hB.step e1 (by simpa using ndr)).le (Nat.le_succ _)) hl1⟩

/-! ### a round's numbers told -/
theorem RoundAt.re {CR CG : Addr} {N N' : Addr → Prop} {H : Hp} {r : Addr} {R : RoundV} (h : RoundAt CR CG N H r R) (hn : ∀ z, N z → H z ≠ none → N' z) : RoundAt CR CG N' H r R := by
  obtain ⟨dx, g, t, tr, h1, ⟨h2, h2'⟩, ⟨h3, h3'⟩, h4⟩ := h
  refine ⟨dx, g, t, tr, h1, ⟨h2, fun dx a b e hh => hn _ (h2' _ _ _ _ hh) ?_⟩, ⟨h3, hn _ h3' (by rw [h3]; simp)⟩, ?_⟩
  · rw [(h2.deg_of hh).1]; simp
  · rcases h4 with h4 | ⟨z, h4, hz, h5⟩
    · exact .inl h4
    · exact .inr ⟨z, h4, hn _ hz (by rw [h5]; simp), h5⟩
theorem putB_rng {p : Int} {B : Str → Int} (hB : ∀ x, 0 ≤ B x ∧ B x < p) {x : Str} {v : Int} (hv : 0 ≤ v ∧ v < p) : ∀ y, 0 ≤ putB B x v y ∧ putB B x v y < p := fun y => by
  unfold putB
  split
  · exact hv
  · exact hB y
theorem stepM_rng {R : RoundV} (ok : R.Ok) {L : Loc} (hB : ∀ x, 0 ≤ L.B x ∧ L.B x < R.G.p) (row : Row) : ∀ x, 0 ≤ (stepM R L row).B x ∧ (stepM R L row).B x < R.G.p := by
  cases row with
  | fin => exact hB
  | go k => exact hB
  | set x e => exact putB_rng hB (termW_rng ok hB e)
  | say e => exact hB
  | iff e k =>
    unfold stepM
    simp only
    split
    · exact hB
    · exact hB
theorem stepM_said {R : RoundV} (L : Loc) (row : Row) : (stepM R L row).said.length ≤ L.said.length + 1 := by
  cases row with
  | fin => exact Nat.le_succ _
  | go k => exact Nat.le_succ _
  | set x e => exact Nat.le_succ _
  | say e => show (L.said ++ [_]).length ≤ _; rw [List.length_append]; exact Nat.le_refl _
  | iff e k =>
    unfold stepM
    simp only
    split
    · exact Nat.le_succ _
    · exact Nat.le_succ _
theorem runM_rng {R : RoundV} (ok : R.Ok) {rows : List Row} : ∀ (n : Nat) {L : Loc}, (∀ x, 0 ≤ L.B x ∧ L.B x < R.G.p) → ∀ x, 0 ≤ (runM R rows n L).B x ∧ (runM R rows n L).B x < R.G.p
  | 0, _, h => h
  | n + 1, L, h => by
    unfold runM
    split
    · exact runM_rng ok n (stepM_rng ok h _)
    · exact h
theorem runM_said {R : RoundV} {rows : List Row} : ∀ (n : Nat) {L : Loc}, (L.said.length : Int) ≤ R.many → ((runM R rows n L).said.length : Int) ≤ R.many
  | 0, _, h => h
  | n + 1, L, h => by
    unfold runM
    split
    · rename_i c
      refine runM_said n ?_
      have := stepM_said (R := R) L (rows.getD L.at_.toNat .fin)
      omega
    · exact h
def endM (R : RoundV) (rows : List Row) (B : Str → Int) : Loc := runM R rows 200 ⟨0, B, []⟩
def toldM (R : RoundV) (rows : List Row) (B : Str → Int) : List Int := (endM R rows B).said ++ List.replicate (R.many - ((endM R rows B).said.length : Int)).toNat 0
theorem toldM_len {R : RoundV} (h : 0 ≤ R.many) (rows : List Row) (B : Str → Int) : ((toldM R rows B).length : Int) = R.many := by
  have := runM_said (R := R) (rows := rows) 200 (L := ⟨0, B, []⟩) h
  unfold toldM endM
  rw [List.length_append, List.length_replicate]
  omega
theorem GameAt.ne_mach {C CM : Addr} {H : Hp} {g m : Addr} {G : GameV} {dx a b e : Addr} {n : Int} (h : GameAt C H g G) (hm : H m = some (.ins CM dx (machF a b e n))) : g ≠ m := fun z => by
  obtain ⟨gx, a1, a2, a3, us, g1, _⟩ := h
  rw [z, hm] at g1
  have := congrArg (fun l : List (Str × V) => l.lookup ("switches" : Str)) (HO.ins.inj (Option.some.inj g1)).2.2
  simp only [machF_no _ _ _ _ (show ¬ ("switches" : Str) = "game" by decide +kernel) (show ¬ ("switches" : Str) = "helper" by decide +kernel) (show ¬ ("switches" : Str) = "boxes" by decide +kernel) (show ¬ ("switches" : Str) = "rounds" by decide +kernel)] at this
  unfold gameF at this
  cases this
theorem rep_one (n : Nat) (v : V) : (List.replicate n [v]).flatten = List.replicate n v := by
  induction n with
  | zero => rfl
  | succ k ih => rw [List.replicate_succ, List.flatten_cons, ih]; rfl
/-- the game stands, a machine's own two parts are written -/
def spSay (T : Tx K mg) (n : Nat) : Sp := fun vs H Q _ => ∃ (m d c : Addr) (M : MachV) (R : RoundV) (k : Nat), vs = [.ref m, .int R.many, .int R.held, .int R.s, .ref c] ∧ MachAt T.C_Machine T.C_Game H m d M k ∧ k ≤ 900000 ∧ R.G = M.G ∧ R.number = M.rounds ∧ R.Ok ∧ R.many ≤ 5000 ∧
  M.rows.length ≤ 1000 ∧ (∀ r ∈ M.rows, r.dep n) ∧ (∀ x, 0 ≤ M.B x ∧ M.B x < R.G.p) ∧ H c = some (.lst (R.tossed.map V.int)) ∧ R.number ≤ 100000 ∧
  ∀ p H', H p = none → Stp [m, d] H H' → MachAt T.C_Machine T.C_Game H' m d ⟨M.G, M.rows, (endM R M.rows M.B).B, M.rounds + 1⟩ (k + 200) → H' p = some (.lst ((toldM R M.rows M.B).map V.int)) → (∀ N p, GN T.C_Machine T.C_Game N p H m → GN T.C_Machine T.C_Game N p H' m) → Q (.ref p) H'
theorem ok_Machine_say (T : Tx K mg) (n : Nat) : FnOk P w K mg base CX0 (n + 34) T.f_Machine_say T.d_Machine_say ["self", "many", "due", "s", "coins"] (spSay T n) := by
  refine T.F_Machine_say.ok sc_Machine_say (fun vs H Q E h => ?_) (fun cdv A outer s H vs Q E hr h => ?_)
  · obtain ⟨m, d, c, M, R, k, rfl, _⟩ := h
    rfl
  obtain ⟨m, d, c, M, R, k, rfl, hM, hk, eG, eN, ok, many, hrl, hdep, hB, hc, hnum, q⟩ := h
  have hu := hu_of hr
  refine ⟨_, (pss_cons (ps_set (i := 5) sc_Machine_say.nd rfl (.inl rfl) (pe_make T.mk_Round (ok_Round___init__ T) (hr.mono (by omega)) (by rfl) T.gC_Round T.b_Round___init__ .nil pass0 (pa_cons (k_fld (K := K) (pv 0) (by rfl)) (pa_cons (k_fld (K := K) (pv 0) (by rfl)) (pa_cons (pv 1) (pa_cons (pv 2) (pa_cons (pv 3) (pa_cons (pv 4) pa_nil))))))))
      (pss_cons (ps_set (i := 6) sc_Machine_say.nd rfl (.inl rfl) (pe_lst pa_nil))
      (pss_cons (ps_set (i := 7) sc_Machine_say.nd rfl (.inl rfl) pe_int)
      (pss_cons (ps_set (i := 8) sc_Machine_say.nd rfl (.inl rfl) pe_int)
      (pss_cons (ps_while PassesOwn.never (PW.pt (pw_and (pt_chain op_le op_lt pe_int (pv 7) (pe_callB (k_len (K := K)) (by rfl) T.z_len (by decide +kernel) (pa_cons (k_fld (K := K) (pv 0) (by rfl)) pa_nil))) (pw_and (pt_cmpR op_lt (pe_callB (k_len (K := K)) (by rfl) T.z_len (by decide +kernel) (pa_cons (pv 6) pa_nil)) (pv 1) (nomark _)) (pw_and1 (pt_cmpR op_lt (pv 8) (pe_glob (v := .int 200) (by rfl) T.c_MOST_STEPS.choose_spec ⟨_, rfl⟩) (nomark _))))))
      (pss_cons (ps_set (i := 9) sc_Machine_say.nd rfl (.inl rfl) (pe_ix (k_ix_tup (K := K)) (k_fld (K := K) (pv 0) (by rfl)) (pv 7) (fun _ _ => rfl)))
      (pss_cons (ps_set (i := 8) sc_Machine_say.nd rfl (.inl rfl) (pe_op op_add (pv 8) pe_int))
      (pss_one (ps_set (i := 7) sc_Machine_say.nd rfl (.inl rfl) (pe_meth (pv 0) T.cl_Machine T.m_Machine_step (ok_Machine_step T n) (hr.mono (by omega)) T.b_Machine_step .nil pass0 (pa_cons (pv 5) (pa_cons (pv 9) (pa_cons (pv 7) (pa_cons (pv 6) pa_nil))))))))))
      (pss_cons (ks_fld (K := K) (pv 0) (pe_op op_add (k_fld (K := K) (pv 0) (by rfl)) pe_int) (by rfl))
      (pss_one (ps_ret (pe_op op_cat (pv 6) (pe_op op_rep (pe_lst (pa_cons pe_int pa_nil)) (pe_op op_sub (pv 1) (pe_callB (k_len (K := K)) (by rfl) T.z_len (by decide +kernel) (pa_cons (pv 6) pa_nil))))))))))))), ?_⟩
  obtain ⟨dx, g, h, us, m1, m2, m3, m4, m5⟩ := id hM
  obtain ⟨kvs, b1, b2, b3⟩ := id m5
  have ul : us.length = M.rows.length := AllP.len m4
  have ndm : d ≠ m := fun z => by rw [z, m1] at b1; cases b1
  have fm : ∀ {H' : Hp} {n0 : Int}, H' m = some (.ins T.C_Machine dx (machF g h d n0)) → ∀ {x : Str} {v : V}, (machF g h d n0).lookup x = some v → _ := fun h1 _ _ h2 => And.intro h1 h2
  -- now = Round(..)
  refine ⟨_, rfl, m, _, dx, _, _, rfl, m1, T.cl_Machine, T.n_Machine_game, machF_game _ _ _ _, _, rfl, m, _, dx, _, _, rfl, m1, T.cl_Machine, T.n_Machine_rounds, machF_rounds _ _ _ _, _, rfl, _, rfl, _, rfl, _, rfl, ?_⟩
  intro r rx hr0 hrx nrx
  have e0 : Stp [] H (upd (upd H rx (.own r)) r (.ins T.C_Round rx [])) := (Stp.new hrx).trans (Stp.new (by rw [upd_ne nrx.symm]; exact hr0))
  have nr : ∀ {x o}, H x = some o → x ≠ r := fun hx z => by rw [z, hr0] at hx; cases hx
  refine ⟨r, rx, g, c, R, fun z => z ≠ d, by rw [eN]; rfl, upd_same, by rw [eG]; exact m2.step0 e0, e0.k _ _ hc (by simp), by have := ok.tl; omega, fun z hz hd => ?_, fun dx a b e hh => ?_, fun H1 e1 hR1 => ⟨rfl, ?_⟩⟩
  · rw [hd, e0.k _ _ b1 (by simp)] at hz; cases hz
  · intro z
    rw [eG] at hh
    have := ((m2.step0 e0).deg_of hh).1
    rw [z, e0.k _ _ b1 (by simp)] at this
    cases this
  -- said = []
  refine ⟨Nat.zero_le _, fun l hl => ?_⟩
  have e01 : Stp [] H H1 := (e0.nil.trans e1).drop hr0
  have nl : ∀ {x o}, H1 x = some o → x ≠ l := fun hx z => by rw [z, hl] at hx; cases hx
  obtain ⟨rdx, rfs, rH1⟩ : ∃ a b, H1 r = some (.ins T.C_Round a b) := by
    obtain ⟨a, b, c, d, h, _⟩ := hR1
    exact ⟨_, _, h⟩
  have e2 : Stp [] H1 (upd H1 l (.lst [])) := Stp.new hl
  have e02 := e01.trans e2
  have hR2 := (hR1.re (N' := fun z => z ≠ l ∧ z ≠ d) (fun z hz hh => ⟨fun e => hh (by rw [e]; exact hl), hz⟩)).step0 e2
  have nlr : l ≠ r := fun z => by rw [z, rH1] at hl; cases hl
  have ndr : d ≠ r := nr b1
  have nmr : m ≠ r := nr m1
  have nld : l ≠ d := (nl (e01.k _ _ b1 (by simp))).symm
  have nml : m ≠ l := nl (e01.k _ _ m1 (by simp))
  have nmrdl : m ∉ [r, d, l] := by simp [nmr, ndm.symm, nml]
  have hB2 : BoxAt (upd H1 l (.lst [])) d M.B k := m5.step e02 (by simp)
  have m12 := e02.k _ _ m1 (by simp)
  have m22 := m2.step0 e02
  have m32 := e02.t _ _ m3
  have m42 : RowsAt (upd H1 l (.lst [])) M.rows us := AllP.mono (fun r v => RowAt.step e02 r v) m4
  have hl2 : upd H1 l (.lst []) l = some (.lst (([] : List Int).map V.int)) := upd_same
  generalize upd H1 l (.lst []) = H3 at e2 e02 hR2 hB2 m12 m22 m32 m42 hl2
  refine ⟨fun j σ H' => ∃ (i : Nat) (L : Loc) (z : Option V), i ≤ 200 ∧ j = 200 - i ∧ σ = [some (.ref m), some (.int R.many), some (.int R.held), some (.int R.s), some (.ref c), some (.ref r), some (.ref l), some (.int L.at_), some (.int i), z] ∧
      Stp [r, d, l] H3 H' ∧ RoundAt T.C_Round T.C_Game (fun z => z ≠ l ∧ z ≠ d) H' r R ∧ BoxAt H' d L.B (k + i) ∧ H' l = some (.lst (L.said.map V.int)) ∧ (∀ x, 0 ≤ L.B x ∧ L.B x < R.G.p) ∧ L.said.length ≤ i ∧ runM R M.rows (200 - i) L = endM R M.rows M.B,
    ⟨200, 0, ⟨0, M.B, []⟩, none, by omega, rfl, rfl, .refl, hR2, hB2, hl2, hB, Nat.le_refl _, rfl⟩, fun j σ H' hW => ?_⟩
  obtain ⟨i, L, z, hi, rfl, rfl, e3, hR3, hB3, hl3, hBr, hsl, hrun⟩ := hW
  have m13 := e3.k _ _ m12 nmrdl
  have m33 := e3.t _ _ m32
  have stop : ¬ (0 ≤ L.at_ ∧ L.at_ < (M.rows.length : Int) ∧ (L.said.length : Int) < R.many ∧ i < 200) → endM R M.rows M.B = L := fun c => by
    rw [← hrun]
    by_cases c2 : i < 200
    · obtain ⟨y, hy⟩ : ∃ y, 200 - i = y + 1 := ⟨199 - i, by omega⟩
      rw [hy]
      unfold runM
      rw [if_neg (fun z => c ⟨z.1, z.2.1, z.2.2, c2⟩)]
    · have : 200 - i = 0 := by omega
      rw [this]; rfl
  have fin : endM R M.rows M.B = L → (tSeq (sFld K (tVar 0) (tOp (rI0 fun i j => V.int (i + j)) (tFld K (tVar 0) "rounds") (tC (V.int 1))) "rounds")
      (tRet (tOp rCat (tVar 6) (tOp rRep (tLst (tCons (tC (V.int 0)) tNil)) (tOp (rI0 fun i j => V.int (i - j)) (tVar 1) (tCB (rLenK K) (tCons (tVar 6) tNil))))))) { nx := fun x H' => Q V.non H', rt := Q } [some (.ref m), some (.int R.many), some (.int R.held), some (.int R.s), some (.ref c), some (.ref r), some (.ref l), some (.int L.at_), some (.int i), z] H' := fun ee => by
    refine ⟨_, rfl, m, _, dx, _, _, rfl, m13, T.cl_Machine, T.n_Machine_rounds, machF_rounds _ _ _ _, _, _, rfl, rfl, ?_⟩
    refine ⟨_, rfl, m, _, dx, _, rfl, m13, T.cl_Machine, T.n_Machine_rounds, (by show 4 < 1000; decide), ?_⟩
    rw [machF_put]
    have e4 : Stp [m] H' (upd H' m (.ins T.C_Machine dx (machF g h d (M.rounds + 1)))) := Stp.wrI m13 (by simp)
    refine ⟨_, rfl, Nat.le_of_lt (small1000 (by show 1 ≤ 1000; decide)), fun z1 hz1 => ?_⟩
    have e5 := e4.trans (Stp.new (l := [m]) (o := .lst [.int 0]) hz1)
    refine ⟨_, rfl, _, rfl, l, _, rfl, .inl (SqL.of (e5.k _ _ hl3 (by simpa using nml.symm))), _, _, rfl, rfl, ?_⟩
    rw [List.length_map]
    have m0 := ok.m0.1
    refine ⟨z1, _, _, rfl, rfl, upd_same, by omega, by omega, ?_, fun z2 hz2 => ?_⟩
    · show 1 * _ ≤ _
      exact smallL (by omega)
    have e6 := e5.trans (Stp.new (l := [m]) (o := .lst ((List.replicate (R.many - (L.said.length : Int)).toNat [V.int 0]).flatten)) hz2)
    refine ⟨l, z2, _, _, rfl, rfl, e6.k _ _ hl3 (by simpa using nml.symm), upd_same, ?_, fun p hp => ?_⟩
    · rw [rep_one, List.length_map, List.length_replicate]
      exact smallL (by omega)
    have e7 := e6.trans (Stp.new (l := [m]) (o := .lst (L.said.map V.int ++ (List.replicate (R.many - (L.said.length : Int)).toNat [V.int 0]).flatten)) hp)
    have eAll : Stp [m, d] H _ := ((((e02.nil (m := [r, d, l])).trans e3).mono (m := [r, l, m, d]) (by simp)).trans (e7.mono (m := [r, l, m, d]) (by simp))).drop hr0 |>.drop (by
      have := e01.free hl (by simp)
      exact this)
    have eX : Stp [] (upd H' m (.ins T.C_Machine dx (machF g h d (M.rounds + 1)))) _ := (Stp.new (o := .lst [.int 0]) hz1).trans (Stp.new (o := .lst ((List.replicate (R.many - (L.said.length : Int)).toNat [V.int 0]).flatten)) hz2)
    have pn : ∀ {x o}, upd H' m (.ins T.C_Machine dx (machF g h d (M.rounds + 1))) x = some o → ¬ p = x := fun hx e => by rw [e, eX.k _ _ hx (by simp)] at hp; cases hp
    have em : upd H' m (.ins T.C_Machine dx (machF g h d (M.rounds + 1))) m = some (.ins T.C_Machine dx (machF g h d (M.rounds + 1))) := upd_same
    have hBm : BoxAt (upd H' m (.ins T.C_Machine dx (machF g h d (M.rounds + 1)))) d L.B (k + i) := hB3.step (Stp.wrI (l := [m]) m13 (by simp)) (by simpa using ndm)
    have er : ∃ o, upd H' m (.ins T.C_Machine dx (machF g h d (M.rounds + 1))) r = some o := by
      obtain ⟨a, b, c, d, h, _⟩ := hR3
      exact ⟨_, by rw [upd_ne nmr.symm]; exact h⟩
    obtain ⟨ro, er⟩ := er
    have eXp := eX.trans (Stp.new (l := []) (o := .lst (L.said.map V.int ++ (List.replicate (R.many - (L.said.length : Int)).toNat [V.int 0]).flatten)) hp)
    have pl : ¬ p = l := pn (by rw [upd_ne nml.symm]; exact hl3)
    have pd : ¬ p = d := by obtain ⟨kv, b, _⟩ := hBm; exact pn b
    have ePre : Stp [r, l, m, d] H _ := ((e02.nil (m := [r, d, l])).trans e3).mono (m := [r, l, m, d]) (by simp) |>.trans (e6.mono (m := [r, l, m, d]) (by simp))
    have hpH : H p = none := ePre.free hp (by simp [pn er, pl, pn em, pd])
    have ngm : g ≠ m := fun e => by
      obtain ⟨gx, a1, a2, a3, us, g1, _⟩ := m2
      rw [e, m1] at g1
      have := congrArg (fun l : List (Str × V) => l.lookup ("switches" : Str)) (HO.ins.inj (Option.some.inj g1)).2.2
      simp only [machF_no _ _ _ _ (show ¬ ("switches" : Str) = "game" by decide +kernel) (show ¬ ("switches" : Str) = "helper" by decide +kernel) (show ¬ ("switches" : Str) = "boxes" by decide +kernel) (show ¬ ("switches" : Str) = "rounds" by decide +kernel)] at this
      unfold gameF at this
      cases this
    have ngd : g ≠ d := fun e => by
      obtain ⟨gx, a1, a2, a3, us, g1, _⟩ := m2
      rw [e, b1] at g1; cases g1
    refine q p _ hpH eAll ⟨dx, g, h, us, eXp.k _ _ em (by simp), m2.stepI eAll (by simp [ngm, ngd]) (fun x hx ys hh => ?_), eAll.t _ _ m3, AllP.mono (fun r v => RowAt.step eAll r v) m4, ?_⟩ ?_ ?_
    · have : x = m ∨ x = d := by simpa using hx
      rcases this with rfl | rfl
      · rw [m1] at hh; cases hh
      · rw [b1] at hh; cases hh
    · show BoxAt _ d (endM R M.rows M.B).B _
      rw [ee]
      exact (hBm.step eXp (by simp)).le (by omega)
    · rw [upd_same, rep_one]
      unfold toldM
      rw [ee, List.map_append, List.map_replicate]
    · intro N p0 hN
      obtain ⟨gx, a1, a2, a3, gus, g1, _⟩ := id m2
      exact hN.of m1 (eXp.k _ _ em (by simp)) g1 (eAll.k _ _ g1 (by simp [ngm, ngd]))
  refine ⟨_, rfl, _, _, rfl, rfl, _, rfl, ?_⟩
  by_cases c1 : 0 ≤ L.at_
  · rw [decide_eq_true c1]
    refine ⟨_, rfl, m, _, dx, _, _, rfl, m13, T.cl_Machine, T.n_Machine_helper, machF_helper _ _ _ _, h, us, rfl, .inr (SqT.of m33), _, _, rfl, rfl, _, rfl, ?_⟩
    rw [ul]
    by_cases c2 : L.at_ < (M.rows.length : Int)
    · rw [decide_eq_true c2]
      refine ⟨_, rfl, l, _, rfl, .inl (SqL.of hl3), _, rfl, _, _, rfl, rfl, _, rfl, ?_⟩
      rw [List.length_map]
      by_cases c3 : (L.said.length : Int) < R.many
      · rw [decide_eq_true c3]
        refine ⟨_, rfl, _, _, rfl, rfl, _, rfl, ?_⟩
        by_cases c4 : i < 200
        · rw [decide_eq_true (show (i : Int) < 200 by omega)]
          have hat : L.at_.toNat < M.rows.length := by omega
          have erow : M.rows[L.at_.toNat]? = some (M.rows.getD L.at_.toNat .fin) := by rw [List.getD_eq_getElem?_getD, List.getElem?_eq_getElem hat]; rfl
          obtain ⟨v, hv, hrow⟩ := AllP.get' m42 erow
          have hin : M.rows.getD L.at_.toNat .fin ∈ M.rows := List.mem_of_getElem? erow
          generalize hrw : M.rows.getD L.at_.toNat .fin = row at erow hrow hin
          have hnext : runM R M.rows (200 - (i + 1)) (stepM R L row) = endM R M.rows M.B := by
            rw [← hrun]
            have : 200 - i = (200 - (i + 1)) + 1 := by omega
            rw [this]
            show _ = runM R M.rows ((200 - (i + 1)) + 1) L
            rw [runM, if_pos ⟨c1, c2, c3⟩, hrw]
          have hf3 : ∀ z, H' z = none → z ≠ l ∧ z ≠ d := fun z hz => ⟨fun e => by (rw [e, hl3] at hz; cases hz), fun e => by
            obtain ⟨kv, b, _⟩ := hB3
            rw [e, b] at hz; cases hz⟩
          refine ⟨fun σ2 H2 => ∃ zz, σ2 = [some (.ref m), some (.int R.many), some (.int R.held), some (.int R.s), some (.ref c), some (.ref r), some (.ref l), some (.int (stepM R L row).at_), some (.int ((i + 1 : Nat) : Int)), zz] ∧
            Stp [r, d, l] H3 H2 ∧ RoundAt T.C_Round T.C_Game (fun z => z ≠ l ∧ z ≠ d) H2 r R ∧ BoxAt H2 d (stepM R L row).B (k + (i + 1)) ∧ H2 l = some (.lst ((stepM R L row).said.map V.int)),
            fun σ2 H2 ⟨zz, f1, f2, f3, f4, f5⟩ => ⟨200 - (i + 1), by omega, i + 1, stepM R L row, zz, by omega, rfl, f1, f2, f3, f4, f5, stepM_rng ok hBr row, by have := stepM_said (R := R) L row; omega, hnext⟩, ?_⟩
          refine ⟨_, rfl, m, _, dx, _, _, rfl, m13, T.cl_Machine, T.n_Machine_helper, machF_helper _ _ _ _, _, rfl, h, us, _, v, rfl, rfl, SqT.of m33, at_of (j := L.at_.toNat) (by omega) hv, ?_⟩
          refine ⟨_, rfl, _, _, rfl, rfl, ?_⟩
          refine ⟨_, rfl, m, dx, _, rfl, m13, machF_no _ _ _ _ (by decide +kernel) (by decide +kernel) (by decide +kernel) (by decide +kernel), _, rfl, _, rfl, _, rfl, _, rfl, ?_⟩
          refine ⟨m, d, r, l, v, R, _, row, dx, g, h, M.rounds, k + i, L, rfl, m13, hB3, by omega, hR3, ok, RowAt.step e3 row v hrow, hdep row hin, hBr, hl3, by omega, hf3, fun z => z.1 rfl, fun z => z.2 rfl, fun H4 e4 hR4 hB4 hl4 => ?_⟩
          exact ⟨_, by simp only [List.set]; rfl, e3.trans e4, hR4, hB4, hl4⟩
        · rw [decide_eq_false (show ¬ (i : Int) < 200 by omega)]
          exact fin (stop fun z => c4 z.2.2.2)
      · rw [decide_eq_false c3]
        exact fin (stop fun z => c3 z.2.2.1)
    · rw [decide_eq_false c2]
      exact fin (stop fun z => c2 z.2.1)
  · rw [decide_eq_false c1]
    exact ⟨_, rfl, fin (stop fun z => c1 z.1)⟩

/-! ### another machine that goes on by itself -/
def spTwin (T : Tx K mg) : Sp := fun vs H Q _ => ∃ (m d : Addr) (M : MachV) (k : Nat), vs = [.ref m] ∧ MachAt T.C_Machine T.C_Game H m d M k ∧
  ∀ m2 d2 H', H m2 = none → H d2 = none → Stp [] H H' → MachAt T.C_Machine T.C_Game H' m2 d2 M k → (∀ N p, GN T.C_Machine T.C_Game N p H m → GN T.C_Machine T.C_Game N p H' m2) → Q (.ref m2) H'
theorem ok_Machine_twin (T : Tx K mg) : FnOk P w K mg base CX0 3 T.f_Machine_twin T.d_Machine_twin ["self"] (spTwin T) := by
  refine T.F_Machine_twin.ok sc_Machine_twin (fun vs H Q E h => ?_) (fun cdv A outer s H vs Q E hr h => ?_)
  · obtain ⟨m, d, M, k, rfl, _⟩ := h
    rfl
  obtain ⟨m, d, M, k, rfl, hM, q⟩ := h
  have hu := hu_of hr
  refine ⟨_, (pss_cons (ps_set (i := 1) sc_Machine_twin.nd rfl (.inl rfl) (pe_make T.mk_Machine (ok_Machine___init__ T) (hr.mono (by omega)) (by rfl) T.gC_Machine T.b_Machine___init__ .nil pass0 (pa_cons (k_fld (K := K) (pv 0) (by rfl)) (pa_cons (k_fld (K := K) (pv 0) (by rfl)) pa_nil))))
      (pss_cons (ks_fld (K := K) (pv 1) (pe_callTy call_dictD (by rfl) T.z_dict (by decide +kernel) (pa_cons (k_fld (K := K) (pv 0) (by rfl)) pa_nil)) (by rfl))
      (pss_cons (ks_fld (K := K) (pv 1) (k_fld (K := K) (pv 0) (by rfl)) (by rfl))
      (pss_one (ps_ret (pv 1)))))), ?_⟩
  obtain ⟨dx, g, h, us, m1, m2, m3, m4, kvs, b1, b2, b3⟩ := id hM
  refine ⟨_, rfl, m, _, dx, _, _, rfl, m1, T.cl_Machine, T.n_Machine_game, machF_game _ _ _ _, _, rfl, m, _, dx, _, _, rfl, m1, T.cl_Machine, T.n_Machine_helper, machF_helper _ _ _ _, ?_⟩
  intro r rx hr0 hrx nrx
  have e0 : Stp [] H (upd (upd H rx (.own r)) r (.ins T.C_Machine rx [])) := (Stp.new hrx).trans (Stp.new (by rw [upd_ne nrx.symm]; exact hr0))
  refine ⟨r, rx, g, h, M.G, M.rows, us, rfl, upd_same, m2.step0 e0, e0.t _ _ m3, AllP.mono (fun r v => RowAt.step e0 r v) m4, fun d1 H1 hd1 nd1 e1 hM1 ⟨odx, oh, og⟩ => ⟨rfl, ?_⟩⟩
  obtain ⟨ox, g1, h1, us1, o1, o2, o3, o4, o5⟩ := hM1
  have e01 : Stp [] H H1 := (e0.nil.trans e1).drop hr0
  have b11 := e01.k _ _ b1 (by simp)
  have m11 := e01.k _ _ m1 (by simp)
  refine ⟨_, rfl, m, _, dx, _, _, rfl, m11, T.cl_Machine, T.n_Machine_boxes, machF_boxes _ _ _ _, d, kvs, rfl, .inl b11, fun d2 hd2 => ?_⟩
  have nrd2 : r ≠ d2 := fun z => by rw [← z, o1] at hd2; cases hd2
  have e2 : Stp [] H1 (upd H1 d2 (.dK kvs)) := Stp.new hd2
  refine ⟨_, rfl, r, _, ox, _, rfl, e2.k _ _ o1 (by simp), T.cl_Machine, T.n_Machine_boxes, (by show 4 < 1000; decide), ?_⟩
  rw [machF_putB]
  have e3 : Stp [r] (upd H1 d2 (.dK kvs)) (upd (upd H1 d2 (.dK kvs)) r (.ins T.C_Machine ox (machF g1 h1 d2 0))) := Stp.wrI (e2.k _ _ o1 (by simp)) (by simp)
  have mr : m ≠ r := fun z => by rw [z, hr0] at m1; cases m1
  refine ⟨_, rfl, m, _, dx, _, _, rfl, e3.k _ _ (e2.k _ _ m11 (by simp)) (by simpa using mr), T.cl_Machine, T.n_Machine_rounds, machF_rounds _ _ _ _, _, rfl, r, _, ox, _, rfl, upd_same, T.cl_Machine, T.n_Machine_rounds, (by show 4 < 1000; decide), ?_⟩
  rw [upd_upd, machF_put]
  have e3' : Stp [r] (upd H1 d2 (.dK kvs)) (upd (upd H1 d2 (.dK kvs)) r (.ins T.C_Machine ox (machF g1 h1 d2 M.rounds))) := Stp.wrI (e2.k _ _ o1 (by simp)) (by simp)
  have e13 := e2.nil.trans e3'
  have ngr := o2.ne_mach o1
  refine ⟨_, rfl, q r d2 _ hr0 (e01.free hd2 (by simp)) ((e01.nil.trans e13).drop hr0) ⟨ox, g1, h1, us1, upd_same, o2.stepI e13 (by simpa using ngr) (fun x hx ys hh => ?_), e13.t _ _ o3, AllP.mono (fun r v => RowAt.step e13 r v) o4, kvs, ?_, b2, b3⟩ fun N p hN => ?_⟩
  · have : x = r := by simpa using hx
    rw [this, o1] at hh; cases hh
  · rw [upd_ne nrd2.symm]; exact upd_same
  · obtain ⟨gx, a1, a2, a3, gus, gg1, _⟩ := id o2
    have eg := machF_inj (HO.ins.inj (Option.some.inj (o1.symm.trans og))).2.2
    obtain ⟨gx', a1', a2', a3', gus', gg2, _⟩ := id m2
    subst eg
    exact hN.of m1 (upd_same (H := upd H1 d2 (.dK kvs)) (a := r) (o := .ins T.C_Machine ox (machF g1 h1 d2 M.rounds))) gg2 (e13.k _ _ (e01.k _ _ gg2 (by simp)) (by simpa using ngr))

/-! ### names -/
def consL : List Nat := [98, 99, 100, 102, 103, 104, 106, 107, 108, 109, 110, 112, 113, 114, 115, 116, 118, 119, 120, 122]
theorem cons_tl : (("bcdfghjklmnpqrstvwxz" : Str)).cps.toList = consL := by decide +kernel
def oddWords : List Str := ["is", "set", "say", "if", "go", "end", "num", "box", "op", "field", "holds", "claims", "nota", "nob", "yesx", "andy", "ors", "oddly", "samey", "rounds", "dues", "coins", "truex", "asks"]
def NameIn (x : Str) : Prop := (1 ≤ (TL.tl x).length ∧ (TL.tl x).length ≤ 8 ∧ ∀ c ∈ TL.tl x, c ∈ consL) ∨ x ∈ oddWords
theorem at_any {α : Type} {xs : List α} {z : Int} {j : Nat} {v : α} (e : z = (j : Int)) (h : xs[j]? = some v) : atI xs z = some v := by
  have hl := lt_of_at h
  subst e
  unfold atI ixN
  rw [if_pos (by omega), if_pos (by omega)]
  exact h
theorem cons_at {i : Int} (h0 : 0 ≤ i) (h1 : i < 20) : ∃ c, atI (("bcdfghjklmnpqrstvwxz" : Str)).cps.toList i = some c ∧ consL[i.toNat]? = some c := by
  rw [cons_tl]
  have hl : consL.length = 20 := rfl
  obtain ⟨c, hc⟩ : ∃ c, consL[i.toNat]? = some c := ⟨_, List.getElem?_eq_getElem (by omega)⟩
  exact ⟨c, at_any (by omega) hc, hc⟩
theorem cons_mem {i : Nat} {c : Nat} (h : consL[i]? = some c) : c ∈ consL := List.mem_of_getElem? h
theorem cons_nodup : consL.Nodup := by decide
theorem joinL_nil : ∀ ps : List (List Nat), TL.joinL [] ps = ps.flatten
  | [] => rfl
  | [p] => by rw [List.flatten_cons]; exact (List.append_nil p).symm
  | p :: q :: r => by
    show p ++ ([] ++ TL.joinL [] (q :: r)) = _
    rw [joinL_nil (q :: r)]; rfl
/-- texts of one sign each -/
abbrev sgn (c : Nat) : Str := ⟨#[c]⟩
theorem tl_sgn (c : Nat) : TL.tl (sgn c) = [c] := rfl
theorem join_sgn (cs : List Nat) : TL.tl (Txt.join ("" : Str) (cs.map sgn)) = cs := by
  rw [TL.join_eq, TL.tl_join]
  have e : TL.tl ("" : Str) = [] := by decide +kernel
  rw [e, joinL_nil]
  induction cs with
  | nil => rfl
  | cons c r ih => rw [List.map_cons, List.map_cons, List.flatten_cons, ih]; rfl
theorem sgn_len (cs : List Nat) : ((cs.map sgn).map (·.length)).sum = cs.length := by
  induction cs with
  | nil => rfl
  | cons c r ih => rw [List.map_cons, List.map_cons, List.sum_cons, ih]; show 1 + r.length = r.length + 1; omega
theorem len_tl (x : Str) : x.length = (TL.tl x).length := (Array.length_toList (xs := x.cps)).symm
theorem cut_to {z : Str} {n : Int} (h0 : 0 ≤ n) : TL.tl (cutS z none (some n)) = (TL.tl z).take n.toNat := by
  have e : n = (n.toNat : Int) := by omega
  rw [e]
  show (((TL.tl z).drop (HT.sIx z.length 0 none)).take (HT.sIx z.length z.length (some (n.toNat : Int)) - HT.sIx z.length 0 none)).toArray.toList = _
  rw [HT.sIx_none, HT.sIx_nat, List.drop_zero, Nat.sub_zero, len_tl]
  show List.take (min n.toNat (TL.tl z).length) (TL.tl z) = _
  rw [Int.toNat_natCast]
  by_cases c : n.toNat ≤ (TL.tl z).length
  · rw [Nat.min_eq_left c]
  · rw [Nat.min_eq_right (by omega), List.take_of_length_le (by omega), List.take_of_length_le (by omega)]
theorem cut_from {z : Str} {a b : Int} (h0 : 0 ≤ a) (h1 : 0 ≤ b) : ∀ c ∈ TL.tl (cutS z (some a) (some b)), c ∈ TL.tl z := fun c hc => List.mem_of_mem_drop (List.mem_of_mem_take hc)
theorem cut_from_len {z : Str} {a b : Int} (h0 : 0 ≤ a) (h1 : a ≤ b) : (TL.tl (cutS z (some a) (some b))).length ≤ (b - a).toNat := by
  have ea : a = (a.toNat : Int) := by omega
  have eb : b = (b.toNat : Int) := by omega
  show (((TL.tl z).drop (HT.sIx z.length 0 (some a))).take (HT.sIx z.length z.length (some b) - HT.sIx z.length 0 (some a))).toArray.toList.length ≤ _
  rw [ea, eb, HT.sIx_nat, HT.sIx_nat]
  show (List.take _ _).length ≤ _
  rw [List.length_take]
  omega
theorem nodup_at {α : Type} {xs : List α} (h : ∀ (i j : Nat) (x : α), i < j → xs[i]? = some x → xs[j]? = some x → False) : xs.Nodup := by
  refine List.pairwise_iff_getElem.mpr fun i j hi hj hij he => h i j xs[j] hij ?_ (List.getElem?_eq_getElem hj)
  rw [List.getElem?_eq_getElem hi]; exact congrArg some he
theorem nodup_set {xs : List Str} {y : Str} (h : xs.Nodup) (hy : y ∉ xs) (j : Nat) : (xs.set j y).Nodup := by
  refine nodup_at fun a b x hab ha hb => ?_
  have hbl := lt_of_at hb
  rw [List.length_set] at hbl
  by_cases ca : j = a
  · subst ca
    rw [List.getElem?_set_self (by omega)] at ha
    rw [List.getElem?_set_ne (by omega)] at hb
    rw [← Option.some.inj ha] at hb
    exact hy (List.mem_of_getElem? hb)
  · rw [List.getElem?_set_ne ca] at ha
    by_cases cb : j = b
    · subst cb
      rw [List.getElem?_set_self (by omega)] at hb
      rw [← Option.some.inj hb] at ha
      exact hy (List.mem_of_getElem? ha)
    · rw [List.getElem?_set_ne cb] at hb
      have := (List.getElem?_inj (by omega) h).mp (ha.trans hb.symm)
      omega
theorem odd_vowel : ∀ x ∈ oddWords, ∃ c ∈ TL.tl x, c ∉ consL := by decide +kernel
theorem odd_len : ∀ x ∈ oddWords, x.length ≤ 8 := by decide +kernel
theorem NameIn.len {x : Str} (h : NameIn x) : x.length ≤ 8 := by
  rcases h with h | h
  · rw [len_tl]; exact h.2.1
  · exact odd_len x h
def spGNames : Sp := fun vs H Q _ => ∃ (f : Addr) (n : Int), vs = [.ref f, .int n] ∧ FeedAt H f ∧ 0 ≤ n ∧ n ≤ 20 ∧
  ∀ p H' (xs : List Str), H p = none → Stp [f] H H' → FeedAt H' f → H' p = some (.lst (xs.map V.str)) → (xs.length : Int) = n → xs.Nodup → (∀ x ∈ xs, NameIn x) → Q (.ref p) H'
theorem ok_law_names (T : Tx K mg) : FnOk P w K mg base CX0 2 T.f_law_names T.d_law_names ["_law_feed_here", "_law_many"] spGNames := by
  refine T.F_law_names.ok sc_law_names (fun vs H Q E h => ?_) (fun cdv A outer s H vs Q E hr h => ?_)
  · obtain ⟨f, n, rfl, _⟩ := h
    rfl
  obtain ⟨f, n, rfl, hF, n0, n1, q⟩ := h
  refine ⟨_, (pss_cons (ps_set (i := 2) sc_law_names.nd rfl (.inr rfl) pe_str)
      (pss_cons (ps_set (i := 4) sc_law_names.nd rfl (.inl rfl) (k_join (K := K) pe_str (pe_lc (own := [("_law_k", 3)]) (g := gName 3) (tt := tYes) (by rfl) sc_law_names.nd (pi_range1 (by rfl) T.z_range (pa_cons pe_int pa_nil)) (blkOk_by (own := [("_law_k", 3)]) (N := ["_law_feed_here", "_law_many", "_law_letters", "_law_k", "_law_common", "_law_at", "_law_first", "_law_found", "_law_tail", "_law_sign", "_law_words"]) (sc := defScope s_law_names) (by decide +kernel)) (fun _ _ _ _ _ => (pg_name (i := 3) sc_law_names.nd (by rfl) (Or.inl (by rfl)))) (fun _ _ _ _ _ => pts_nil) (fun _ _ _ _ _ => by exact (pe_ix ix_str (pv 2) (pe_call (ok_law_take T) (hr.mono (by omega)) (by rfl) T.g_law_take T.F_law_take.kp T.b_law_take .nil pass0 (pa_cons (pv 0) (pa_cons pe_int pa_nil))) (fun _ _ => rfl))))))
      (pss_cons (ps_set (i := 5) sc_law_names.nd rfl (.inl rfl) (pe_call (ok_law_take T) (hr.mono (by omega)) (by rfl) T.g_law_take T.F_law_take.kp T.b_law_take .nil pass0 (pa_cons (pv 0) (pa_cons pe_int pa_nil))))
      (pss_cons (ps_set (i := 6) sc_law_names.nd rfl (.inl rfl) (pe_call (ok_law_take T) (hr.mono (by omega)) (by rfl) T.g_law_take T.F_law_take.kp T.b_law_take .nil pass0 (pa_cons (pv 0) (pa_cons pe_int pa_nil))))
      (pss_cons (ps_set (i := 7) sc_law_names.nd rfl (.inl rfl) (pe_lst pa_nil))
      (pss_cons (ps_for PassesOwn.never rfl (pi_range1 (by rfl) T.z_range (pa_cons (pv 1) pa_nil)) (pg_name (i := 3) sc_law_names.nd (by rfl) (Or.inl (by rfl)))
      (pss_cons (ps_set (i := 8) sc_law_names.nd rfl (.inl rfl) (pe_op op_mod (pe_call (ok_law_take T) (hr.mono (by omega)) (by rfl) T.g_law_take T.F_law_take.kp T.b_law_take .nil pass0 (pa_cons (pv 0) (pa_cons (pe_op op_sub pe_int (pv 5)) pa_nil))) pe_int))
      (pss_cons (ps_set (i := 9) sc_law_names.nd rfl (.inl rfl) (pe_ix ix_str (pv 2) (pe_op op_mod (pe_op op_add (pv 6) (pe_op op_mul pe_int (pv 3))) pe_int) (fun _ _ => rfl)))
      (pss_one (ps_expr (k_bm (K := K) PySem.F.plainAttrs_list PySem.F.slot_list_append PySem.F.type_list_append mt_append (pv 7) (pa_cons (pe_op op_add_str (pe_op op_add_str (pe_slice sl_str (pv 4) po_none (po_some (pv 5))) (pv 9)) (pe_slice sl_str (pv 4) (po_some (pv 5)) (po_some (pe_op op_add (pv 5) (pv 8))))) pa_nil)))))))
      (pss_cons (ps_if (PW.pt (pw_and (pt_cmpR op_gt (pv 1) pe_int (nomark _)) (pw_and1 (pt_cmpR op_eq (pe_call (ok_law_take T) (hr.mono (by omega)) (by rfl) T.g_law_take T.F_law_take.kp T.b_law_take .nil pass0 (pa_cons (pv 0) (pa_cons pe_int pa_nil))) pe_int (nomark _))))) (pss_cons (ps_set (i := 10) sc_law_names.nd rfl (.inl rfl) (pe_lst (pa_cons pe_str (pa_cons pe_str (pa_cons pe_str (pa_cons pe_str (pa_cons pe_str (pa_cons pe_str (pa_cons pe_str (pa_cons pe_str (pa_cons pe_str (pa_cons pe_str (pa_cons pe_str (pa_cons pe_str pa_nil))))))))))))))
      (pss_cons (ps_set (i := 10) sc_law_names.nd rfl (.inl rfl) (pe_op op_cat (pv 10) (pe_lst (pa_cons pe_str (pa_cons pe_str (pa_cons pe_str (pa_cons pe_str (pa_cons pe_str (pa_cons pe_str pa_nil)))))))))
      (pss_cons (ps_set (i := 10) sc_law_names.nd rfl (.inl rfl) (pe_op op_cat (pv 10) (pe_lst (pa_cons pe_str (pa_cons pe_str (pa_cons pe_str (pa_cons pe_str (pa_cons pe_str (pa_cons pe_str pa_nil)))))))))
      (pss_one (ps_asg (pe_ix (k_ix_list (K := K)) (pv 10) (pe_call (ok_law_take T) (hr.mono (by omega)) (by rfl) T.g_law_take T.F_law_take.kp T.b_law_take .nil pass0 (pa_cons (pv 0) (pa_cons pe_int pa_nil))) (fun _ _ => rfl)) (pg_sub (pv 7) (pe_call (ok_law_take T) (hr.mono (by omega)) (by rfl) T.g_law_take T.F_law_take.kp T.b_law_take .nil pass0 (pa_cons (pv 0) (pa_cons (pv 1) pa_nil))) set_list)))))) pss_nil)
      (pss_one (ps_ret (pv 7)))))))))), ?_⟩
  have hu := hu_of hr
  have ltl : (("bcdfghjklmnpqrstvwxz" : Str)).length = 20 := by decide +kernel
  have llen : (("bcdfghjklmnpqrstvwxz" : Str)).length ≤ sizeLine := by rw [ltl]; exact smallL (by decide)
  -- the common part
  refine ⟨⟨_, rfl⟩, _, rfl, by decide, by decide, fun D hD => lc_range (lo := 0) (n := 5) (fun i H' => Stp [f] H H' ∧ FeedAt H' f ∧ ∃ cs : List Nat, cs.length = i ∧ (∀ c ∈ cs, c ∈ consL) ∧ H' D = some (.lst ((cs.map sgn).map V.str))) ⟨Stp.new hD, hF.step0 (Stp.new hD), [], rfl, fun c h => (by cases h), upd_same⟩ ?_ ?_⟩
  · rintro i H1 hi ⟨e1, hF1, cs, cl, hcs, hD1⟩
    refine ⟨rfl, ?_⟩
    refine ⟨_, rfl, _, rfl, f, 20, rfl, hF1, by decide, by decide, fun r H2 e2 hF2 r0 r1 => ?_⟩
    obtain ⟨c, hc, hc2⟩ := cons_at r0 r1
    refine ⟨_, _, c, rfl, rfl, llen, hc, ?_⟩
    have nDf : D ≠ f := hF.ne hD
    have hD2 := e2.k _ _ hD1 (by simpa using nDf)
    refine ⟨_, hD2, ?_, (e1.trans e2).fresh hD, hF2.upd nDf, cs ++ [c], by rw [List.length_append, cl]; rfl, fun x hx => ?_, ?_⟩
    · rw [List.length_map, List.length_map, cl]; exact small1000 (by omega)
    · rcases List.mem_append.mp hx with z | z
      · exact hcs x z
      · have : x = c := by simpa using z
        rw [this]; exact cons_mem hc2
    · rw [upd_same, List.map_append, List.map_append]; rfl
  rintro H1 ⟨e1, hF1, cs, cl, hcs, hD1⟩
  refine ⟨_, _, _, rfl, rfl, .inl (SqL.of hD1), ?_, ?_⟩
  · rw [sgn_len, List.length_map, cl]; decide +kernel
  have tlC : TL.tl (Txt.join ("" : Str) (cs.map sgn)) = cs := join_sgn cs
  generalize Txt.join ("" : Str) (cs.map sgn) = C at tlC
  have lenC : C.length = 5 := by rw [len_tl, tlC]; exact cl
  -- at, first
  refine ⟨_, rfl, f, 6, rfl, hF1, by decide, by decide, fun at_ H2 e2 hF2 at0 at1 => ?_⟩
  refine ⟨_, rfl, f, 20, rfl, hF2, by decide, by decide, fun first H3 e3 hF3 fi0 fi1 => ?_⟩
  have e03 : Stp [f] H H3 := (e1.trans e2).trans e3
  -- found
  refine ⟨Nat.zero_le _, fun F hFn => ?_⟩
  have nF : F ≠ f := hF3.ne hFn
  have FH : H F = none := e03.free hFn (by simpa using nF)
  have e4 : Stp [f] H3 (upd H3 F (.lst [])) := Stp.new hFn
  refine ⟨_, rfl, n, rfl, by omega, by omega, for_range (lo := 0) (n := n.toNat) (fun i σ H' => ∃ (y3 y8 y9 y10 : Option V) (xs : List Str), σ = [some (.ref f), some (.int n), some (.str "bcdfghjklmnpqrstvwxz"), y3, some (.str C), some (.int at_), some (.int first), some (.ref F), y8, y9, y10] ∧
      Stp [f] H H' ∧ FeedAt H' f ∧ H' F = some (.lst (xs.map V.str)) ∧ xs.length = i ∧ ∀ (j : Nat) (x : Str), xs[j]? = some x → ∃ c r, consL[((first + 7 * (j : Int)) % 20).toNat]? = some c ∧ TL.tl x = cs.take at_.toNat ++ c :: r ∧ r.length ≤ 2 ∧ ∀ c ∈ r, c ∈ consL)
    ⟨none, none, none, none, [], rfl, e03.trans e4, hF3.upd nF, upd_same, rfl, fun j x h => (by simp at h)⟩ ?_ ?_⟩
  · rintro i σ H5 hi ⟨y3, y8, y9, y10, xs, rfl, e5, hF5, hF5l, xl, hxs⟩
    refine ⟨_, rfl, _, rfl, _, _, rfl, rfl, f, _, rfl, hF5, by omega, by omega, fun tail H6 e6 hF6 ta0 ta1 => ?_⟩
    have hm := mod_lt' (a := tail) (m := 3) (by decide)
    have hmt : tail % 3 ≤ tail := by omega
    have hi' : (i : Int) < n := by omega
    have hmod := mod_lt' (a := first + 7 * (0 + (i : Int))) (m := 20) (by decide)
    obtain ⟨c, hc, hc2⟩ := cons_at hmod.1 hmod.2
    refine ⟨_, _, rfl, rfl, (by show (0 : Int) < 3; decide), ?_⟩
    refine ⟨_, rfl, _, rfl, _, rfl, _, _, rfl, rfl, .inl ⟨by omega, by omega⟩, _, _, rfl, rfl, _, _, rfl, rfl, (by show (0 : Int) < 20; decide), _, _, c, rfl, rfl, llen, hc, ?_⟩
    have nFf : F ≠ f := nF
    have hF6l := e6.k _ _ hF5l (by simpa using nF)
    have la : at_.toNat ≤ 5 := by omega
    have lenA : (cutS C none (some at_)).length ≤ 5 := by have := cutS_length C none (some at_); omega
    have lenB : (cutS C (some at_) (some (at_ + tail % 3))).length ≤ 5 := by have := cutS_length C (some at_) (some (at_ + tail % 3)); omega
    refine ⟨_, rfl, .inl ⟨rfl, _, SqL.of hF6l⟩, _, rfl, _, rfl, _, rfl, _, rfl, by rw [lenC]; exact smallL (by decide), ?_⟩
    refine ⟨_, rfl, _, _, rfl, rfl, (by rw [show (sgn c).length = 1 from rfl]; exact smallL (by omega)), ?_⟩
    refine ⟨_, rfl, _, rfl, _, rfl, _, rfl, _, rfl, _, _, rfl, rfl, _, rfl, _, rfl, (by rw [lenC]; exact smallL (by decide)), ?_⟩
    have tl1 : TL.tl (cutS C none (some at_) ++ sgn c) = cs.take at_.toNat ++ [c] := by rw [TL.tl_append, cut_to at0, tlC]
    refine ⟨_, _, rfl, rfl, (by rw [len_tl, tl1, List.length_append, List.length_take]; exact smallL (by show min _ _ + 1 + _ ≤ _; omega)), ?_⟩
    refine ⟨F, _, _, rfl, rfl, hF6l, (by rw [List.length_map, xl]; exact smallX (by omega)), ?_⟩
    refine ⟨_, _, _, _, xs ++ [cutS C none (some at_) ++ sgn c ++ cutS C (some at_) (some (at_ + tail % 3))], rfl, (e5.trans e6).fresh FH, hF6.upd nF, ?_, by rw [List.length_append, xl]; rfl, fun j x hj => ?_⟩
    · rw [upd_same, List.map_append]; rfl
    · by_cases hji : j < i
      · rw [List.getElem?_append_left (by omega)] at hj
        exact hxs j x hj
      · have hjl := lt_of_at hj
        rw [List.length_append, xl] at hjl
        have hjl2 : j < i + 1 := hjl
        have ej : j = i := by omega
        subst ej
        rw [List.getElem?_append_right (by omega), xl, Nat.sub_self] at hj
        have ex := Option.some.inj hj
        refine ⟨c, TL.tl (cutS C (some at_) (some (at_ + tail % 3))), ?_, ?_, ?_, fun c hc => ?_⟩
        · rw [Int.zero_add] at hc2; exact hc2
        · rw [← ex, TL.tl_append, tl1, List.append_assoc]; rfl
        · have := cut_from_len (z := C) at0 (show at_ ≤ at_ + tail % 3 by omega)
          omega
        · have := cut_from (z := C) at0 (show 0 ≤ at_ + tail % 3 by omega) c hc
          rw [tlC] at this
          exact hcs c this
  rintro σ H5 ⟨y3, y8, y9, y10, xs, rfl, e5, hF5, hF5l, xl, hxs⟩
  have hnd : xs.Nodup := by
    refine nodup_at fun i j x hij he hx => ?_
    have hj := lt_of_at hx
    obtain ⟨c1, r1, a1, b1, _⟩ := hxs i x he
    obtain ⟨c2, r2, a2, b2, _⟩ := hxs j x hx
    rw [b1] at b2
    have tl5 : (cs.take at_.toNat).length = at_.toNat := by rw [List.length_take]; omega
    have ec : c1 :: r1 = c2 :: r2 := List.append_cancel_left b2
    rw [← (List.cons.inj ec).1] at a2
    have := (List.getElem?_inj (lt_of_at a1) cons_nodup).mp (a1.trans a2.symm)
    omega
  have hin : ∀ x ∈ xs, (1 ≤ (TL.tl x).length ∧ (TL.tl x).length ≤ 8 ∧ ∀ c ∈ TL.tl x, c ∈ consL) := fun x hx => by
    obtain ⟨j, hj⟩ := List.getElem?_of_mem hx
    obtain ⟨c, r, a, b, rl, hr'⟩ := hxs j x hj
    rw [b]
    refine ⟨by rw [List.length_append, List.length_cons]; omega, by rw [List.length_append, List.length_cons, List.length_take]; omega, fun z hz => ?_⟩
    rcases List.mem_append.mp hz with h | h
    · exact hcs z (List.mem_of_mem_take h)
    · rcases List.mem_cons.mp h with h | h
      · rw [h]; exact cons_mem a
      · exact hr' z h
  have done : ∀ H6, Stp [f] H5 H6 → FeedAt H6 f → Q (.ref F) H6 := fun H6 e6 hF6 => q F H6 xs FH (e5.trans e6) hF6 (e6.k _ _ hF5l (by simpa using nF)) (by rw [xl]; omega) hnd fun x hx => .inl (hin x hx)
  refine ⟨_, rfl, _, _, rfl, rfl, _, rfl, ?_⟩
  by_cases c1 : 0 < n
  · rw [decide_eq_true c1]
    refine ⟨_, rfl, f, 3, rfl, hF5, by decide, by decide, fun z H6 e6 hF6 z0 z1 => ?_⟩
    refine ⟨rfl, _, rfl, ?_⟩
    by_cases c2 : z = 0
    · rw [decide_eq_true (show V.int z = V.int 0 by rw [c2])]
      refine ⟨Nat.le_of_lt (small1000 (by show 12 ≤ 1000; decide)), fun w1 hw1 => ?_⟩
      refine ⟨_, rfl, Nat.le_of_lt (small1000 (by show 6 ≤ 1000; decide)), fun b1 hb1 => ?_⟩
      have n1 : w1 ≠ b1 := fun z => by rw [← z, upd_same] at hb1; cases hb1
      refine ⟨w1, b1, _, _, rfl, rfl, by rw [upd_ne n1]; exact upd_same, upd_same, Nat.le_of_lt (small1000 (by show 18 ≤ 1000; decide)), fun w2 hw2 => ?_⟩
      refine ⟨_, rfl, Nat.le_of_lt (small1000 (by show 6 ≤ 1000; decide)), fun b2 hb2 => ?_⟩
      have n2 : w2 ≠ b2 := fun z => by rw [← z, upd_same] at hb2; cases hb2
      refine ⟨w2, b2, _, _, rfl, rfl, by rw [upd_ne n2]; exact upd_same, upd_same, Nat.le_of_lt (small1000 (by show 24 ≤ 1000; decide)), fun w3 hw3 => ?_⟩
      have eW : Stp [] H6 (upd _ w3 (.lst (oddWords.map V.str))) := (((((Stp.new hw1).trans (Stp.new hb1)).trans (Stp.new hw2)).trans (Stp.new hb2)).trans (Stp.new hw3))
      have hF7 := hF6.step0 eW
      have nw3 : w3 ≠ f := (hF6.step0 ((((Stp.new hw1).trans (Stp.new hb1)).trans (Stp.new hw2)).trans (Stp.new hb2))).ne hw3
      refine ⟨_, rfl, _, rfl, f, 24, rfl, hF7, by decide, by decide, fun wi H8 e8 hF8 wi0 wi1 => ?_⟩
      obtain ⟨word, hword⟩ : ∃ y, oddWords[wi.toNat]? = some y := ⟨_, List.getElem?_eq_getElem (by show _ < 24; omega)⟩
      have hw8 := e8.k _ _ (upd_same (H := _) (a := w3) (o := .lst (oddWords.map V.str))) (by simpa using nw3)
      refine ⟨w3, _, _, .str word, rfl, rfl, SqL.of hw8, at_of (j := wi.toNat) (by omega) (by rw [List.getElem?_map, hword]; rfl), ?_⟩
      refine ⟨_, rfl, _, rfl, _, rfl, f, n, rfl, hF8, by omega, by omega, fun k H9 e9 hF9 k0 k1 => ?_⟩
      have hF9l := e9.k _ _ (e8.k _ _ (eW.k _ _ (e6.k _ _ hF5l (by simpa using nF)) (by simp)) (by simpa using nF)) (by simpa using nF)
      refine ⟨F, _, _, k.toNat, rfl, rfl, hF9l, by rw [List.length_map, xl]; unfold ixN; rw [if_pos k0, if_pos (by omega)], ?_⟩
      have hwm : word ∈ oddWords := List.mem_of_getElem? hword
      have hwn : word ∉ xs := fun hm => by
        obtain ⟨c, hc, hn⟩ := odd_vowel word hwm
        exact hn ((hin word hm).2.2 c hc)
      refine ⟨_, rfl, q F _ (xs.set k.toNat word) FH ((e5.trans (e6.trans (eW.nil.trans (e8.trans e9)))).fresh FH) (hF9.upd nF) (by rw [upd_same, List.map_set]) (by rw [List.length_set, xl]; omega) (nodup_set hnd hwn _) fun x hx => ?_⟩
      rcases List.mem_or_eq_of_mem_set hx with h | h
      · exact .inl (hin x h)
      · rw [h]; exact .inr hwm
    · rw [decide_eq_false (show ¬ V.int z = V.int 0 from fun h => c2 (V.int.inj h))]
      exact ⟨_, rfl, done _ e6 hF6⟩
  · rw [decide_eq_false c1]
    exact ⟨_, rfl, done _ .refl hF5⟩

/-! ### a drawn tree -/
/-- what comes behind a statement, as a letter -/
theorem seq_split {A B : TS} {D : Ends} {σ : L2.St} {H : Hp} (h : ∀ J : L2.St → Hp → Prop, (∀ σ' H', B D σ' H' → J σ' H') → A { D with nx := J } σ H) : tSeq A B D σ H := h (B D) fun _ _ h => h
theorem tor_dec {t u : TT} {σ : L2.St} {H : Hp} {Q : Bool → Hp → Prop} {p q : Prop} [Decidable p] [Decidable q] (ht : ∀ Q' : Bool → Hp → Prop, Q' (decide p) H → t σ H Q') (hu : ∀ Q' : Bool → Hp → Prop, Q' (decide q) H → u σ H Q')
    (h : Q (decide (p ∨ q)) H) : tOr t u σ H Q := by
  refine ht _ ?_
  by_cases c : p
  · rw [decide_eq_true c, if_pos rfl]
    rw [decide_eq_true (Or.inl c)] at h; exact h
  · rw [decide_eq_false c, if_neg (by decide)]
    refine hu _ ?_
    by_cases c2 : q
    · rw [decide_eq_true c2]
      rw [decide_eq_true (Or.inr c2)] at h; exact h
    · rw [decide_eq_false c2]
      rw [decide_eq_false (fun z => z.elim c c2)] at h; exact h
theorem tand_dec {t u : TT} {σ : L2.St} {H : Hp} {Q : Bool → Hp → Prop} {p q : Prop} [Decidable p] [Decidable q] (ht : ∀ Q' : Bool → Hp → Prop, Q' (decide p) H → t σ H Q') (hu : ∀ Q' : Bool → Hp → Prop, Q' (decide q) H → u σ H Q')
    (h : Q (decide (p ∧ q)) H) : tAnd t u σ H Q := by
  refine ht _ ?_
  by_cases c : p
  · rw [decide_eq_true c, if_pos rfl]
    refine hu _ ?_
    by_cases c2 : q
    · rw [decide_eq_true c2]
      rw [decide_eq_true ⟨c, c2⟩] at h; exact h
    · rw [decide_eq_false c2]
      rw [decide_eq_false (fun z => c2 z.2)] at h; exact h
  · rw [decide_eq_false c, if_neg (by decide)]
    rw [decide_eq_false (fun z => c z.1)] at h; exact h
theorem int_dec {a b : Int} : decide (V.int a = V.int b) = decide (a = b) := by
  by_cases c : a = b
  · rw [decide_eq_true c, decide_eq_true (by rw [c])]
  · rw [decide_eq_false c, decide_eq_false fun z => c (V.int.inj z)]
theorem nat_dec {a b : Nat} : decide ((a : Int) = (b : Int)) = decide (a = b) := by
  by_cases c : a = b
  · rw [decide_eq_true c, decide_eq_true (by rw [c])]
  · rw [decide_eq_false c, decide_eq_false (by omega)]
theorem FeedAt.neS {H : Hp} {f l : Addr} {xs : List Str} (h : FeedAt H f) (hl : H l = some (.lst (xs.map V.str))) : l ≠ f := fun z => by
  obtain ⟨o, s, h1, _⟩ := h
  rw [z, h1] at hl
  have := HO.lst.inj (Option.some.inj hl)
  cases xs with
  | nil => cases this
  | cons x r => cases (List.cons.inj this).1
def spGTree (n : Nat) : Sp := fun vs H Q _ => ∃ (f l : Addr) (xs : List Str) (room deep : Int), vs = [.ref f, .ref l, .int room, .int deep] ∧ FeedAt H f ∧ H l = some (.lst (xs.map V.str)) ∧ xs.length ≤ 20 ∧ 1 ≤ room ∧ room ≤ 1000 ∧ 1 ≤ deep ∧ deep ≤ n ∧
  ∀ (t : Tree) (v : V) H', Stp [f] H H' → FeedAt H' f → TreeAt H' t v → (t.size : Int) ≤ room → (t.depth : Int) ≤ deep → (∀ x ∈ t.names, x ∈ xs) → Q v H'
theorem ok_law_tree (T : Tx K mg) : ∀ n : Nat, FnOk P w K mg base CX0 (n + 2) T.f_law_tree T.d_law_tree ["_law_feed_here", "_law_names_here", "_law_room", "_law_deep"] (spGTree n)
  | 0 => none_ok (fun vs H Q E h => by
    obtain ⟨f, l, xs, room, deep, _, _, _, _, _, _, h1, h2, _⟩ := h
    have : deep ≤ 0 := h2
    omega) _
  | n + 1 => by
    have IH := ok_law_tree T n
    refine T.F_law_tree.ok sc_law_tree (fun vs H Q E h => ?_) (fun cdv A outer s H vs Q E hr h => ?_)
    · obtain ⟨f, l, xs, room, deep, rfl, _⟩ := h
      rfl
    obtain ⟨f, l, xs, room, deep, rfl, hF, hl, xl, r0, r1, d0, d1, q⟩ := h
    have dn : deep ≤ (n : Int) + 1 := by exact_mod_cast d1
    refine ⟨_, (pss_cons (ps_set (i := 4) sc_law_tree.nd rfl (.inl rfl) (pe_call (ok_law_take T) (hr.mono (by omega)) (by rfl) T.g_law_take T.F_law_take.kp T.b_law_take .nil pass0 (pa_cons (pv 0) (pa_cons pe_int pa_nil))))
      (pss_cons (ps_if (PW.pt (pw_or (pt_cmpR op_lt (pv 2) pe_int (nomark _)) (pw_or (pt_cmpR op_lt (pv 3) pe_int (nomark _)) (pw_or1 (pt_cmpR op_eq (pv 4) pe_int (nomark _)))))) (pss_cons (ps_if (PW.pt (pw_or (pt_cmpR op_eq (pe_op op_mod (pv 4) pe_int) pe_int (nomark _)) (pw_or1 (pt_cmpR op_eq (pe_callB (k_len (K := K)) (by rfl) T.z_len (by decide +kernel) (pa_cons (pv 1) pa_nil)) pe_int (nomark _))))) (pss_one (ps_ret (pe_ix (k_ix_list (K := K)) (pe_lst (pa_cons (pe_tup (pa_cons pe_str pa_nil)) (pa_cons (pe_tup (pa_cons pe_str pa_nil)) pa_nil))) (pe_call (ok_law_take T) (hr.mono (by omega)) (by rfl) T.g_law_take T.F_law_take.kp T.b_law_take .nil pass0 (pa_cons (pv 0) (pa_cons pe_int pa_nil))) (fun _ _ => rfl)))) pss_nil)
      (pss_one (ps_ret (pe_tup (pa_cons pe_str (pa_cons (pe_ix (k_ix_list (K := K)) (pv 1) (pe_call (ok_law_take T) (hr.mono (by omega)) (by rfl) T.g_law_take T.F_law_take.kp T.b_law_take .nil pass0 (pa_cons (pv 0) (pa_cons (pe_callB (k_len (K := K)) (by rfl) T.z_len (by decide +kernel) (pa_cons (pv 1) pa_nil)) pa_nil))) (fun _ _ => rfl)) pa_nil)))))) pss_nil)
      (pss_cons (ps_if (PW.pt (pw_or (pt_cmpR op_lt (pv 2) pe_int (nomark _)) (pw_or1 (pt_cmpR op_eq (pv 4) pe_int (nomark _))))) (pss_one (ps_ret (pe_tup (pa_cons pe_str (pa_cons (pe_call IH (hr.mono (by omega)) (by rfl) T.g_law_tree T.F_law_tree.kp T.b_law_tree .nil pass0 (pa_cons (pv 0) (pa_cons (pv 1) (pa_cons (pe_op op_sub (pv 2) pe_int) (pa_cons (pe_op op_sub (pv 3) pe_int) pa_nil))))) pa_nil))))) pss_nil)
      (pss_cons (ps_set (i := 5) sc_law_tree.nd rfl (.inl rfl) (pe_op op_add pe_int (pe_call (ok_law_take T) (hr.mono (by omega)) (by rfl) T.g_law_take T.F_law_take.kp T.b_law_take .nil pass0 (pa_cons (pv 0) (pa_cons (pe_op op_sub (pv 2) pe_int) pa_nil)))))
      (pss_cons (ps_set (i := 6) sc_law_tree.nd rfl (.inl rfl) (pe_call IH (hr.mono (by omega)) (by rfl) T.g_law_tree T.F_law_tree.kp T.b_law_tree .nil pass0 (pa_cons (pv 0) (pa_cons (pv 1) (pa_cons (pv 5) (pa_cons (pe_op op_sub (pv 3) pe_int) pa_nil))))))
      (pss_cons (ps_set (i := 7) sc_law_tree.nd rfl (.inl rfl) (pe_ix (k_ix_list (K := K)) (pe_lst (pa_cons pe_str (pa_cons pe_str (pa_cons pe_str (pa_cons pe_str pa_nil))))) (pe_op op_mod (pv 4) pe_int) (fun _ _ => rfl)))
      (pss_one (ps_ret (pe_tup (pa_cons (pv 7) (pa_cons (pv 6) (pa_cons (pe_call IH (hr.mono (by omega)) (by rfl) T.g_law_tree T.F_law_tree.kp T.b_law_tree .nil pass0 (pa_cons (pv 0) (pa_cons (pv 1) (pa_cons (pe_op op_sub (pe_op op_sub (pv 2) pe_int) (pv 5)) (pa_cons (pe_op op_sub (pv 3) pe_int) pa_nil))))) pa_nil)))))))))))), ?_⟩
    have nlf : l ≠ f := hF.neS hl
    refine ⟨_, rfl, f, 10, rfl, hF, by decide, by decide, fun form H1 e1 hF1 f0 f1 => ?_⟩
    have hl1 := e1.k _ _ hl (by simpa using nlf)
    walk_at "s"
    refine tor_dec (p := room < 2) (q := deep < 2 ∨ form = 9) ?_ ?_ ?_
    · exact fun Q' h => ⟨_, rfl, _, _, rfl, rfl, _, rfl, h⟩
    · intro Q' h
      refine tor_dec (p := deep < 2) (q := form = 9) ?_ ?_ h
      · exact fun Q' h => ⟨_, rfl, _, _, rfl, rfl, _, rfl, h⟩
      · exact fun Q' h => ⟨_, rfl, rfl, _, rfl, by rw [int_dec]; exact h⟩
    by_cases c1 : room < 2 ∨ deep < 2 ∨ form = 9
    · rw [decide_eq_true c1]
      rw [if_pos rfl]
      refine tor_dec (p := form % 5 = 4) (q := xs.length = 0) ?_ ?_ ?_
      · exact fun Q' h => ⟨_, rfl, _, _, rfl, rfl, (by show (0 : Int) < 5; decide), rfl, _, rfl, by rw [int_dec]; exact h⟩
      · intro Q' h
        refine ⟨_, rfl, l, _, rfl, .inl (SqL.of hl1), rfl, _, rfl, ?_⟩
        rw [List.length_map, int_dec, show (0 : Int) = ((0 : Nat) : Int) from rfl, nat_dec]; exact h
      by_cases c2 : form % 5 = 4 ∨ xs.length = 0
      · rw [decide_eq_true c2]
        refine ⟨Nat.le_of_lt (small1000 (by show 1 ≤ 1000; decide)), fun p1 hp1 => ?_⟩
        refine ⟨Nat.le_of_lt (small1000 (by show 1 ≤ 1000; decide)), fun p2 hp2 => ?_⟩
        refine ⟨Nat.le_of_lt (small1000 (by show 2 ≤ 1000; decide)), fun p3 hp3 => ?_⟩
        have eN : Stp [] H1 _ := ((Stp.new hp1).trans (Stp.new hp2)).trans (Stp.new (o := .lst [.ref p1, .ref p2]) hp3)
        have n3 : p3 ≠ f := (hF1.step0 ((Stp.new hp1).trans (Stp.new hp2))).ne hp3
        refine ⟨_, rfl, f, 2, rfl, hF1.step0 eN, by decide, by decide, fun d H2 e2 hF2 d0' d1' => ?_⟩
        have hy : H2 p1 = some (.tup [.str "yes"]) := e2.t _ _ ((Stp.new hp3 (l := [])).t _ _ ((Stp.new hp2 (l := [])).t _ _ upd_same))
        have hn : H2 p2 = some (.tup [.str "no"]) := e2.t _ _ ((Stp.new hp3 (l := [])).t _ _ upd_same)
        have h3 : H2 p3 = some (.lst [.ref p1, .ref p2]) := e2.k _ _ upd_same (by simpa using n3)
        have e02 := e1.trans (eN.nil.trans e2)
        have d01 : d = 0 ∨ d = 1 := by omega
        rcases d01 with rfl | rfl
        · exact ⟨p3, _, _, _, rfl, rfl, SqL.of h3, at0, q .yes _ H2 e02 hF2 ⟨p1, rfl, hy⟩ r0 d0 (fun x h => by cases h)⟩
        · exact ⟨p3, _, _, _, rfl, rfl, SqL.of h3, at1, q .no _ H2 e02 hF2 ⟨p2, rfl, hn⟩ r0 d0 (fun x h => by cases h)⟩
      · rw [decide_eq_false c2]
        have c2' : ¬ xs.length = 0 := fun z => c2 (.inr z)
        refine ⟨_, rfl, _, rfl, _, rfl, l, _, rfl, .inl (SqL.of hl1), ?_⟩
        rw [List.length_map]
        refine ⟨f, _, rfl, hF1, by omega, by omega, fun k H2 e2 hF2 k0 k1 => ?_⟩
        have hl2 := e2.k _ _ hl1 (by simpa using nlf)
        obtain ⟨x, hx⟩ : ∃ x, xs[k.toNat]? = some x := ⟨_, List.getElem?_eq_getElem (by omega)⟩
        refine ⟨l, _, _, .str x, rfl, rfl, SqL.of hl2, at_of (j := k.toNat) (by omega) (by rw [List.getElem?_map, hx]; rfl), Nat.le_of_lt (small1000 (by show 2 ≤ 1000; decide)), fun p hp => ?_⟩
        refine q (.is x) _ _ ((e1.trans e2).trans (Stp.new hp)) (hF2.step0 (Stp.new hp)) ⟨p, rfl, upd_same⟩ r0 d0 fun y h => ?_
        have : y = x := by simpa [Tree.names] using h
        rw [this]; exact List.mem_of_getElem? hx
    · rw [decide_eq_false c1, if_neg (by decide)]
      have r2 : 2 ≤ room := by omega
      have d2 : 2 ≤ deep := by omega
      change tOr _ _ _ _ _
      refine tor_dec (p := room < 3) (q := form = 8) ?_ ?_ ?_
      · exact fun Q' h => ⟨_, rfl, _, _, rfl, rfl, _, rfl, h⟩
      · exact fun Q' h => ⟨_, rfl, rfl, _, rfl, by rw [int_dec]; exact h⟩
      by_cases c3 : room < 3 ∨ form = 8
      · rw [decide_eq_true c3, if_pos rfl]
        refine ⟨_, rfl, _, rfl, _, rfl, _, _, rfl, rfl, _, rfl, _, _, rfl, rfl, ?_⟩
        refine ⟨f, l, xs, room - 1, deep - 1, rfl, hF1, hl1, xl, by omega, by omega, by omega, by omega, fun t v H2 e2 hF2 ht hs hd hn => ?_⟩
        refine ⟨Nat.le_of_lt (small1000 (by show 2 ≤ 1000; decide)), fun p hp => ?_⟩
        refine q (.not t) _ _ ((e1.trans e2).trans (Stp.new hp)) (hF2.step0 (Stp.new hp)) ⟨p, v, rfl, upd_same, ht.step (Stp.new (l := []) hp)⟩ ?_ ?_ hn
        · show (((1 + t.size : Nat)) : Int) ≤ room; omega
        · show (((t.depth + 1 : Nat)) : Int) ≤ deep; omega
      rw [decide_eq_false c3, if_neg (by decide)]
      have r3 : 3 ≤ room := by omega
      refine ⟨_, rfl, _, rfl, _, _, rfl, rfl, f, room - 2, rfl, hF1, by omega, by omega, fun m H2 e2 hF2 m0 m1 => ?_⟩
      have hl2 := e2.k _ _ hl1 (by simpa using nlf)
      refine ⟨_, _, rfl, rfl, ?_⟩
      refine ⟨_, rfl, _, rfl, _, rfl, _, rfl, _, _, rfl, rfl, ?_⟩
      refine ⟨f, l, xs, 1 + m, deep - 1, rfl, hF2, hl2, xl, by omega, by omega, by omega, by omega, fun ta va H3 e3 hF3 hta hsa hda hna => ?_⟩
      have hl3 := e3.k _ _ hl2 (by simpa using nlf)
      refine ⟨Nat.le_of_lt (small1000 (by show 4 ≤ 1000; decide)), fun p hp => ?_⟩
      have e4 : Stp [f] H3 (upd H3 p (.lst [.str "and", .str "or", .str "odd", .str "same"])) := Stp.new hp
      obtain ⟨o, ho⟩ : ∃ o : Op4, atI [V.str "and", .str "or", .str "odd", .str "same"] (form % 4) = some (.str o.word) := by
        have : form % 4 = 0 ∨ form % 4 = 1 ∨ form % 4 = 2 ∨ form % 4 = 3 := by omega
        rcases this with e | e | e | e <;> rw [e]
        · exact ⟨.and, at0⟩
        · exact ⟨.or, at1⟩
        · exact ⟨.odd, at2⟩
        · exact ⟨.same, at3⟩
      refine ⟨_, rfl, _, _, rfl, rfl, (by show (0 : Int) < 4; decide), p, _, _, _, rfl, rfl, SqL.of upd_same, ho, ?_⟩
      have hl4 := e4.k _ _ hl3 (by simpa using nlf)
      refine ⟨_, rfl, _, rfl, _, rfl, _, rfl, _, rfl, _, _, rfl, rfl, _, rfl, _, _, rfl, rfl, _, rfl, _, _, rfl, rfl, ?_⟩
      refine ⟨f, l, xs, room - 1 - (1 + m), deep - 1, rfl, hF3.step0 (Stp.new hp), hl4, xl, by omega, by omega, by omega, by omega, fun tb vb H5 e5 hF5 htb hsb hdb hnb => ?_⟩
      refine ⟨Nat.le_of_lt (small1000 (by show 3 ≤ 1000; decide)), fun r hr5 => ?_⟩
      have e6 : Stp [f] H5 (upd H5 r (.tup [.str o.word, va, vb])) := Stp.new hr5
      refine q (.bin o ta tb) _ _ (((((e1.trans e2).trans e3).trans e4).trans e5).trans e6) (hF5.step0 (Stp.new hr5)) ⟨r, va, vb, rfl, upd_same, hta.step (e4.trans (e5.trans e6)), htb.step e6⟩ ?_ ?_ fun x hx => ?_
      · show (((1 + (ta.size + tb.size) : Nat)) : Int) ≤ room; omega
      · show (((max ta.depth tb.depth + 1 : Nat)) : Int) ≤ deep; omega
      · rcases List.mem_append.mp hx with h | h
        · exact hna x h
        · exact hnb x h

/-! ### a drawn game -/
theorem ok_law_names_of (T : Tx K mg) : ∀ n : Nat, FnOk P w K mg base CX0 (n + 2) T.f_law_names_of T.d_law_names_of ["_law_tree_here"] (spNames n)
  | 0 => none_ok (fun vs H Q E h => by
    obtain ⟨t, v, _, _, h, _⟩ := h
    have := t.depth_pos
    omega) _
  | n + 1 => by
    have IH := ok_law_names_of T n
    refine T.F_law_names_of.ok sc_law_names_of (fun vs H Q E h => ?_) (fun cdv A outer s H vs Q E hr h => ?_)
    · obtain ⟨t, v, rfl, _⟩ := h
      rfl
    obtain ⟨t, v, rfl, ht, hd, hz, q⟩ := h
    obtain ⟨a, xs, rfl, ha, his, hno⟩ := tree_tup ht
    refine ⟨_, (pss_cons (ps_if (pt_cmpR op_eq (pe_ix (k_ix_tup (K := K)) (pv 0) pe_int (fun _ _ => rfl)) pe_str (nomark _)) (pss_one (ps_ret (pe_lst (pa_cons (pe_ix (k_ix_tup (K := K)) (pv 0) pe_int (fun _ _ => rfl)) pa_nil)))) pss_nil)
      (pss_cons (ps_set (i := 1) sc_law_names_of.nd rfl (.inl rfl) (pe_lst pa_nil))
      (pss_cons (ps_for PassesOwn.never rfl (ki_tup (K := K) (pe_slice (k_sl_tup (K := K)) (pv 0) (po_some pe_int) po_none)) (pg_name (i := 2) sc_law_names_of.nd (by rfl) (Or.inl (by rfl)))
      (pss_one (ps_set (i := 1) sc_law_names_of.nd rfl (.inl rfl) (pe_op op_cat (pv 1) (pe_call IH (hr.mono (by omega)) (by rfl) T.g_law_names_of T.F_law_names_of.kp T.b_law_names_of .nil pass0 (pa_cons (pv 2) pa_nil))))))
      (pss_one (ps_ret (pv 1)))))), ?_⟩
    refine ⟨_, rfl, a, _, _, _, rfl, rfl, SqT.of ha, at0, rfl, _, rfl, ?_⟩
    walk_at "if"
    · rename_i c
      obtain ⟨x, rfl⟩ := (word_is t).mp (V.str.inj c)
      have := his x rfl
      subst this
      refine ⟨_, rfl, a, _, _, _, rfl, rfl, SqT.of ha, at1, Nat.le_of_lt (small1000 (by show 1 ≤ 1000; decide)), fun p hp => q p _ hp (Stp.new hp) upd_same⟩
    · rename_i c
      have c' : ∀ x, t ≠ .is x := fun x e => c (by rw [e]; rfl)
      have hts := hno c'
      refine ⟨Nat.zero_le _, fun f hf => ?_⟩
      have e1 : Stp [] H (upd H f (.lst [])) := Stp.new hf
      refine ⟨_, rfl, _, rfl, a, _, rfl, SqT.of (e1.t _ _ ha), fun z => absurd z (not_whole _ _ _), fun _ b hb => ?_⟩
      rw [cut_tail] at *
      have e2 := e1.trans (Stp.new (l := []) (o := .tup xs) hb)
      refine ⟨b, rfl, ⟨_, SqT.of upd_same⟩, for_tup (K := K) (a := b) (xs := xs) (fun i σ H3 => ∃ y p, σ = [some (.ref a), some (.ref p), y] ∧ Stp [] H H3 ∧ H p = none ∧ H3 b = some (.tup xs) ∧ TreesAt H3 t.kids xs ∧ H3 p = some (.lst (((t.kids.map Tree.names).take i).flatten.map V.str)))
        ⟨none, f, rfl, e2, hf, upd_same, hts.step e2, (Stp.new (l := []) hb).k _ _ upd_same (by simp)⟩ (fun i σ H3 _ ⟨_, _, _, _, _, h, _⟩ => SqT.of h) ?_ ?_⟩
      · rintro i y σ H3 hi ⟨y0, p0, rfl, e3, hp0, hc3, ht3, hf3⟩
        obtain ⟨u, hu, hut⟩ := ht3.get hi
        have hum : u ∈ t.kids := List.mem_of_getElem? hu
        have d1 := Tree.kids_depth hum
        have d2 := Tree.kids_size hum
        refine ⟨_, rfl, _, rfl, u, y, rfl, hut, by omega, by omega, fun p H4 hp e4 hp4 => ?_⟩
        have hf4 : H4 p0 = _ := e4.k _ _ hf3 (by simp)
        have bound : (((t.kids.map Tree.names).take i).flatten.map V.str).length + (u.names.map V.str).length ≤ sizeLine := by
          have b1 := flat_len_take (t.kids.map Tree.names) i
          rw [← Tree.names_kids t c'] at b1
          have b2 := t.names_le
          have b3 := u.names_le
          rw [List.length_map, List.length_map]
          exact Nat.le_trans (by omega : _ ≤ 2000) (by decide)
        refine ⟨p0, p, _, _, rfl, rfl, hf4, hp4, bound, fun r hr => ?_⟩
        have e5 : Stp [] H4 (upd H4 r (.lst (((t.kids.map Tree.names).take i).flatten.map V.str ++ u.names.map V.str))) := Stp.new hr
        refine ⟨some y, r, rfl, (e3.trans e4).trans e5, (e3.trans e4).free hr (by simp), (e4.trans e5).t _ _ hc3, (ht3.step e4).step e5, ?_⟩
        rw [upd_same, take_more (by rw [List.getElem?_map, hu]; rfl), List.flatten_append, List.map_append, List.flatten_singleton]
      · rintro σ H3 ⟨y0, p0, rfl, e3, hp0, hc3, ht3, hf3⟩
        refine ⟨_, rfl, q p0 H3 hp0 e3 ?_⟩
        rw [hf3, Tree.names_kids t c', List.take_of_length_le]
        rw [List.length_map]
        have := hts.len
        omega
def spNeed : Sp := fun vs H Q _ => ∃ (a b : Addr) (xs : List Str) (ts : List Tree) (us : List V), vs = [.ref a, .ref b] ∧ H a = some (.lst (xs.map V.str)) ∧ H b = some (.lst us) ∧ TreesAt H ts us ∧ xs.length ≤ 20 ∧ ts.length ≤ 20 ∧ (∀ t ∈ ts, t.depth ≤ 20 ∧ t.size ≤ 1000) ∧
  ∀ (m : Int) H', Stp [] H H' → 2 ≤ m → (ts.length : Int) - 1 ≤ m → m ≤ 1000 → (∀ x ∈ xs, ∀ t ∈ ts, (t.names.count x : Int) ≤ m) → Q (.int m) H'
theorem ok_law_need (T : Tx K mg) : FnOk P w K mg base CX0 25 T.f_law_need T.d_law_need ["_law_names_here", "_law_trees"] spNeed := by
  refine T.F_law_need.ok sc_law_need (fun vs H Q E h => ?_) (fun cdv A outer s H vs Q E hr h => ?_)
  · obtain ⟨a, b, xs, ts, us, rfl, _⟩ := h
    rfl
  obtain ⟨a, b, xs, ts, us, rfl, ha, hb, ht, xl, tl, hts, q⟩ := h
  have ul : us.length = ts.length := ht.len
  refine ⟨_, (pss_cons (ps_set (i := 2) sc_law_need.nd rfl (.inl rfl) (pe_callB (call_max2 (by rfl)) (by rfl) T.z_max (by decide +kernel) (pa_cons pe_int (pa_cons (pe_op op_sub (pe_callB (k_len (K := K)) (by rfl) T.z_len (by decide +kernel) (pa_cons (pv 1) pa_nil)) pe_int) pa_nil))))
      (pss_cons (ps_for PassesOwn.never rfl (ki_list (K := K) (pv 1)) (pg_name (i := 3) sc_law_need.nd (by rfl) (Or.inl (by rfl)))
      (pss_cons (ps_set (i := 4) sc_law_need.nd rfl (.inl rfl) (pe_call (ok_law_names_of T 20) (hr.mono (by omega)) (by rfl) T.g_law_names_of T.F_law_names_of.kp T.b_law_names_of .nil pass0 (pa_cons (pv 3) pa_nil)))
      (pss_one (ps_for PassesOwn.never rfl (ki_list (K := K) (pv 0)) (pg_name (i := 5) sc_law_need.nd (by rfl) (Or.inl (by rfl)))
      (pss_one (ps_set (i := 2) sc_law_need.nd rfl (.inl rfl) (pe_callB (call_max2 (by rfl)) (by rfl) T.z_max (by decide +kernel) (pa_cons (pv 2) (pa_cons (k_bm (K := K) PySem.F.plainAttrs_list PySem.F.slot_list_count PySem.F.type_list_count (k_countV (K := K)) (pv 4) (pa_cons (pv 5) pa_nil)) pa_nil)))))))))
      (pss_one (ps_ret (pv 2))))), ?_⟩
  refine ⟨_, rfl, b, _, rfl, .inl (SqL.of hb), _, _, rfl, rfl, ?_⟩
  rw [ul]
  have m0 : ∃ m : Int, (if (ts.length : Int) - 1 > 2 then (ts.length : Int) - 1 else 2) = m ∧ 2 ≤ m ∧ (ts.length : Int) - 1 ≤ m ∧ m ≤ 1000 := by
    refine ⟨_, rfl, ?_⟩
    split <;> omega
  obtain ⟨m0, em, h1, h2, h3⟩ := m0
  refine ⟨_, _, rfl, ?_⟩
  rw [em]
  refine ⟨_, rfl, b, rfl, ⟨_, SqL.of hb⟩, for_list (K := K) (a := b) (xs := us) (fun i σ H' => ∃ (y3 y4 y5 : Option V) (m : Int), σ = [some (.ref a), some (.ref b), some (.int m), y3, y4, y5] ∧ Stp [] H H' ∧ 2 ≤ m ∧ (ts.length : Int) - 1 ≤ m ∧ m ≤ 1000 ∧
      ∀ (j : Nat) (t : Tree), j < i → ts[j]? = some t → ∀ x ∈ xs, (t.names.count x : Int) ≤ m)
    ⟨none, none, none, m0, rfl, .refl, h1, h2, h3, fun j t h => absurd h (Nat.not_lt_zero _)⟩ (fun i σ H' _ ⟨_, _, _, _, _, e, _⟩ => SqL.of (e.k _ _ hb (by simp))) ?_ ?_⟩
  · rintro i v σ H1 hi ⟨y3, y4, y5, m, rfl, e1, b1, b2, b3, b4⟩
    obtain ⟨t, htt, htv⟩ := (ht.step e1).get hi
    obtain ⟨d1, d2⟩ := hts t (List.mem_of_getElem? htt)
    have cb : ∀ x, t.names.count x ≤ 1000 := fun x => Nat.le_trans List.count_le_length (Nat.le_trans t.names_le d2)
    refine ⟨_, rfl, t, v, rfl, htv, d1, d2, fun p H2 hp e2 hp2 => ?_⟩
    have ha2 := (e1.trans e2).k _ _ ha (by simp)
    refine ⟨_, rfl, a, rfl, ⟨_, SqL.of ha2⟩, for_list (K := K) (a := a) (xs := xs.map V.str) (fun k σ H' => ∃ (y5 : Option V) (m' : Int), σ = [some (.ref a), some (.ref b), some (.int m'), some v, some (.ref p), y5] ∧ H' = H2 ∧ m ≤ m' ∧ m' ≤ 1000 ∧
        ∀ (j : Nat) (x : Str), j < k → xs[j]? = some x → (t.names.count x : Int) ≤ m')
      ⟨y5, m, rfl, rfl, Int.le_refl _, b3, fun j x h => absurd h (Nat.not_lt_zero _)⟩ (fun i σ H' _ ⟨_, _, _, e, _⟩ => SqL.of (by rw [e]; exact ha2)) ?_ ?_⟩
    · rintro k y σ H' hk ⟨y5', m', rfl, rfl, f1, f2, f3⟩
      obtain ⟨x, hx, rfl⟩ := at_str hk
      refine ⟨_, rfl, _, rfl, .inl ⟨rfl, _, SqL.of hp2⟩, _, rfl, p, _, _, rfl, rfl, SqL.of hp2, rfl, flat_strs _, ?_⟩
      rw [count_strs]
      have cx := cb x
      have mm : ∃ z : Int, (if ((t.names.count x : Nat) : Int) > m' then ((t.names.count x : Nat) : Int) else m') = z ∧ m' ≤ z ∧ z ≤ 1000 ∧ (t.names.count x : Int) ≤ z := by
        refine ⟨_, rfl, ?_⟩
        split <;> omega
      obtain ⟨z, ez, z1, z2, z3⟩ := mm
      refine ⟨_, _, rfl, ?_⟩
      rw [ez]
      refine ⟨_, z, rfl, rfl, by omega, z2, fun j x' hj hx' => ?_⟩
      by_cases c : j < k
      · have := f3 j x' c hx'; omega
      · have : j = k := by omega
        subst this
        rw [hx] at hx'
        rw [← Option.some.inj hx']; exact z3
    · rintro σ H' ⟨y5', m', rfl, rfl, f1, f2, f3⟩
      refine ⟨_, _, _, m', rfl, e1.trans e2, by omega, by omega, f2, fun j t' hj htj x hx => ?_⟩
      by_cases c : j < i
      · have := b4 j t' c htj x hx; omega
      · have : j = i := by omega
        subst this
        rw [htt] at htj
        rw [← Option.some.inj htj]
        obtain ⟨k, hk⟩ := List.getElem?_of_mem hx
        exact f3 k x (by have := lt_of_at hk; rw [List.length_map]; exact this) hk
  · rintro σ H1 ⟨y3, y4, y5, m, rfl, e1, b1, b2, b3, b4⟩
    refine ⟨_, rfl, q m H1 e1 b1 b2 b3 fun x hx t ht' => ?_⟩
    obtain ⟨j, hj⟩ := List.getElem?_of_mem ht'
    exact b4 j t (by have := lt_of_at hj; omega) hj x hx
theorem prime_999983 : PrimeI 999983 := by
  refine prime_of_small (k := 1000) (by decide) (by decide) (by decide) fun d h1 h2 => ?_
  have key : ∀ n : Nat, n < 998 → (999983 : Int) % (2 + (n : Int)) ≠ 0 := by decide +kernel
  have := key (d - 2).toNat (by omega)
  have e : 2 + (((d - 2).toNat : Nat) : Int) = d := by omega
  rw [e] at this; exact this
def spGField : Sp := fun vs H Q _ => ∃ (f : Addr) (need : Int), vs = [.ref f, .int need] ∧ FeedAt H f ∧ 2 ≤ need ∧ need ≤ 1000 ∧
  ∀ (p : Int) H', Stp [f] H H' → FeedAt H' f → PrimeI p → need < p → p ≤ 999983 → Q (.int p) H'
theorem ok_law_field (T : Tx K mg) : FnOk P w K mg base CX0 2 T.f_law_field T.d_law_field ["_law_feed_here", "_law_need_here"] spGField := by
  refine T.F_law_field.ok sc_law_field (fun vs H Q E h => ?_) (fun cdv A outer s H vs Q E hr h => ?_)
  · obtain ⟨f, need, rfl, _⟩ := h
    rfl
  obtain ⟨f, need, rfl, hF, n2, n1, q⟩ := h
  refine ⟨_, (pss_cons (ps_set (i := 2) sc_law_field.nd rfl (.inl rfl) (pe_call (ok_law_take T) (hr.mono (by omega)) (by rfl) T.g_law_take T.F_law_take.kp T.b_law_take .nil pass0 (pa_cons (pv 0) (pa_cons pe_int pa_nil))))
      (pss_cons (ps_set (i := 3) sc_law_field.nd rfl (.inl rfl) (pe_op op_add (pv 1) pe_int))
      (pss_cons (ps_if (pt_cmpR op_eq (pv 2) pe_int (nomark _)) (pss_one (ps_set (i := 3) sc_law_field.nd rfl (.inl rfl) (pe_op op_add (pe_op op_add (pv 1) pe_int) (pe_call (ok_law_take T) (hr.mono (by omega)) (by rfl) T.g_law_take T.F_law_take.kp T.b_law_take .nil pass0 (pa_cons (pv 0) (pa_cons pe_int pa_nil)))))) pss_nil)
      (pss_cons (ps_if (pt_cmpR op_eq (pv 2) pe_int (nomark _)) (pss_one (ps_set (i := 3) sc_law_field.nd rfl (.inl rfl) (pe_op op_add (pe_op op_add (pv 1) pe_int) (pe_call (ok_law_take T) (hr.mono (by omega)) (by rfl) T.g_law_take T.F_law_take.kp T.b_law_take .nil pass0 (pa_cons (pv 0) (pa_cons (pe_op op_sub pe_int (pv 1)) pa_nil)))))) pss_nil)
      (pss_cons (ps_while PassesOwn.never (pt_not (pt_val (pe_call (ok_law_is_prime T) (hr.mono (by omega)) (by rfl) T.g_law_is_prime T.F_law_is_prime.kp T.b_law_is_prime .nil pass0 (pa_cons (pv 3) pa_nil))))
      (pss_one (ps_set (i := 3) sc_law_field.nd rfl (.inl rfl) (pe_op op_add (pv 3) pe_int))))
      (pss_one (ps_ret (pv 3)))))))), ?_⟩
  refine ⟨_, rfl, f, 4, rfl, hF, by decide, by decide, fun form H1 e1 hF1 f0 f1 => ?_⟩
  refine ⟨_, rfl, _, _, rfl, rfl, ?_⟩
  have loop : ∀ (x : Int) H2, need < x → x ≤ 999983 → Stp [f] H H2 → FeedAt H2 f → (tSeq (tWhile (tNot (tB (tCall spPrime [] E0 (tCons (tVar 3) tNil)))) (tAsg (tOp (rI0 fun i j => V.int (i + j)) (tVar 3) (tC (V.int 1))) (gName 3))) (tRet (tVar 3)))
      { nx := fun x H' => Q V.non H', rt := Q } [some (.ref f), some (.int need), some (.int form), some (.int x)] H2 := by
    intro x H2 x0 x1 e2 hF2
    refine ⟨fun m σ H' => ∃ z : Int, σ = [some (.ref f), some (.int need), some (.int form), some (.int z)] ∧ H' = H2 ∧ need < z ∧ z ≤ 999983 ∧ m = (999983 - z).toNat, ⟨_, x, rfl, rfl, x0, x1, rfl⟩, fun m σ H' hW => ?_⟩
    obtain ⟨z, rfl, rfl, z0, z1, rfl⟩ := hW
    refine ⟨_, rfl, z, rfl, by omega, by omega, fun b hb => ⟨b, rfl, ?_⟩⟩
    cases b with
    | true =>
      exact ⟨_, rfl, q z H' e2 hF2 (hb.mp rfl) z0 z1⟩
    | false =>
      have nz : z ≠ 999983 := fun e => by
        have := hb.mpr (by rw [e]; exact prime_999983)
        cases this
      refine ⟨fun σ2 H2 => σ2 = [some (.ref f), some (.int need), some (.int form), some (.int (z + 1))] ∧ H2 = H', fun σ2 H2 ⟨g1, g2⟩ => ⟨_, ?_, z + 1, g1, g2, by omega, by omega, rfl⟩, ?_⟩
      · omega
      · exact ⟨_, rfl, _, _, rfl, rfl, rfl, rfl⟩
  refine ⟨_, rfl, rfl, _, rfl, ?_⟩
  rw [int_dec]
  by_cases c2 : form = 2
  · rw [decide_eq_true c2]
    refine ⟨_, rfl, _, _, rfl, rfl, _, rfl, f, 60, rfl, hF1, by decide, by decide, fun k H2 e2 hF2 k0 k1 => ?_⟩
    refine ⟨_, _, rfl, rfl, ?_⟩
    refine ⟨_, rfl, rfl, _, rfl, ?_⟩
    rw [int_dec, decide_eq_false (show ¬ form = 3 by omega)]
    exact loop _ H2 (by omega) (by omega) (e1.trans e2) hF2
  · rw [decide_eq_false c2]
    refine ⟨_, rfl, rfl, _, rfl, ?_⟩
    rw [int_dec]
    by_cases c3 : form = 3
    · rw [decide_eq_true c3]
      refine ⟨_, rfl, _, _, rfl, rfl, _, rfl, _, rfl, _, _, rfl, rfl, f, _, rfl, hF1, by omega, by omega, fun k H2 e2 hF2 k0 k1 => ?_⟩
      refine ⟨_, _, rfl, rfl, ?_⟩
      exact loop _ H2 (by omega) (by omega) (e1.trans e2) hF2
    · rw [decide_eq_false c3]
      exact loop _ H1 (by omega) (by omega) e1 hF1
structure GameIn (most room : Int) (xs : List Str) (ts : List Tree) (p : Int) : Prop where
  nd : xs.Nodup
  nm : ∀ x ∈ xs, NameIn x
  xl : (xs.length : Int) ≤ most
  t1 : 1 ≤ ts.length
  t4 : ts.length ≤ 4
  tk : ∀ t ∈ ts, t.depth ≤ 9 ∧ (t.size : Int) ≤ room ∧ ∀ x ∈ t.names, x ∈ xs
  pr : PrimeI p
  p3 : 3 ≤ p
  pm : p ≤ 999983
  ct : ∀ x ∈ xs, ∀ t ∈ ts, (t.names.count x : Int) < p
  tp : (ts.length : Int) ≤ p
def GTupAt (H : Hp) (v : V) (xs : List Str) (ts : List Tree) (p : Int) : Prop := ∃ (c a b : Addr) (us : List V), v = .ref c ∧ H c = some (.tup [.ref a, .ref b, .int p]) ∧ TupF H a (xs.map V.str) ∧ H b = some (.tup us) ∧ TreesAt H ts us
theorem GTupAt.step {l : List Addr} {H H' : Hp} {v : V} {xs : List Str} {ts : List Tree} {p : Int} (e : Stp l H H') (h : GTupAt H v xs ts p) : GTupAt H' v xs ts p :=
  let ⟨c, a, b, us, h1, h2, h3, h4, h5⟩ := h; ⟨c, a, b, us, h1, e.t _ _ h2, tupF_step e h3, e.t _ _ h4, h5.step e⟩
def spGGame : Sp := fun vs H Q _ => ∃ (f : Addr) (most room : Int), vs = [.ref f, .int most, .int room] ∧ FeedAt H f ∧ 0 ≤ most ∧ most ≤ 10 ∧ 1 ≤ room ∧ room ≤ 100 ∧
  ∀ (v : V) (xs : List Str) (ts : List Tree) (p : Int) H', Stp [f] H H' → FeedAt H' f → GTupAt H' v xs ts p → GameIn most room xs ts p → Q v H'
theorem ok_law_game (T : Tx K mg) : FnOk P w K mg base CX0 27 T.f_law_game T.d_law_game ["_law_feed_here", "_law_most", "_law_room"] spGGame := by
  refine T.F_law_game.ok sc_law_game (fun vs H Q E h => ?_) (fun cdv A outer s H vs Q E hr h => ?_)
  · obtain ⟨f, most, room, rfl, _⟩ := h
    rfl
  obtain ⟨f, most, room, rfl, hF, m0, m1, r0, r1, q⟩ := h
  refine ⟨_, (pss_cons (ps_set (i := 3) sc_law_game.nd rfl (.inr rfl) (pe_call (ok_law_names T) (hr.mono (by omega)) (by rfl) T.g_law_names T.F_law_names.kp T.b_law_names .nil pass0 (pa_cons (pv 0) (pa_cons (pe_call (ok_law_take T) (hr.mono (by omega)) (by rfl) T.g_law_take T.F_law_take.kp T.b_law_take .nil pass0 (pa_cons (pv 0) (pa_cons (pe_op op_add (pv 1) pe_int) pa_nil))) pa_nil))))
      (pss_cons (ps_set (i := 4) sc_law_game.nd rfl (.inl rfl) (pe_ix (k_ix_list (K := K)) (pe_lst (pa_cons pe_int (pa_cons pe_int (pa_cons pe_int (pa_cons pe_int (pa_cons pe_int (pa_cons pe_int pa_nil))))))) (pe_call (ok_law_take T) (hr.mono (by omega)) (by rfl) T.g_law_take T.F_law_take.kp T.b_law_take .nil pass0 (pa_cons (pv 0) (pa_cons pe_int pa_nil))) (fun _ _ => rfl)))
      (pss_cons (ps_setLc (i := 5) (own := [("_law_k", 6)]) (g := gName 6) (tt := tYes) (by rfl) sc_law_game.nd (by rfl) (by rfl) (sw_true (by rfl) (by rfl) (by rfl) (by decide +kernel)) (pi_range1 (by rfl) T.z_range (pa_cons (pv 4) pa_nil)) (blkOk_by (own := [("_law_k", 6)]) (N := ["_law_feed_here", "_law_most", "_law_room", "_law_names_here", "_law_many", "_law_trees", "_law_k"]) (sc := defScope s_law_game) (by decide +kernel)) (fun _ _ _ _ _ => (pg_name (i := 6) sc_law_game.nd (by rfl) (Or.inl (by rfl)))) (fun _ _ _ _ _ => pts_nil) (fun _ _ _ _ _ => by exact (pe_call (ok_law_tree T 9) (hr.mono (by omega)) (by rfl) T.g_law_tree T.F_law_tree.kp T.b_law_tree .nil pass0 (pa_cons (pv 0) (pa_cons (pv 3) (pa_cons (pe_op op_add pe_int (pe_call (ok_law_take T) (hr.mono (by omega)) (by rfl) T.g_law_take T.F_law_take.kp T.b_law_take .nil pass0 (pa_cons (pv 0) (pa_cons (pv 2) pa_nil)))) (pa_cons pe_int pa_nil)))))))
      (pss_one (ps_ret (pe_tup (pa_cons (pe_callTy (k_tuple_ofF (K := K)) (by rfl) T.z_tuple (by decide +kernel) (pa_cons (pv 3) pa_nil)) (pa_cons (pe_callTy (k_tuple_of (K := K)) (by rfl) T.z_tuple (by decide +kernel) (pa_cons (pv 5) pa_nil)) (pa_cons (pe_call (ok_law_field T) (hr.mono (by omega)) (by rfl) T.g_law_field T.F_law_field.kp T.b_law_field .nil pass0 (pa_cons (pv 0) (pa_cons (pe_call (ok_law_need T) (hr.mono (by omega)) (by rfl) T.g_law_need T.F_law_need.kp T.b_law_need .nil pass0 (pa_cons (pv 3) (pa_cons (pv 5) pa_nil))) pa_nil))) pa_nil))))))))), ?_⟩
  refine ⟨_, rfl, _, rfl, _, rfl, _, _, rfl, rfl, f, _, rfl, hF, by omega, by omega, fun k H1 e1 hF1 k0 k1 => ?_⟩
  refine ⟨f, k, rfl, hF1, k0, by omega, fun a H2 xs ha e2 hF2 hl xl nd nm => ?_⟩
  have naf : a ≠ f := hF1.ne ha
  refine ⟨Nat.le_of_lt (small1000 (by show 6 ≤ 1000; decide)), fun p1 hp1 => ?_⟩
  have e3 : Stp [f] H2 (upd H2 p1 (.lst [.int 1, .int 1, .int 1, .int 2, .int 3, .int 4])) := Stp.new hp1
  have np1 : p1 ≠ f := hF2.ne hp1
  refine ⟨_, rfl, f, 6, rfl, hF2.upd np1, by decide, by decide, fun d H4 e4 hF4 d0 d1 => ?_⟩
  obtain ⟨many, hmany, y0, y1⟩ : ∃ many : Int, atI [V.int 1, .int 1, .int 1, .int 2, .int 3, .int 4] d = some (.int many) ∧ 1 ≤ many ∧ many ≤ 4 := by
    have : d = 0 ∨ d = 1 ∨ d = 2 ∨ d = 3 ∨ d = 4 ∨ d = 5 := by omega
    rcases this with e | e | e | e | e | e <;> rw [e]
    · exact ⟨1, at0, by decide, by decide⟩
    · exact ⟨1, at1, by decide, by decide⟩
    · exact ⟨1, at2, by decide, by decide⟩
    · exact ⟨2, at3, by decide, by decide⟩
    · exact ⟨3, atI_nat (j := 4) rfl, by decide, by decide⟩
    · exact ⟨4, atI_nat (j := 5) rfl, by decide, by decide⟩
  refine ⟨p1, _, _, _, rfl, rfl, SqL.of (e4.k _ _ upd_same (by simpa using np1)), hmany, ?_⟩
  have hl4 := e4.k _ _ (e3.k _ _ hl (by simpa using naf)) (by simpa using naf)
  have e04 := (e1.trans e2).trans (e3.trans e4)
  refine ⟨_, rfl, many, rfl, by omega, by omega, fun D hD => lc_range (lo := 0) (n := many.toNat) (fun i H' => Stp [f] H4 H' ∧ FeedAt H' f ∧ ∃ ts us, ts.length = i ∧ H' D = some (.lst us) ∧ TreesAt H' ts us ∧ ∀ t ∈ ts, t.depth ≤ 9 ∧ (t.size : Int) ≤ room ∧ ∀ x ∈ t.names, x ∈ xs)
    ⟨Stp.new hD, hF4.step0 (Stp.new hD), [], [], rfl, upd_same, .nil, fun t h => by cases h⟩ ?_ ?_⟩
  · rintro i H5 hi ⟨e5, hF5, ts, us, tl, hD5, ht5, hts⟩
    have nDf : D ≠ f := hF4.ne hD
    refine ⟨rfl, ?_⟩
    refine ⟨_, rfl, _, rfl, _, rfl, _, rfl, f, room, rfl, hF5, by omega, by omega, fun r H6 e6 hF6 r0' r1' => ?_⟩
    refine ⟨_, _, rfl, rfl, ?_⟩
    refine ⟨f, a, xs, 1 + r, 9, rfl, hF6, (e5.trans e6).k _ _ hl4 (by simpa using naf), by omega, by omega, by omega, by decide, by decide, fun t v H7 e7 hF7 ht hsz hdp hnm => ?_⟩
    have hD7 := (e6.trans e7).k _ _ hD5 (by simpa using nDf)
    refine ⟨us, hD7, ?_, (e5.trans (e6.trans e7)).fresh hD, hF7.upd nDf, ts ++ [t], us ++ [v], by rw [List.length_append, tl]; rfl, upd_same, ?_, fun u hu => ?_⟩
    · rw [ht5.len, tl]; exact small1000 (by omega)
    · exact AllP.snoc (ht.step (l := [D]) (Stp.wrL hD7 (by simp))) ((ht5.step (e6.trans e7)).step (l := [D]) (Stp.wrL hD7 (by simp)))
    · rcases List.mem_append.mp hu with h | h
      · exact hts u h
      · have : u = t := by simpa using h
        rw [this]; exact ⟨by omega, by omega, hnm⟩
  rintro H5 ⟨e5, hF5, ts, us, tl, hD5, ht5, hts⟩
  have hl5 := e5.k _ _ hl4 (by simpa using naf)
  refine ⟨_, rfl, a, _, rfl, .inl ⟨SqL.of hl5, fun q1 o hq1 ho => ?_⟩⟩
  have e6 : Stp [f] H5 (upd H5 q1 (.frz o (.tup (xs.map V.str)))) := Stp.new hq1
  have hD6 : upd H5 q1 (.frz o (.tup (xs.map V.str))) D = some (.lst us) := by rw [upd_ne (ne_of_none hD5 hq1)]; exact hD5
  refine ⟨_, rfl, D, us, rfl, .inl ⟨SqL.of hD6, fun q2 hq2 => ?_⟩⟩
  have e7 : Stp [f] (upd H5 q1 (.frz o (.tup (xs.map V.str)))) (upd (upd H5 q1 (.frz o (.tup (xs.map V.str)))) q2 (.tup us)) := Stp.new hq2
  have e57 : Stp [] H5 _ := (Stp.new hq1).trans (Stp.new (l := []) (o := .tup us) hq2)
  have hF7 := hF5.step0 e57
  have nq12 : q1 ≠ q2 := fun z => by rw [← z, upd_same] at hq2; cases hq2
  refine ⟨_, rfl, _, rfl, _, rfl, ?_⟩
  refine ⟨a, D, xs, ts, us, rfl, e57.k _ _ hl5 (by simp), e57.k _ _ hD5 (by simp), ht5.step e57, by omega, by omega, fun t h => ⟨by have := (hts t h).1; omega, by have := (hts t h).2.1; omega⟩, fun m H8 e8 b1 b2 b3 b4 => ?_⟩
  refine ⟨f, m, rfl, hF7.step0 e8, b1, b3, fun p H9 e9 hF9 pr pm p9 => ?_⟩
  refine ⟨Nat.le_of_lt (small1000 (by show 3 ≤ 1000; decide)), fun c hc => ?_⟩
  have e10 : Stp [f] H9 (upd H9 c (.tup [.ref q1, .ref q2, .int p])) := Stp.new hc
  have e710 := (e8.nil.trans e9).trans e10
  refine q (.ref c) xs ts p _ (e04.trans (e5.trans (e57.nil.trans e710))) (hF9.step0 (Stp.new hc)) ⟨c, q1, q2, us, rfl, upd_same, tupF_step e710 ⟨o, by rw [upd_ne nq12]; exact upd_same, ho⟩, e710.t _ _ upd_same, (ht5.step e57).step e710⟩ ?_
  refine ⟨nd, nm, by omega, by omega, by omega, hts, pr, by omega, p9, fun x hx t ht => ?_, by omega⟩
  have := b4 x hx t ht
  omega

/-! ### drawn terms, rows -/
def Term.size : Term → Nat
  | .coin e => e.size + 1
  | .tru e => e.size + 1
  | .op _ a b => 1 + (a.size + b.size)
  | _ => 1
def Term.In (xs : List Str) : Term → Prop
  | .num n => 0 ≤ n ∧ n < 1000000000000
  | .box x => x ∈ xs
  | .coin e => e.In xs
  | .tru e => e.In xs
  | .op _ a b => a.In xs ∧ b.In xs
  | _ => True
def spGTerm (n : Nat) : Sp := fun vs H Q _ => ∃ (f l : Addr) (xs : List Str) (room deep : Int), vs = [.ref f, .ref l, .int room, .int deep] ∧ FeedAt H f ∧ H l = some (.lst (xs.map V.str)) ∧ 1 ≤ xs.length ∧ xs.length ≤ 20 ∧ 1 ≤ room ∧ room ≤ 1000 ∧ 1 ≤ deep ∧ deep ≤ n ∧
  ∀ (t : Term) (v : V) H', Stp [f] H H' → FeedAt H' f → TermAt H' t v → (t.size : Int) ≤ room → (t.depth : Int) ≤ deep → t.In xs → Q v H'
theorem ok_law_term (T : Tx K mg) : ∀ n : Nat, FnOk P w K mg base CX0 (n + 2) T.f_law_term T.d_law_term ["_law_feed_here", "_law_boxes", "_law_room", "_law_deep"] (spGTerm n)
  | 0 => none_ok (fun vs H Q E h => by
    obtain ⟨f, l, xs, room, deep, _, _, _, _, _, _, _, h1, h2, _⟩ := h
    have : deep ≤ 0 := h2
    omega) _
  | n + 1 => by
    have IH := ok_law_term T n
    refine T.F_law_term.ok sc_law_term (fun vs H Q E h => ?_) (fun cdv A outer s H vs Q E hr h => ?_)
    · obtain ⟨f, l, xs, room, deep, rfl, _⟩ := h
      rfl
    obtain ⟨f, l, xs, room, deep, rfl, hF, hl, x1, xl, r0, r1, d0, d1, q⟩ := h
    have dn : deep ≤ (n : Int) + 1 := by exact_mod_cast d1
    refine ⟨_, (pss_cons (ps_set (i := 4) sc_law_term.nd rfl (.inl rfl) (pe_call (ok_law_take T) (hr.mono (by omega)) (by rfl) T.g_law_take T.F_law_take.kp T.b_law_take .nil pass0 (pa_cons (pv 0) (pa_cons pe_int pa_nil))))
      (pss_cons (ps_if (PW.pt (pw_or (pt_cmpR op_lt (pv 2) pe_int (nomark _)) (pw_or (pt_cmpR op_lt (pv 3) pe_int (nomark _)) (pw_or1 (pt_cmpR op_lt (pv 4) pe_int (nomark _)))))) (pss_cons (ps_set (i := 5) sc_law_term.nd rfl (.inl rfl) (pe_lst (pa_cons (pe_tup (pa_cons pe_str pa_nil)) (pa_cons (pe_tup (pa_cons pe_str pa_nil)) (pa_cons (pe_tup (pa_cons pe_str pa_nil)) (pa_cons (pe_tup (pa_cons pe_str (pa_cons (pe_call (ok_law_take T) (hr.mono (by omega)) (by rfl) T.g_law_take T.F_law_take.kp T.b_law_take .nil pass0 (pa_cons (pv 0) (pa_cons pe_int pa_nil))) pa_nil))) (pa_cons (pe_tup (pa_cons pe_str (pa_cons (pe_call (ok_law_take T) (hr.mono (by omega)) (by rfl) T.g_law_take T.F_law_take.kp T.b_law_take .nil pass0 (pa_cons (pv 0) (pa_cons (pe_op op_pow pe_int pe_int) pa_nil))) pa_nil))) pa_nil)))))))
      (pss_cons (ps_if (pt_cmpR op_eq (pv 4) pe_int (nomark _)) (pss_one (ps_ret (pe_tup (pa_cons pe_str (pa_cons (pe_ix (k_ix_list (K := K)) (pv 1) (pe_call (ok_law_take T) (hr.mono (by omega)) (by rfl) T.g_law_take T.F_law_take.kp T.b_law_take .nil pass0 (pa_cons (pv 0) (pa_cons (pe_callB (k_len (K := K)) (by rfl) T.z_len (by decide +kernel) (pa_cons (pv 1) pa_nil)) pa_nil))) (fun _ _ => rfl)) pa_nil))))) pss_nil)
      (pss_one (ps_ret (pe_ix (k_ix_list (K := K)) (pv 5) (pe_call (ok_law_take T) (hr.mono (by omega)) (by rfl) T.g_law_take T.F_law_take.kp T.b_law_take .nil pass0 (pa_cons (pv 0) (pa_cons pe_int pa_nil))) (fun _ _ => rfl)))))) pss_nil)
      (pss_cons (ps_if (PW.pt (pw_or (pt_cmpR op_lt (pv 4) pe_int (nomark _)) (pw_or1 (pt_cmpR op_lt (pv 2) pe_int (nomark _))))) (pss_one (ps_ret (pe_tup (pa_cons (pe_ix (k_ix_list (K := K)) (pe_lst (pa_cons pe_str (pa_cons pe_str pa_nil))) (pe_call (ok_law_take T) (hr.mono (by omega)) (by rfl) T.g_law_take T.F_law_take.kp T.b_law_take .nil pass0 (pa_cons (pv 0) (pa_cons pe_int pa_nil))) (fun _ _ => rfl)) (pa_cons (pe_call IH (hr.mono (by omega)) (by rfl) T.g_law_term T.F_law_term.kp T.b_law_term .nil pass0 (pa_cons (pv 0) (pa_cons (pv 1) (pa_cons (pe_op op_sub (pv 2) pe_int) (pa_cons (pe_op op_sub (pv 3) pe_int) pa_nil))))) pa_nil))))) pss_nil)
      (pss_cons (ps_set (i := 6) sc_law_term.nd rfl (.inl rfl) (pe_op op_add pe_int (pe_call (ok_law_take T) (hr.mono (by omega)) (by rfl) T.g_law_take T.F_law_take.kp T.b_law_take .nil pass0 (pa_cons (pv 0) (pa_cons (pe_op op_sub (pv 2) pe_int) pa_nil)))))
      (pss_cons (ps_set (i := 7) sc_law_term.nd rfl (.inl rfl) (pe_call IH (hr.mono (by omega)) (by rfl) T.g_law_term T.F_law_term.kp T.b_law_term .nil pass0 (pa_cons (pv 0) (pa_cons (pv 1) (pa_cons (pv 6) (pa_cons (pe_op op_sub (pv 3) pe_int) pa_nil))))))
      (pss_one (ps_ret (pe_tup (pa_cons pe_str (pa_cons (pe_ix ix_str pe_str (pe_call (ok_law_take T) (hr.mono (by omega)) (by rfl) T.g_law_take T.F_law_take.kp T.b_law_take .nil pass0 (pa_cons (pv 0) (pa_cons pe_int pa_nil))) (fun _ _ => rfl)) (pa_cons (pv 7) (pa_cons (pe_call IH (hr.mono (by omega)) (by rfl) T.g_law_term T.F_law_term.kp T.b_law_term .nil pass0 (pa_cons (pv 0) (pa_cons (pv 1) (pa_cons (pe_op op_sub (pe_op op_sub (pv 2) pe_int) (pv 6)) (pa_cons (pe_op op_sub (pv 3) pe_int) pa_nil))))) pa_nil)))))))))))), ?_⟩
    have nlf : l ≠ f := hF.neS hl
    refine ⟨_, rfl, f, 9, rfl, hF, by decide, by decide, fun form H1 e1 hF1 f0 f1 => ?_⟩
    have hl1 := e1.k _ _ hl (by simpa using nlf)
    walk_at "s"
    refine tor_dec (p := room < 2) (q := deep < 2 ∨ form < 4) ?_ ?_ ?_
    · exact fun Q' h => ⟨_, rfl, _, _, rfl, rfl, _, rfl, h⟩
    · intro Q' h
      refine tor_dec (p := deep < 2) (q := form < 4) ?_ ?_ h
      · exact fun Q' h => ⟨_, rfl, _, _, rfl, rfl, _, rfl, h⟩
      · exact fun Q' h => ⟨_, rfl, _, _, rfl, rfl, _, rfl, h⟩
    by_cases c1 : room < 2 ∨ deep < 2 ∨ form < 4
    · rw [decide_eq_true c1, if_pos rfl]
      refine ⟨Nat.le_of_lt (small1000 (by show 1 ≤ 1000; decide)), fun p1 hp1 => ?_⟩
      refine ⟨Nat.le_of_lt (small1000 (by show 1 ≤ 1000; decide)), fun p2 hp2 => ?_⟩
      refine ⟨Nat.le_of_lt (small1000 (by show 1 ≤ 1000; decide)), fun p3 hp3 => ?_⟩
      have e2 : Stp [] H1 _ := ((Stp.new hp1).trans (Stp.new hp2)).trans (Stp.new (o := .tup [.str "asked"]) hp3)
      refine ⟨_, rfl, f, 5, rfl, hF1.step0 e2, by decide, by decide, fun k5 H3 e3 hF3 k50 k51 => ?_⟩
      refine ⟨Nat.le_of_lt (small1000 (by show 2 ≤ 1000; decide)), fun p4 hp4 => ?_⟩
      have e4 : Stp [] H3 (upd H3 p4 (.tup [.str "num", .int k5])) := Stp.new hp4
      refine ⟨_, rfl, _, _, rfl, rfl, ⟨by decide, by decide, by decide⟩, f, _, rfl, hF3.step0 e4, by decide, by decide, fun kb H5 e5 hF5 kb0 kb1 => ?_⟩
      have kb1' : kb < 1000000000000 := kb1
      refine ⟨Nat.le_of_lt (small1000 (by show 2 ≤ 1000; decide)), fun p5 hp5 => ?_⟩
      refine ⟨Nat.le_of_lt (small1000 (by show 5 ≤ 1000; decide)), fun p6 hp6 => ?_⟩
      have e6 : Stp [] H5 _ := (Stp.new (o := .tup [.str "num", .int kb]) hp5).trans (Stp.new (o := .lst [.ref p1, .ref p2, .ref p3, .ref p4, .ref p5]) hp6)
      have n6 : p6 ≠ f := (hF5.step0 (Stp.new (l := []) hp5)).ne hp6
      have hF6 := hF5.step0 e6
      have e16 := e2.nil.trans (e3.trans (e4.nil.trans (e5.trans e6.nil)))
      have hl6 := e16.k _ _ hl1 (by simpa using nlf)
      have e36 := e3.trans (e4.nil.trans (e5.trans e6.nil))
      have t1 : TermAt _ .round (.ref p1) := ⟨p1, rfl, e36.t _ _ (((Stp.new (l := []) hp2).trans (Stp.new hp3)).t _ _ upd_same)⟩
      have t2 : TermAt _ .due (.ref p2) := ⟨p2, rfl, e36.t _ _ ((Stp.new (l := []) hp3).t _ _ upd_same)⟩
      have t3 : TermAt _ .asked (.ref p3) := ⟨p3, rfl, e36.t _ _ upd_same⟩
      have t4 : TermAt _ (.num k5) (.ref p4) := ⟨p4, rfl, (e5.trans e6.nil).t _ _ upd_same⟩
      have t5 : TermAt _ (.num kb) (.ref p5) := ⟨p5, rfl, (Stp.new (l := []) (o := .lst [.ref p1, .ref p2, .ref p3, .ref p4, .ref p5]) hp6).t _ _ upd_same⟩
      have hp6l := upd_same (H := upd H5 p5 (.tup [.str "num", .int kb])) (a := p6) (o := .lst [.ref p1, .ref p2, .ref p3, .ref p4, .ref p5])
      refine ⟨_, rfl, rfl, _, rfl, ?_⟩
      rw [int_dec]
      by_cases c3 : form = 3
      · rw [decide_eq_true c3]
        refine ⟨_, rfl, _, rfl, _, rfl, l, _, rfl, .inl (SqL.of hl6), ?_⟩
        rw [List.length_map]
        refine ⟨f, _, rfl, hF6, by omega, by omega, fun k H7 e7 hF7 k0 k1 => ?_⟩
        have hl7 := e7.k _ _ hl6 (by simpa using nlf)
        obtain ⟨x, hx⟩ : ∃ x, xs[k.toNat]? = some x := ⟨_, List.getElem?_eq_getElem (by omega)⟩
        refine ⟨l, _, _, .str x, rfl, rfl, SqL.of hl7, at_of (j := k.toNat) (by omega) (by rw [List.getElem?_map, hx]; rfl), Nat.le_of_lt (small1000 (by show 2 ≤ 1000; decide)), fun p hp => ?_⟩
        exact q (.box x) _ _ (((e1.trans e16).trans e7).trans (Stp.new hp)) (hF7.step0 (Stp.new hp)) ⟨p, rfl, upd_same⟩ r0 d0 (List.mem_of_getElem? hx)
      · rw [decide_eq_false c3]
        refine ⟨_, rfl, _, rfl, f, 5, rfl, hF6, by decide, by decide, fun d H7 e7 hF7 d0' d1' => ?_⟩
        have h7 := e7.k _ _ hp6l (by simpa using n6)
        have e17 := (e1.trans e16).trans e7
        have : d = 0 ∨ d = 1 ∨ d = 2 ∨ d = 3 ∨ d = 4 := by omega
        rcases this with rfl | rfl | rfl | rfl | rfl
        · exact ⟨p6, _, _, _, rfl, rfl, SqL.of h7, at0, q .round _ H7 e17 hF7 (t1.step e7) r0 d0 trivial⟩
        · exact ⟨p6, _, _, _, rfl, rfl, SqL.of h7, at1, q .due _ H7 e17 hF7 (t2.step e7) r0 d0 trivial⟩
        · exact ⟨p6, _, _, _, rfl, rfl, SqL.of h7, at2, q .asked _ H7 e17 hF7 (t3.step e7) r0 d0 trivial⟩
        · exact ⟨p6, _, _, _, rfl, rfl, SqL.of h7, at3, q (.num k5) _ H7 e17 hF7 (t4.step e7) r0 d0 ⟨k50, by omega⟩⟩
        · exact ⟨p6, _, _, _, rfl, rfl, SqL.of h7, atI_nat (j := 4) rfl, q (.num kb) _ H7 e17 hF7 (t5.step e7) r0 d0 ⟨kb0, kb1'⟩⟩
    · rw [decide_eq_false c1, if_neg (by decide)]
      have r2 : 2 ≤ room := by omega
      have d2 : 2 ≤ deep := by omega
      change tOr _ _ _ _ _
      refine tor_dec (p := form < 6) (q := room < 3) ?_ ?_ ?_
      · exact fun Q' h => ⟨_, rfl, _, _, rfl, rfl, _, rfl, h⟩
      · exact fun Q' h => ⟨_, rfl, _, _, rfl, rfl, _, rfl, h⟩
      by_cases c3 : form < 6 ∨ room < 3
      · rw [decide_eq_true c3, if_pos rfl]
        refine ⟨Nat.le_of_lt (small1000 (by show 2 ≤ 1000; decide)), fun p1 hp1 => ?_⟩
        have n1 : p1 ≠ f := hF1.ne hp1
        have e2 : Stp [f] H1 (upd H1 p1 (.lst [.str "coin", .str "true"])) := Stp.new hp1
        refine ⟨_, rfl, f, 2, rfl, hF1.upd n1, by decide, by decide, fun k H3 e3 hF3 k0 k1 => ?_⟩
        have hl3 := e3.k _ _ (e2.k _ _ hl1 (by simpa using nlf)) (by simpa using nlf)
        have hp3 := e3.k _ _ (upd_same (H := H1) (a := p1) (o := .lst [.str "coin", .str "true"])) (by simpa using n1)
        have go : ∀ (word : Str), (∀ (t : Term) (v : V) (H5 : Hp) p, H5 p = some (.tup [.str word, v]) → TermAt H5 t v → ∃ t' : Term, TermAt H5 t' (.ref p) ∧ t'.size = t.size + 1 ∧ t'.depth = t.depth + 1 ∧ (t.In xs → t'.In xs)) → tCall (spGTerm n) [] E0 (tCons (tVar 0) (tCons (tVar 1) (tCons (tOp (rI0 fun i j => V.int (i - j)) (tVar 2) (tC (V.int 1))) (tCons (tOp (rI0 fun i j => V.int (i - j)) (tVar 3) (tC (V.int 1))) tNil))))
            [some (V.ref f), some (V.ref l), some (V.int room), some (V.int deep), some (V.int form), none, none] H3 (fun v H4 => 2 ≤ sizeLine ∧ ∀ p, H4 p = none → Q (.ref p) (upd H4 p (.tup [.str word, v]))) := by
          intro word hw
          refine ⟨_, rfl, _, rfl, _, rfl, _, _, rfl, rfl, _, rfl, _, _, rfl, rfl, ?_⟩
          refine ⟨f, l, xs, room - 1, deep - 1, rfl, hF3, hl3, x1, xl, by omega, by omega, by omega, by omega, fun t v H4 e4 hF4 ht hs hd hn => ?_⟩
          refine ⟨Nat.le_of_lt (small1000 (by show 2 ≤ 1000; decide)), fun p hp => ?_⟩
          obtain ⟨t', a1, a2, a3, a4⟩ := hw t v (upd H4 p (.tup [.str word, v])) p upd_same (ht.step (Stp.new (l := []) hp))
          refine q t' _ _ (((e1.trans e2).trans (e3.trans e4)).trans (Stp.new hp)) (hF4.step0 (Stp.new hp)) a1 (by omega) (by omega) (a4 hn)
        have : k = 0 ∨ k = 1 := by omega
        rcases this with rfl | rfl
        · exact ⟨p1, _, _, _, rfl, rfl, SqL.of hp3, at0, go "coin" fun t v H5 p h1 h2 => ⟨.coin t, ⟨p, v, rfl, h1, h2⟩, rfl, rfl, id⟩⟩
        · exact ⟨p1, _, _, _, rfl, rfl, SqL.of hp3, at1, go "true" fun t v H5 p h1 h2 => ⟨.tru t, ⟨p, v, rfl, h1, h2⟩, rfl, rfl, id⟩⟩
      rw [decide_eq_false c3, if_neg (by decide)]
      have r3 : 3 ≤ room := by omega
      refine ⟨_, rfl, _, rfl, _, _, rfl, rfl, f, room - 2, rfl, hF1, by omega, by omega, fun m H2 e2 hF2 m0 m1 => ?_⟩
      have hl2 := e2.k _ _ hl1 (by simpa using nlf)
      refine ⟨_, _, rfl, rfl, ?_⟩
      refine ⟨_, rfl, _, rfl, _, rfl, _, rfl, _, _, rfl, rfl, ?_⟩
      refine ⟨f, l, xs, 1 + m, deep - 1, rfl, hF2, hl2, x1, xl, by omega, by omega, by omega, by omega, fun ta va H3 e3 hF3 hta hsa hda hna => ?_⟩
      have hl3 := e3.k _ _ hl2 (by simpa using nlf)
      refine ⟨_, rfl, f, 6, rfl, hF3, by decide, by decide, fun k H4 e4 hF4 k0 k1 => ?_⟩
      have hl4 := e4.k _ _ hl3 (by simpa using nlf)
      obtain ⟨s, c, hc, hs⟩ : ∃ (s : Sg) (c : Nat), atI (("+-*/=<" : Str)).cps.toList k = some c ∧ (⟨#[c]⟩ : Str) = s.str := by
        have et : (("+-*/=<" : Str)).cps.toList = [43, 45, 42, 47, 61, 60] := by decide +kernel
        rw [et]
        have : k = 0 ∨ k = 1 ∨ k = 2 ∨ k = 3 ∨ k = 4 ∨ k = 5 := by omega
        rcases this with rfl | rfl | rfl | rfl | rfl | rfl
        · exact ⟨.add, 43, rfl, by decide +kernel⟩
        · exact ⟨.sub, 45, rfl, by decide +kernel⟩
        · exact ⟨.mul, 42, rfl, by decide +kernel⟩
        · exact ⟨.div, 47, rfl, by decide +kernel⟩
        · exact ⟨.eq, 61, rfl, by decide +kernel⟩
        · exact ⟨.lt, 60, rfl, by decide +kernel⟩
      have hsl : (("+-*/=<" : Str)).length ≤ sizeLine := Nat.le_of_lt (small1000 (by decide +kernel))
      refine ⟨_, _, c, rfl, rfl, hsl, hc, ?_⟩
      rw [hs]
      refine ⟨_, rfl, _, rfl, _, rfl, _, rfl, _, _, rfl, rfl, _, rfl, _, _, rfl, rfl, _, rfl, _, _, rfl, rfl, ?_⟩
      refine ⟨f, l, xs, room - 1 - (1 + m), deep - 1, rfl, hF4, hl4, x1, xl, by omega, by omega, by omega, by omega, fun tb vb H5 e5 hF5 htb hsb hdb hnb => ?_⟩
      refine ⟨Nat.le_of_lt (small1000 (by show 4 ≤ 1000; decide)), fun r hr5 => ?_⟩
      have e6 : Stp [f] H5 (upd H5 r (.tup [.str "op", .str s.str, va, vb])) := Stp.new hr5
      refine q (.op s ta tb) _ _ (((((e1.trans e2).trans e3).trans e4).trans e5).trans e6) (hF5.step0 (Stp.new hr5)) ⟨r, va, vb, rfl, upd_same, hta.step (e4.trans (e5.trans e6)), htb.step e6⟩ ?_ ?_ ⟨hna, hnb⟩
      · show (((1 + (ta.size + tb.size) : Nat)) : Int) ≤ room; omega
      · show (((max ta.depth tb.depth + 1 : Nat)) : Int) ≤ deep; omega

/-! ### drawn helpers -/
def Row.In (xs : List Str) (n : Int) : Row → Prop
  | .set x e => x ∈ xs ∧ e.In xs ∧ e.size ≤ 20
  | .say e => e.In xs ∧ e.size ≤ 20
  | .iff e k => e.In xs ∧ e.size ≤ 20 ∧ 0 ≤ k ∧ k < n
  | .go k => 0 ≤ k ∧ k < n
  | .fin => True
def spGHelper : Sp := fun vs H Q _ => ∃ (f l : Addr) (xs : List Str) (most : Int), vs = [.ref f, .ref l, .int most] ∧ FeedAt H f ∧ H l = some (.lst (xs.map V.str)) ∧ 1 ≤ xs.length ∧ xs.length ≤ 20 ∧ 0 ≤ most ∧ most ≤ 100 ∧
  ∀ (c : Addr) (us : List V) (rows : List Row) H', Stp [f] H H' → FeedAt H' f → H' c = some (.tup us) → RowsAt H' rows us → (rows.length : Int) ≤ most → (∀ r ∈ rows, r.dep 5 ∧ r.In xs rows.length) → Q (.ref c) H'
theorem ok_law_helper (T : Tx K mg) : FnOk P w K mg base CX0 8 T.f_law_helper T.d_law_helper ["_law_feed_here", "_law_boxes", "_law_most"] spGHelper := by
  refine T.F_law_helper.ok sc_law_helper (fun vs H Q E h => ?_) (fun cdv A outer s H vs Q E hr h => ?_)
  · obtain ⟨f, l, xs, most, rfl, _⟩ := h
    rfl
  obtain ⟨f, l, xs, most, rfl, hF, hl, x1, xl, m0, m1, q⟩ := h
  refine ⟨_, (pss_cons (ps_set (i := 3) sc_law_helper.nd rfl (.inl rfl) (pe_lst pa_nil))
      (pss_cons (ps_set (i := 4) sc_law_helper.nd rfl (.inl rfl) (pe_call (ok_law_take T) (hr.mono (by omega)) (by rfl) T.g_law_take T.F_law_take.kp T.b_law_take .nil pass0 (pa_cons (pv 0) (pa_cons (pe_op op_add (pv 2) pe_int) pa_nil))))
      (pss_cons (ps_for PassesOwn.never rfl (pi_range1 (by rfl) T.z_range (pa_cons (pv 4) pa_nil)) (pg_name (i := 5) sc_law_helper.nd (by rfl) (Or.inl (by rfl)))
      (pss_cons (ps_set (i := 6) sc_law_helper.nd rfl (.inl rfl) (pe_call (ok_law_take T) (hr.mono (by omega)) (by rfl) T.g_law_take T.F_law_take.kp T.b_law_take .nil pass0 (pa_cons (pv 0) (pa_cons pe_int pa_nil))))
      (pss_one (ps_if (pt_cmpR op_lt (pv 6) pe_int (nomark _)) (pss_one (ps_expr (k_bm (K := K) PySem.F.plainAttrs_list PySem.F.slot_list_append PySem.F.type_list_append mt_append (pv 3) (pa_cons (pe_tup (pa_cons pe_str (pa_cons (pe_call (ok_law_term T 5) (hr.mono (by omega)) (by rfl) T.g_law_term T.F_law_term.kp T.b_law_term .nil pass0 (pa_cons (pv 0) (pa_cons (pv 1) (pa_cons pe_int (pa_cons pe_int pa_nil))))) pa_nil))) pa_nil)))) (pss_one (ps_if (pt_cmpR op_lt (pv 6) pe_int (nomark _)) (pss_one (ps_expr (k_bm (K := K) PySem.F.plainAttrs_list PySem.F.slot_list_append PySem.F.type_list_append mt_append (pv 3) (pa_cons (pe_tup (pa_cons pe_str (pa_cons (pe_ix (k_ix_list (K := K)) (pv 1) (pe_call (ok_law_take T) (hr.mono (by omega)) (by rfl) T.g_law_take T.F_law_take.kp T.b_law_take .nil pass0 (pa_cons (pv 0) (pa_cons (pe_callB (k_len (K := K)) (by rfl) T.z_len (by decide +kernel) (pa_cons (pv 1) pa_nil)) pa_nil))) (fun _ _ => rfl)) (pa_cons (pe_call (ok_law_term T 5) (hr.mono (by omega)) (by rfl) T.g_law_term T.F_law_term.kp T.b_law_term .nil pass0 (pa_cons (pv 0) (pa_cons (pv 1) (pa_cons pe_int (pa_cons pe_int pa_nil))))) pa_nil)))) pa_nil)))) (pss_one (ps_if (pt_cmpR op_eq (pv 6) pe_int (nomark _)) (pss_one (ps_expr (k_bm (K := K) PySem.F.plainAttrs_list PySem.F.slot_list_append PySem.F.type_list_append mt_append (pv 3) (pa_cons (pe_tup (pa_cons pe_str (pa_cons (pe_call (ok_law_term T 5) (hr.mono (by omega)) (by rfl) T.g_law_term T.F_law_term.kp T.b_law_term .nil pass0 (pa_cons (pv 0) (pa_cons (pv 1) (pa_cons pe_int (pa_cons pe_int pa_nil))))) (pa_cons (pe_call (ok_law_take T) (hr.mono (by omega)) (by rfl) T.g_law_take T.F_law_take.kp T.b_law_take .nil pass0 (pa_cons (pv 0) (pa_cons (pv 4) pa_nil))) pa_nil)))) pa_nil)))) (pss_one (ps_if (pt_cmpR op_eq (pv 6) pe_int (nomark _)) (pss_one (ps_expr (k_bm (K := K) PySem.F.plainAttrs_list PySem.F.slot_list_append PySem.F.type_list_append mt_append (pv 3) (pa_cons (pe_tup (pa_cons pe_str (pa_cons (pe_call (ok_law_take T) (hr.mono (by omega)) (by rfl) T.g_law_take T.F_law_take.kp T.b_law_take .nil pass0 (pa_cons (pv 0) (pa_cons (pv 4) pa_nil))) pa_nil))) pa_nil)))) (pss_one (ps_expr (k_bm (K := K) PySem.F.plainAttrs_list PySem.F.slot_list_append PySem.F.type_list_append mt_append (pv 3) (pa_cons (pe_tup (pa_cons pe_str pa_nil)) pa_nil))))))))))))))
      (pss_one (ps_ret (pe_callTy (k_tuple_of (K := K)) (by rfl) T.z_tuple (by decide +kernel) (pa_cons (pv 3) pa_nil))))))), ?_⟩
  have nlf : l ≠ f := hF.neS hl
  refine ⟨Nat.zero_le _, fun D hD => ?_⟩
  have nDf : D ≠ f := hF.ne hD
  have e1 : Stp [f] H (upd H D (.lst [])) := Stp.new hD
  have nDl : D ≠ l := fun z => by rw [z, hl] at hD; cases hD
  refine ⟨_, rfl, _, rfl, _, _, rfl, rfl, f, _, rfl, hF.upd nDf, by omega, by omega, fun many H2 e2 hF2 y0 y1 => ?_⟩
  have hD2 := e2.k _ _ (upd_same (H := H) (a := D) (o := .lst [])) (by simpa using nDf)
  refine ⟨_, rfl, many, rfl, by omega, by omega, for_range (lo := 0) (n := many.toNat) (fun i σ H' => ∃ (y5 y6 : Option V) (rows : List Row) (us : List V), σ = [some (.ref f), some (.ref l), some (.int most), some (.ref D), some (.int many), y5, y6] ∧
      Stp [f] H H' ∧ FeedAt H' f ∧ rows.length = i ∧ H' D = some (.lst us) ∧ RowsAt H' rows us ∧ ∀ r ∈ rows, r.dep 5 ∧ r.In xs many)
    ⟨none, none, [], [], rfl, e1.trans e2, hF2, rfl, hD2, .nil, fun r h => by cases h⟩ ?_ ?_⟩
  · rintro i σ H3 hi ⟨y5, y6, rows, us, rfl, e3, hF3, rl, hD3, hrs, hin⟩
    have hl3 := e3.k _ _ hl (by simpa using nlf)
    have ul : us.length = i := by rw [AllP.len hrs, rl]
    -- a row is put behind
    have put : ∀ (row : Row) (v : V) (H4 : Hp), Stp [f] H3 H4 → FeedAt H4 f → RowAt H4 row v → row.dep 5 → row.In xs many → H4 D = some (.lst us) ∧ us.length < sizeLine ∧ ∃ (rows : List Row) (us' : List V), us ++ [v] = us' ∧ 
        Stp [f] H (upd H4 D (.lst us')) ∧ FeedAt (upd H4 D (.lst us')) f ∧ rows.length = i + 1 ∧ (upd H4 D (.lst us')) D = some (.lst us') ∧ RowsAt (upd H4 D (.lst us')) rows us' ∧ ∀ r ∈ rows, r.dep 5 ∧ r.In xs many := by
      intro row v H4 e4 hF4 hr4 hd4 hi4
      have hD4 := e4.k _ _ hD3 (by simpa using nDf)
      have eD : Stp [D] H4 (upd H4 D (.lst (us ++ [v]))) := Stp.wrL hD4 (by simp)
      refine ⟨hD4, by rw [ul]; exact small1000 (by omega), rows ++ [row], us ++ [v], rfl, (e3.trans e4).fresh hD, hF4.upd nDf, by rw [List.length_append, rl]; rfl, upd_same, AllP.snoc (RowAt.step eD row v hr4) (AllP.mono (fun r v h => RowAt.step eD r v (RowAt.step e4 r v h)) hrs), fun r hr => ?_⟩
      rcases List.mem_append.mp hr with h | h
      · exact hin r h
      · have : r = row := by simpa using h
        rw [this]; exact ⟨hd4, hi4⟩
    refine ⟨_, rfl, f, 8, rfl, hF3, by decide, by decide, fun form H4 e4 hF4 f0 f1 => ?_⟩
    have hl4 := e4.k _ _ hl3 (by simpa using nlf)
    refine ⟨_, rfl, _, _, rfl, rfl, _, rfl, ?_⟩
    by_cases c1 : form < 3
    · rw [decide_eq_true c1]
      refine ⟨_, rfl, .inl ⟨rfl, _, SqL.of (e4.k _ _ hD3 (by simpa using nDf))⟩, _, rfl, _, rfl, f, l, xs, 6, 5, rfl, hF4, hl4, x1, xl, by decide, by decide, by decide, by decide, fun t v H5 e5 hF5 ht hs hd hn => ?_⟩
      refine ⟨Nat.le_of_lt (small1000 (by show 2 ≤ 1000; decide)), fun p hp => ?_⟩
      have e6 : Stp [f] H5 (upd H5 p (.tup [.str "say", v])) := Stp.new hp
      obtain ⟨hD6, hu6, rows', us', rfl, g1, g2, g3, g4, g5, g6⟩ := put (.say t) (.ref p) _ ((e4.trans e5).trans e6) (hF5.step0 (Stp.new hp)) ⟨p, v, rfl, upd_same, ht.step e6⟩ (by show t.depth ≤ 5; omega) ⟨hn, by omega⟩
      exact ⟨D, _, _, rfl, rfl, hD6, hu6, _, _, rows', _, rfl, g1, g2, g3, g4, g5, g6⟩
    rw [decide_eq_false c1]
    refine ⟨_, rfl, _, _, rfl, rfl, _, rfl, ?_⟩
    by_cases c2 : form < 5
    · rw [decide_eq_true c2]
      refine ⟨_, rfl, .inl ⟨rfl, _, SqL.of (e4.k _ _ hD3 (by simpa using nDf))⟩, _, rfl, _, rfl, _, rfl, l, _, rfl, .inl (SqL.of hl4), ?_⟩
      rw [List.length_map]
      refine ⟨f, _, rfl, hF4, by omega, by omega, fun k H5 e5 hF5 k0 k1 => ?_⟩
      have hl5 := e5.k _ _ hl4 (by simpa using nlf)
      obtain ⟨x, hx⟩ : ∃ x, xs[k.toNat]? = some x := ⟨_, List.getElem?_eq_getElem (by omega)⟩
      refine ⟨l, _, _, .str x, rfl, rfl, SqL.of hl5, at_of (j := k.toNat) (by omega) (by rw [List.getElem?_map, hx]; rfl), ?_⟩
      refine ⟨_, rfl, _, rfl, f, l, xs, 6, 5, rfl, hF5, hl5, x1, xl, by decide, by decide, by decide, by decide, fun t v H6 e6 hF6 ht hs hd hn => ?_⟩
      refine ⟨Nat.le_of_lt (small1000 (by show 3 ≤ 1000; decide)), fun p hp => ?_⟩
      have e7 : Stp [f] H6 (upd H6 p (.tup [.str "set", .str x, v])) := Stp.new hp
      obtain ⟨hD6, hu6, rows', us', rfl, g1, g2, g3, g4, g5, g6⟩ := put (.set x t) (.ref p) _ ((e4.trans e5).trans (e6.trans e7)) (hF6.step0 (Stp.new hp)) ⟨p, v, rfl, upd_same, ht.step e7⟩ (by show t.depth ≤ 5; omega) ⟨List.mem_of_getElem? hx, hn, by omega⟩
      exact ⟨D, _, _, rfl, rfl, hD6, hu6, _, _, rows', _, rfl, g1, g2, g3, g4, g5, g6⟩
    rw [decide_eq_false c2]
    refine ⟨_, rfl, rfl, _, rfl, ?_⟩
    rw [int_dec]
    by_cases c3 : form = 5
    · rw [decide_eq_true c3]
      refine ⟨_, rfl, .inl ⟨rfl, _, SqL.of (e4.k _ _ hD3 (by simpa using nDf))⟩, _, rfl, _, rfl, f, l, xs, 5, 4, rfl, hF4, hl4, x1, xl, by decide, by decide, by decide, by decide, fun t v H5 e5 hF5 ht hs hd hn => ?_⟩
      refine ⟨_, rfl, _, rfl, f, many, rfl, hF5, by omega, by omega, fun k H6 e6 hF6 k0 k1 => ?_⟩
      refine ⟨Nat.le_of_lt (small1000 (by show 3 ≤ 1000; decide)), fun p hp => ?_⟩
      have e7 : Stp [f] H6 (upd H6 p (.tup [.str "if", v, .int k])) := Stp.new hp
      obtain ⟨hD6, hu6, rows', us', rfl, g1, g2, g3, g4, g5, g6⟩ := put (.iff t k) (.ref p) _ ((e4.trans e5).trans (e6.trans e7)) (hF6.step0 (Stp.new hp)) ⟨p, v, rfl, upd_same, ht.step (e6.trans e7)⟩ (by show t.depth ≤ 5; omega) ⟨hn, by omega, k0, k1⟩
      exact ⟨D, _, _, rfl, rfl, hD6, hu6, _, _, rows', _, rfl, g1, g2, g3, g4, g5, g6⟩
    rw [decide_eq_false c3]
    refine ⟨_, rfl, rfl, _, rfl, ?_⟩
    rw [int_dec]
    by_cases c4 : form = 6
    · rw [decide_eq_true c4]
      refine ⟨_, rfl, .inl ⟨rfl, _, SqL.of (e4.k _ _ hD3 (by simpa using nDf))⟩, _, rfl, _, rfl, f, many, rfl, hF4, by omega, by omega, fun k H6 e6 hF6 k0 k1 => ?_⟩
      refine ⟨Nat.le_of_lt (small1000 (by show 2 ≤ 1000; decide)), fun p hp => ?_⟩
      have e7 : Stp [f] H6 (upd H6 p (.tup [.str "go", .int k])) := Stp.new hp
      obtain ⟨hD6, hu6, rows', us', rfl, g1, g2, g3, g4, g5, g6⟩ := put (.go k) (.ref p) _ (e4.trans (e6.trans e7)) (hF6.step0 (Stp.new hp)) ⟨p, rfl, upd_same⟩ trivial ⟨k0, k1⟩
      exact ⟨D, _, _, rfl, rfl, hD6, hu6, _, _, rows', _, rfl, g1, g2, g3, g4, g5, g6⟩
    · rw [decide_eq_false c4]
      refine ⟨_, rfl, .inl ⟨rfl, _, SqL.of (e4.k _ _ hD3 (by simpa using nDf))⟩, ?_⟩
      refine ⟨Nat.le_of_lt (small1000 (by show 1 ≤ 1000; decide)), fun p hp => ?_⟩
      have e7 : Stp [f] H4 (upd H4 p (.tup [.str "end"])) := Stp.new hp
      obtain ⟨hD6, hu6, rows', us', rfl, g1, g2, g3, g4, g5, g6⟩ := put .fin (.ref p) _ (e4.trans e7) (hF4.step0 (Stp.new hp)) ⟨p, rfl, upd_same⟩ trivial trivial
      exact ⟨D, _, _, rfl, rfl, hD6, hu6, _, _, rows', _, rfl, g1, g2, g3, g4, g5, g6⟩
  · rintro σ H3 ⟨y5, y6, rows, us, rfl, e3, hF3, rl, hD3, hrs, hin⟩
    refine ⟨_, rfl, D, us, rfl, .inl ⟨SqL.of hD3, fun c hc => ?_⟩⟩
    have e4 : Stp [] H3 (upd H3 c (.tup us)) := Stp.new hc
    refine q c us rows _ (e3.trans e4.nil) (hF3.step0 e4) upd_same (AllP.mono (fun r v h => RowAt.step e4 r v h) hrs) (by omega) fun r hr => ?_
    have := hin r hr
    have e : (rows.length : Int) = many := by omega
    rw [e]; exact this
def spGLiar : Sp := fun vs H Q _ => ∃ (f : Addr) (x : Str), vs = [.ref f, .str x] ∧ FeedAt H f ∧
  ∀ (c : Addr) (us : List V) (rows : List Row) H', Stp [f] H H' → FeedAt H' f → H' c = some (.tup us) → RowsAt H' rows us → rows.length = 4 → (∀ r ∈ rows, r.dep 6 ∧ r.In [x] rows.length) → Q (.ref c) H'
theorem ok_law_liar (T : Tx K mg) : FnOk P w K mg base CX0 2 T.f_law_liar T.d_law_liar ["_law_feed_here", "_law_box"] spGLiar := by
  refine T.F_law_liar.ok sc_law_liar (fun vs H Q E h => ?_) (fun cdv A outer s H vs Q E hr h => ?_)
  · obtain ⟨f, x, rfl, _⟩ := h
    rfl
  obtain ⟨f, x, rfl, hF, q⟩ := h
  refine ⟨_, (pss_cons (ps_set (i := 2) sc_law_liar.nd rfl (.inl rfl) (pe_tup (pa_cons pe_str (pa_cons (pv 1) pa_nil))))
      (pss_cons (ps_set (i := 3) sc_law_liar.nd rfl (.inl rfl) (pe_tup (pa_cons pe_str (pa_cons pe_str (pa_cons (pv 2) (pa_cons (pe_tup (pa_cons pe_str (pa_cons (pe_call (ok_law_take T) (hr.mono (by omega)) (by rfl) T.g_law_take T.F_law_take.kp T.b_law_take .nil pass0 (pa_cons (pv 0) (pa_cons pe_int pa_nil))) pa_nil))) pa_nil))))))
      (pss_cons (ps_if (pt_cmpR op_gt (pe_call (ok_law_take T) (hr.mono (by omega)) (by rfl) T.g_law_take T.F_law_take.kp T.b_law_take .nil pass0 (pa_cons (pv 0) (pa_cons pe_int pa_nil))) pe_int (nomark _)) (pss_one (ps_set (i := 3) sc_law_liar.nd rfl (.inl rfl) (pe_tup (pa_cons pe_str (pa_cons pe_str (pa_cons (pv 3) (pa_cons (pe_tup (pa_cons pe_str (pa_cons pe_str (pa_cons (pe_tup (pa_cons pe_str pa_nil)) (pa_cons (pe_tup (pa_cons pe_str (pa_cons (pe_call (ok_law_take T) (hr.mono (by omega)) (by rfl) T.g_law_take T.F_law_take.kp T.b_law_take .nil pass0 (pa_cons (pv 0) (pa_cons pe_int pa_nil))) pa_nil))) pa_nil))))) pa_nil))))))) pss_nil)
      (pss_cons (ps_set (i := 4) sc_law_liar.nd rfl (.inl rfl) (pe_tup (pa_cons pe_str (pa_cons pe_str (pa_cons (pv 3) (pa_cons (pe_tup (pa_cons pe_str (pa_cons (pe_op op_add pe_int (pe_call (ok_law_take T) (hr.mono (by omega)) (by rfl) T.g_law_take T.F_law_take.kp T.b_law_take .nil pass0 (pa_cons (pv 0) (pa_cons pe_int pa_nil)))) pa_nil))) pa_nil))))))
      (pss_cons (ps_if (pt_cmpR op_eq (pe_call (ok_law_take T) (hr.mono (by omega)) (by rfl) T.g_law_take T.F_law_take.kp T.b_law_take .nil pass0 (pa_cons (pv 0) (pa_cons pe_int pa_nil))) pe_int (nomark _)) (pss_one (ps_set (i := 4) sc_law_liar.nd rfl (.inl rfl) (pe_tup (pa_cons pe_str (pa_cons pe_str (pa_cons (pv 3) (pa_cons (pe_tup (pa_cons pe_str (pa_cons pe_str (pa_cons (pe_tup (pa_cons pe_str (pa_cons (pe_tup (pa_cons pe_str (pa_cons (pe_op op_add pe_int (pe_call (ok_law_take T) (hr.mono (by omega)) (by rfl) T.g_law_take T.F_law_take.kp T.b_law_take .nil pass0 (pa_cons (pv 0) (pa_cons pe_int pa_nil)))) pa_nil))) pa_nil))) (pa_cons (pe_tup (pa_cons pe_str (pa_cons (pe_call (ok_law_take T) (hr.mono (by omega)) (by rfl) T.g_law_take T.F_law_take.kp T.b_law_take .nil pass0 (pa_cons (pv 0) (pa_cons pe_int pa_nil))) pa_nil))) pa_nil))))) pa_nil))))))) pss_nil)
      (pss_cons (ps_set (i := 5) sc_law_liar.nd rfl (.inl rfl) (pe_tup (pa_cons pe_str (pa_cons pe_str (pa_cons (pe_tup (pa_cons pe_str (pa_cons (pv 2) pa_nil))) (pa_cons (pv 4) pa_nil))))))
      (pss_one (ps_ret (pe_tup (pa_cons (pe_tup (pa_cons pe_str (pa_cons (pv 1) (pa_cons (pe_tup (pa_cons pe_str (pa_cons pe_int pa_nil))) pa_nil)))) (pa_cons (pe_tup (pa_cons pe_str (pa_cons (pv 5) pa_nil))) (pa_cons (pe_tup (pa_cons pe_str (pa_cons (pv 1) (pa_cons (pe_tup (pa_cons pe_str (pa_cons pe_str (pa_cons (pv 2) (pa_cons (pe_tup (pa_cons pe_str (pa_cons pe_int pa_nil))) pa_nil))))) pa_nil)))) (pa_cons (pe_tup (pa_cons pe_str (pa_cons pe_int pa_nil))) pa_nil))))))))))))), ?_⟩
  have s2 : 2 ≤ sizeLine := smallL (by decide)
  have s1 : 1 ≤ sizeLine := smallL (by decide)
  have s3 : 3 ≤ sizeLine := smallL (by decide)
  have s4 : 4 ≤ sizeLine := smallL (by decide)
  refine ⟨_, rfl, s2, fun p1 hp1 => ?_⟩
  have e1 : Stp [f] H (upd H p1 (.tup [.str "box", .str x])) := Stp.new hp1
  have tj : TermAt (upd H p1 (.tup [.str "box", .str x])) (.box x) (.ref p1) := ⟨p1, rfl, upd_same⟩
  refine ⟨_, rfl, _, rfl, f, 4, rfl, hF.step0 (Stp.new hp1), by decide, by decide, fun k2 H2 e2 hF2 k20 k21 => ?_⟩
  refine ⟨s2, fun p2 hp2 => ?_⟩
  refine ⟨s4, fun p3 hp3 => ?_⟩
  have e3 : Stp [] H2 _ := (Stp.new (o := .tup [.str "num", .int k2]) hp2).trans (Stp.new (o := .tup [.str "op", .str "=", .ref p1, .ref p2]) hp3)
  have tw : TermAt _ (.op .eq (.box x) (.num k2)) (.ref p3) := ⟨p3, .ref p1, .ref p2, rfl, upd_same, tj.step (e2.trans e3.nil), ⟨p2, rfl, (Stp.new (l := []) (o := .tup [.str "op", .str "=", .ref p1, .ref p2]) hp3).t _ _ upd_same⟩⟩
  have e03 := e1.trans (e2.trans e3.nil)
  dsimp only [gName]
  refine seq_split fun J hJ => ?_
  have rest : ∀ (w : Term) (vw : V) H3, Stp [f] H H3 → FeedAt H3 f → TermAt H3 w vw → TermAt H3 (.box x) (.ref p1) → w.depth ≤ 3 → w.size ≤ 7 → w.In [x] → J [some (.ref f), some (.str x), some (.ref p1), some vw, none, none] H3 := by
    intro w vw H3 e3 hF3 tw tj wd ws wi
    refine hJ _ _ ?_
    refine ⟨_, rfl, _, rfl, f, 4, rfl, hF3, by decide, by decide, fun k4 H4 e4 hF4 k40 k41 => ?_⟩
    refine ⟨_, _, rfl, rfl, ?_⟩
    refine ⟨s2, fun p5 hp5 => ?_⟩
    refine ⟨s4, fun p6 hp6 => ?_⟩
    have e6 : Stp [] H4 _ := (Stp.new (o := .tup [.str "num", .int (1 + k4)]) hp5).trans (Stp.new (o := .tup [.str "op", .str "*", vw, .ref p5]) hp6)
    have tm : TermAt _ (.op .mul w (.num (1 + k4))) (.ref p6) := ⟨p6, vw, .ref p5, rfl, upd_same, tw.step (e4.trans e6.nil), ⟨p5, rfl, (Stp.new (l := []) (o := .tup [.str "op", .str "*", vw, .ref p5]) hp6).t _ _ upd_same⟩⟩
    have e06 := e3.trans (e4.trans e6.nil)
    dsimp only [gName]
    refine seq_split fun J2 hJ2 => ?_
    have rest2 : ∀ (w2 : Term) (v2 : V) H5, Stp [f] H H5 → FeedAt H5 f → TermAt H5 w2 v2 → TermAt H5 (.box x) (.ref p1) → w2.depth ≤ 4 → w2.size ≤ 12 → w2.In [x] → J2 [some (.ref f), some (.str x), some (.ref p1), some vw, some v2, none] H5 := by
      intro w2 v2 H5 e5 hF5 tw2 tj5 wd2 ws2 wi2
      refine hJ2 _ _ ?_
      refine ⟨_, rfl, s2, fun q1 hq1 => ?_⟩
      refine ⟨_, rfl, s4, fun q2 hq2 => ?_⟩
      refine ⟨_, rfl, s2, fun q3 hq3 => ?_⟩
      refine ⟨s3, fun q4 hq4 => ?_⟩
      refine ⟨_, rfl, s2, fun q5 hq5 => ?_⟩
      refine ⟨_, rfl, _, rfl, s2, fun q6 hq6 => ?_⟩
      refine ⟨s4, fun q7 hq7 => ?_⟩
      refine ⟨s3, fun q8 hq8 => ?_⟩
      refine ⟨s2, fun q9 hq9 => ?_⟩
      refine ⟨s4, fun qa hqa => ?_⟩
      have f1 : Stp [] _ _ := Stp.new (o := .tup [.str "true", .ref p1]) hq1
      have f2 : Stp [] _ _ := Stp.new (o := .tup [.str "op", .str "+", .ref q1, v2]) hq2
      have f3 : Stp [] _ _ := Stp.new (o := .tup [.str "num", .int 0]) hq3
      have f4 : Stp [] _ _ := Stp.new (o := .tup [.str "set", .str x, .ref q3]) hq4
      have f5 : Stp [] _ _ := Stp.new (o := .tup [.str "say", .ref q2]) hq5
      have f6 : Stp [] _ _ := Stp.new (o := .tup [.str "num", .int 1]) hq6
      have f7 : Stp [] _ _ := Stp.new (o := .tup [.str "op", .str "+", .ref p1, .ref q6]) hq7
      have f8 : Stp [] _ _ := Stp.new (o := .tup [.str "set", .str x, .ref q7]) hq8
      have f9 : Stp [] _ _ := Stp.new (o := .tup [.str "go", .int 1]) hq9
      have fa : Stp [] _ _ := Stp.new (o := .tup [.ref q4, .ref q5, .ref q8, .ref q9]) hqa
      have g9 := f9.trans fa
      have g8 := f8.trans g9
      have g7 := f7.trans g8
      have g6 := f6.trans g7
      have g5 := f5.trans g6
      have g4 := f4.trans g5
      have g3 := f3.trans g4
      have g2 := f2.trans g3
      have g1 := f1.trans g2
      have ttold : TermAt _ (.op .add (.tru (.box x)) w2) (.ref q2) := ⟨q2, .ref q1, v2, rfl, g3.t _ _ upd_same, ⟨q1, .ref p1, rfl, g2.t _ _ upd_same, tj5.step g1⟩, tw2.step g1⟩
      have tset : TermAt _ (.op .add (.box x) (.num 1)) (.ref q7) := ⟨q7, .ref p1, .ref q6, rfl, g8.t _ _ upd_same, tj5.step g1, ⟨q6, rfl, g7.t _ _ upd_same⟩⟩
      refine q qa _ [.set x (.num 0), .say (.op .add (.tru (.box x)) w2), .set x (.op .add (.box x) (.num 1)), .go 1] _ (e5.trans g1.nil) (hF5.step0 g1) upd_same
        (.cons ⟨q4, .ref q3, rfl, g5.t _ _ upd_same, ⟨q3, rfl, g4.t _ _ upd_same⟩⟩ (.cons ⟨q5, .ref q2, rfl, g6.t _ _ upd_same, ttold⟩ (.cons ⟨q8, .ref q7, rfl, g9.t _ _ upd_same, tset⟩ (.cons ⟨q9, rfl, fa.t _ _ upd_same⟩ .nil)))) rfl ?_
      intro r hr
      have : r = .set x (.num 0) ∨ r = .say (.op .add (.tru (.box x)) w2) ∨ r = .set x (.op .add (.box x) (.num 1)) ∨ r = .go 1 := by simpa using hr
      rcases this with rfl | rfl | rfl | rfl
      · exact ⟨by show 1 ≤ 6; decide, by simp, ⟨by decide, by decide⟩, by decide⟩
      · exact ⟨by show max 2 w2.depth + 1 ≤ 6; omega, ⟨List.mem_singleton.mpr rfl, wi2⟩, by show 1 + (2 + w2.size) ≤ 20; omega⟩
      · exact ⟨by show max 1 1 + 1 ≤ 6; decide, by simp, ⟨List.mem_singleton.mpr rfl, by decide, by decide⟩, by show 1 + (1 + 1) ≤ 20; decide⟩
      · exact ⟨trivial, by decide, (by show (1 : Int) < 4; decide)⟩
    refine ⟨_, rfl, f, 3, rfl, hF4.step0 e6, by decide, by decide, fun k7 H7 e7 hF7 k70 k71 => ?_⟩
    refine ⟨rfl, _, rfl, ?_⟩
    rw [int_dec]
    by_cases c7 : k7 = 0
    · rw [decide_eq_true c7]
      refine ⟨_, rfl, _, rfl, f, 3, rfl, hF7, by decide, by decide, fun k8 H8 e8 hF8 k80 k81 => ?_⟩
      refine ⟨_, _, rfl, rfl, ?_⟩
      refine ⟨s2, fun r1 hr1 => ?_⟩
      refine ⟨s2, fun r2 hr2 => ?_⟩
      have e9 : Stp [] H8 _ := (Stp.new (o := .tup [.str "num", .int (1 + k8)]) hr1).trans (Stp.new (o := .tup [.str "coin", .ref r1]) hr2)
      refine ⟨_, rfl, f, 3, rfl, hF8.step0 e9, by decide, by decide, fun k10 H10 e10 hF10 k100 k101 => ?_⟩
      refine ⟨s2, fun r3 hr3 => ?_⟩
      refine ⟨s4, fun r4 hr4 => ?_⟩
      refine ⟨s4, fun r5 hr5 => ?_⟩
      have f3 : Stp [] _ _ := Stp.new (o := .tup [.str "num", .int k10]) hr3
      have f4 : Stp [] _ _ := Stp.new (o := .tup [.str "op", .str "+", .ref r2, .ref r3]) hr4
      have f5 : Stp [] _ _ := Stp.new (o := .tup [.str "op", .str "*", vw, .ref r4]) hr5
      have eE := e7.trans (e8.trans (e9.nil.trans (e10.trans ((f3.trans f4).trans f5).nil)))
      have tt : TermAt _ (.op .mul w (.op .add (.coin (.num (1 + k8))) (.num k10))) (.ref r5) :=
        ⟨r5, vw, .ref r4, rfl, upd_same, tw.step (e4.trans (e6.nil.trans eE)), ⟨r4, .ref r2, .ref r3, rfl, f5.t _ _ upd_same, ⟨r2, .ref r1, rfl, (e10.trans ((f3.trans f4).trans f5).nil).t _ _ upd_same, ⟨r1, rfl, (((Stp.new (l := []) (o := .tup [.str "coin", .ref r1]) hr2).nil).trans (e10.trans ((f3.trans f4).trans f5).nil)).t _ _ upd_same⟩⟩, ⟨r3, rfl, (f4.trans f5).t _ _ upd_same⟩⟩⟩
      exact rest2 _ (.ref r5) _ (e06.trans eE) (hF10.step0 ((f3.trans f4).trans f5)) tt (tj.step (e4.trans (e6.nil.trans eE))) (by show max w.depth 3 + 1 ≤ 4; omega) (by show 1 + (w.size + 4) ≤ 12; omega) ⟨wi, ⟨by omega, by omega⟩, k100, by omega⟩
    · rw [decide_eq_false c7]
      exact rest2 _ (.ref p6) _ (e06.trans e7) hF7 (tm.step e7) (tj.step (e4.trans (e6.nil.trans e7))) (by show max w.depth 1 + 1 ≤ 4; omega) (by show 1 + (w.size + 1) ≤ 12; omega) ⟨wi, by omega, by omega⟩
  refine ⟨_, rfl, f, 3, rfl, hF2.step0 e3, by decide, by decide, fun k7 H7 e7 hF7 k70 k71 => ?_⟩
  refine ⟨_, _, rfl, rfl, _, rfl, ?_⟩
  by_cases c7 : 0 < k7
  · rw [decide_eq_true c7]
    refine ⟨_, rfl, s1, fun r1 hr1 => ?_⟩
    have f1 : Stp [] H7 _ := Stp.new (o := .tup [.str "round"]) hr1
    refine ⟨_, rfl, f, 6, rfl, hF7.step0 f1, by decide, by decide, fun k8 H8 e8 hF8 k80 k81 => ?_⟩
    refine ⟨s2, fun r2 hr2 => ?_⟩
    refine ⟨s4, fun r3 hr3 => ?_⟩
    refine ⟨s4, fun r4 hr4 => ?_⟩
    have f2 : Stp [] _ _ := Stp.new (o := .tup [.str "num", .int k8]) hr2
    have f3 : Stp [] _ _ := Stp.new (o := .tup [.str "op", .str "=", .ref r1, .ref r2]) hr3
    have f4 : Stp [] _ _ := Stp.new (o := .tup [.str "op", .str "*", .ref p3, .ref r3]) hr4
    have f24 := (f2.trans f3).trans f4
    have eE := e7.trans (f1.nil.trans (e8.trans f24.nil))
    have tt : TermAt _ (.op .mul (.op .eq (.box x) (.num k2)) (.op .eq .round (.num k8))) (.ref r4) :=
      ⟨r4, .ref p3, .ref r3, rfl, upd_same, tw.step eE, ⟨r3, .ref r1, .ref r2, rfl, f4.t _ _ upd_same, ⟨r1, rfl, (e8.trans f24.nil).t _ _ upd_same⟩, ⟨r2, rfl, (f3.trans f4).t _ _ upd_same⟩⟩⟩
    exact rest _ (.ref r4) _ (e03.trans eE) (hF8.step0 f24) tt (tj.step (e2.trans (e3.nil.trans eE))) (by show max (max 1 1 + 1) (max 1 1 + 1) + 1 ≤ 3; decide) (by show 1 + ((1 + (1 + 1)) + (1 + (1 + 1))) ≤ 7; decide) ⟨⟨List.mem_singleton.mpr rfl, k20, by omega⟩, trivial, k80, by omega⟩
  · rw [decide_eq_false c7]
    exact rest _ (.ref p3) _ (e03.trans e7) hF7 (tw.step e7) (tj.step (e2.trans (e3.nil.trans e7))) (by show max 1 1 + 1 ≤ 3; decide) (by show 1 + (1 + 1) ≤ 7; decide) ⟨List.mem_singleton.mpr rfl, k20, by omega⟩

/-! ### the law's own degrees -/
def spDegs : Sp := fun vs H Q _ => ∃ (v : V) (xs : List Str) (ts : List Tree) (p : Int), vs = [v] ∧ GTupAt H v xs ts p ∧ xs.length ≤ 20 ∧ 1 ≤ ts.length ∧ ts.length ≤ 20 ∧ (∀ t ∈ ts, t.depth ≤ 20 ∧ t.size ≤ 1000) ∧
  ∀ (a : Addr) (ds : List Int) H', H a = none → Stp [] H H' → H' a = some (.lst (ds.map V.int)) → ds.length = xs.length → (∀ (i : Nat) (x : Str) (d : Int), xs[i]? = some x → ds[i]? = some d → d ∈ degOf x ts ∧ ∀ y ∈ degOf x ts, y ≤ d) → Q (.ref a) H'
theorem ok_law_degrees (T : Tx K mg) : FnOk P w K mg base CX0 24 T.f_law_degrees T.d_law_degrees ["_law_game_here"] spDegs := by
  refine T.F_law_degrees.ok sc_law_degrees (fun vs H Q E h => ?_) (fun cdv A outer s H vs Q E hr h => ?_)
  · obtain ⟨v, xs, ts, p, rfl, _⟩ := h
    rfl
  obtain ⟨v, xs, ts, p, rfl, hG, xl, t1, tl, hts, q⟩ := h
  refine ⟨_, (pss_one (ps_ret (pe_lc (own := [("_law_name", 1)]) (g := gName 1) (tt := tYes) (by rfl) sc_law_degrees.nd (ki_tup (K := K) (pe_ix (k_ix_tup (K := K)) (pv 0) pe_int (fun _ _ => rfl))) (blkOk_by (own := [("_law_name", 1)]) (N := ["_law_game_here", "_law_name", "_law_tree_here"]) (sc := defScope s_law_degrees) (by decide +kernel)) (fun _ _ _ _ _ => (pg_name (i := 1) sc_law_degrees.nd (by rfl) (Or.inr (by rfl)))) (fun _ _ _ _ _ => pts_nil) (fun _ _ _ _ _ => by exact (pe_callB (k_max (K := K) (by rfl)) (by rfl) T.z_max (by decide +kernel) (pa_cons (pe_lc (own := [("_law_tree_here", 2)]) (g := gName 2) (tt := tYes) (by rfl) sc_law_degrees.nd (ki_tup (K := K) (pe_ix (k_ix_tup (K := K)) (pv 0) pe_int (fun _ _ => rfl))) (blkOk_by (by rfl)) (fun _ _ _ _ _ => (pg_name (i := 2) sc_law_degrees.nd (by rfl) (Or.inl (by rfl)))) (fun _ _ _ _ _ => pts_nil) (fun _ _ _ _ _ => by exact (k_bm (K := K) PySem.F.plainAttrs_list PySem.F.slot_list_count PySem.F.type_list_count (k_countV (K := K)) (pe_call (ok_law_names_of T 20) (hr.mono (by omega)) (by rfl) T.g_law_names_of T.F_law_names_of.kp T.b_law_names_of .nil pass0 (pa_cons (pv 2) pa_nil)) (pa_cons (pv 1) pa_nil)))) pa_nil)))))), ?_⟩
  obtain ⟨c, a, b, us, rfl, hc, ha, hb, ht⟩ := hG
  refine ⟨_, rfl, c, _, _, _, rfl, rfl, SqT.of hc, at0, ?_⟩
  refine ⟨a, rfl, ⟨_, ha.sq⟩, fun D hD => lc_tup (K := K) (a := a) (xs := xs.map V.str) (fun i H' => Stp [] H H' ∧ ∃ ds : List Int, ds.length = i ∧ H' D = some (.lst (ds.map V.int)) ∧
      ∀ (j : Nat) (x : Str) (d : Int), xs[j]? = some x → ds[j]? = some d → d ∈ degOf x ts ∧ ∀ y ∈ degOf x ts, y ≤ d) ⟨Stp.new hD, [], rfl, upd_same, fun j x d _ h => (by simp at h)⟩ (fun i H' _ h => h.1.sqT ha.sq) ?_ ?_⟩
  · rintro i v H3 hi ⟨e3, ds, dl, hD3, hds⟩
    obtain ⟨x, hx, rfl⟩ := at_str hi
    have ht3 := ht.step e3
    have hb3 := e3.t _ _ hb
    refine ⟨rfl, ?_⟩
    refine ⟨_, rfl, c, _, _, _, rfl, rfl, SqT.of (e3.t _ _ hc), at1, ?_⟩
    refine ⟨b, rfl, ⟨_, SqT.of hb3⟩, fun D2 hD2 => lc_tup (K := K) (a := b) (xs := us) (fun i H' => Stp [] H3 H' ∧ H' D2 = some (.lst (((degOf x ts).take i).map V.int))) ⟨Stp.new hD2, upd_same⟩ (fun i H' _ h => h.1.seqT hb3) ?_ ?_⟩
    · rintro i v H1 hi ⟨e1, hD1⟩
      obtain ⟨t, htt, htv⟩ := (ht3.step e1).get hi
      obtain ⟨d1, d2⟩ := hts t (List.mem_of_getElem? htt)
      refine ⟨rfl, ?_⟩
      refine ⟨_, rfl, t, v, rfl, htv, d1, d2, fun p H2 hp e2 hp2 => ?_⟩
      refine ⟨.inl ⟨rfl, _, SqL.of hp2⟩, _, rfl, p, _, _, rfl, rfl, SqL.of hp2, rfl, flat_strs _, ?_⟩
      rw [count_strs]
      refine ⟨_, e2.k _ _ hD1 (by simp), ?_, (e1.trans e2).fresh hD2, ?_⟩
      · rw [List.length_map, List.length_take]
        exact small1000 (by have : (degOf x ts).length = ts.length := List.length_map _; omega)
      · rw [upd_same, take_more (x := (t.names.count x : Int)) (by unfold degOf; rw [List.getElem?_map, htt]; rfl), List.map_append]
        rfl
    · rintro H1 ⟨e1, hD1⟩
      have hlen : us.length = ts.length := ht.len
      rw [List.take_of_length_le (by unfold degOf; rw [List.length_map]; omega)] at hD1
      refine ⟨D2, _, rfl, SqL.of hD1, by unfold degOf; rw [List.length_map]; exact t1, fun m hm hle => ?_⟩
      refine ⟨_, e1.k _ _ hD3 (by simp), ?_, (e3.trans e1).fresh hD, ds ++ [m], ?_, ?_, fun j y d hj hd => ?_⟩
      · rw [List.length_map, dl]
        have := lt_of_at hx
        exact small1000 (by omega)
      · rw [List.length_append, dl]; rfl
      · rw [upd_same, List.map_append]; rfl
      · by_cases hji : j < i
        · rw [List.getElem?_append_left (by omega)] at hd
          exact hds j y d hj hd
        · have hjl := lt_of_at hd
          rw [List.length_append, dl] at hjl
          have hjl2 : j < i + 1 := hjl
          have ej : j = i := by omega
          subst ej
          rw [List.getElem?_append_right (by omega), dl, Nat.sub_self] at hd
          have ed : m = d := Option.some.inj hd
          have ex : x = y := Option.some.inj (hx.symm.trans hj)
          rw [← ed, ← ex]
          exact ⟨hm, hle⟩
  · rintro H3 ⟨e3, ds, dl, hD3, hds⟩
    rw [List.length_map] at dl
    exact q D ds H3 hD e3 hD3 dl hds
/-- the game that a tuple tells, its degrees -/
def GameOf (xs : List Str) (ts : List Tree) (p : Int) (G : GameV) : Prop := G.Ok ∧ G.sw = xs ∧ G.trees = ts ∧ G.p = p
theorem GameOf.deg {xs : List Str} {ts : List Tree} {p : Int} {G : GameV} (h : GameOf xs ts p G) {ds : List Int} (dl : ds.length = xs.length) (hds : ∀ (i : Nat) (x : Str) (d : Int), xs[i]? = some x → ds[i]? = some d → d ∈ degOf x ts ∧ ∀ y ∈ degOf x ts, y ≤ d) : ds = G.deg := by
  obtain ⟨ok, rfl, rfl, rfl⟩ := h
  refine List.ext_getElem? fun i => ?_
  by_cases c : i < ds.length
  · obtain ⟨x, hx⟩ : ∃ x, G.sw[i]? = some x := ⟨_, List.getElem?_eq_getElem (by omega)⟩
    obtain ⟨d, hd⟩ : ∃ x, ds[i]? = some x := ⟨_, List.getElem?_eq_getElem c⟩
    obtain ⟨d', hd'⟩ : ∃ x, G.deg[i]? = some x := ⟨_, List.getElem?_eq_getElem (by rw [ok.dl]; omega)⟩
    obtain ⟨a1, a2⟩ := hds i x d hx hd
    obtain ⟨b1, b2⟩ := ok.dg i x d' hx hd'
    rw [hd, hd']
    have := a2 _ b1
    have := b2 _ a1
    exact congrArg some (by omega)
  · rw [List.getElem?_eq_none (by omega), List.getElem?_eq_none (by rw [ok.dl]; omega)]
theorem GameOf.one {xs : List Str} {ts : List Tree} {p : Int} {G G' : GameV} (h : GameOf xs ts p G) (h' : GameOf xs ts p G') : G' = G := by
  have e := h.deg (ds := G'.deg) (by rw [h'.1.dl, h'.2.1]) (fun i x d hx hd => by
    have := h'.1.dg i x d (by rw [h'.2.1]; exact hx) hd
    rw [h'.2.2.1] at this; exact this)
  obtain ⟨_, a1, a2, a3⟩ := h
  obtain ⟨_, b1, b2, b3⟩ := h'
  cases G; cases G'
  simp only at *
  subst a1 a2 a3 b1 b2 b3
  rw [e]
/-! ### plans -/
structure PlanV where
  s : Int
  coins : List Int
  dues : List Int
structure PlanV.Ok (P : PlanV) (n : Nat) (p : Int) : Prop where
  s0 : 0 ≤ P.s ∧ P.s < p
  cl : P.coins.length = n
  c0 : ∀ c ∈ P.coins, 0 ≤ c ∧ c < p
  dl : P.dues.length = n + 1
  d0 : ∀ c ∈ P.dues, 0 ≤ c ∧ c < p
/-- N: what its own lists are -/
def PlanAt (N : Addr → Prop) (H : Hp) (v : V) (P : PlanV) : Prop := ∃ a c d, v = .ref a ∧ H a = some (.tup [.int P.s, .ref c, .ref d]) ∧ (H c = some (.lst (P.coins.map V.int)) ∧ N c) ∧ (H d = some (.lst (P.dues.map V.int)) ∧ N d)
theorem PlanAt.step {N : Addr → Prop} {l : List Addr} {H H' : Hp} {v : V} {P : PlanV} (e : Stp l H H') (h : PlanAt N H v P) (hl : ∀ x ∈ l, ¬ N x ∨ ∀ ys, H x ≠ some (.lst ys)) : PlanAt N H' v P := by
  obtain ⟨a, c, d, h1, h2, ⟨h3, h3'⟩, ⟨h4, h4'⟩⟩ := h
  refine ⟨a, c, d, h1, e.t _ _ h2, ⟨e.k _ _ h3 fun hm => ?_, h3'⟩, ⟨e.k _ _ h4 fun hm => ?_, h4'⟩⟩
  · rcases hl _ hm with z | z
    · exact z h3'
    · exact z _ h3
  · rcases hl _ hm with z | z
    · exact z h4'
    · exact z _ h4
theorem PlanAt.re {N N' : Addr → Prop} {H : Hp} {v : V} {P : PlanV} (h : PlanAt N H v P) (hn : ∀ z, N z → H z ≠ none → N' z) : PlanAt N' H v P := by
  obtain ⟨a, c, d, h1, h2, ⟨h3, h3'⟩, ⟨h4, h4'⟩⟩ := h
  exact ⟨a, c, d, h1, h2, ⟨h3, hn _ h3' (by rw [h3]; simp)⟩, ⟨h4, hn _ h4' (by rw [h4]; simp)⟩⟩
def spPlan : Sp := fun vs H Q _ => ∃ (f : Addr) (g : V) (xs : List Str) (ts : List Tree) (p : Int) (N : Addr → Prop), vs = [.ref f, g] ∧ FeedAt H f ∧ GTupAt H g xs ts p ∧ xs.length ≤ 10 ∧ ts.length ≤ 10 ∧ 2 ≤ p ∧ p ≤ 999999 ∧ (∀ z, H z = none → N z) ∧
  ∀ v P H', Stp [f] H H' → FeedAt H' f → PlanAt N H' v P → P.Ok xs.length p → Q v H'
theorem ok_law_plan (T : Tx K mg) : FnOk P w K mg base CX0 2 T.f_law_plan T.d_law_plan ["_law_feed_here", "_law_game_here"] spPlan := by
  refine T.F_law_plan.ok sc_law_plan (fun vs H Q E h => ?_) (fun cdv A outer s H vs Q E hr h => ?_)
  · obtain ⟨f, g, xs, ts, p, N, rfl, _⟩ := h
    rfl
  obtain ⟨f, g, xs, ts, p, N, rfl, hF, hG, xl, tl, p2, pm, hN, q⟩ := h
  refine ⟨_, (pss_cons (ps_setLc (i := 2) (own := [("_law_name", 4)]) (g := gName 4) (tt := tYes) (by rfl) sc_law_plan.nd (by rfl) (by rfl) (sw_true (by rfl) (by rfl) (by rfl) (by decide +kernel)) (ki_tup (K := K) (pe_ix (k_ix_tup (K := K)) (pv 1) pe_int (fun _ _ => rfl))) (blkOk_by (own := [("_law_name", 4)]) (N := ["_law_feed_here", "_law_game_here", "_law_coins", "_law_dues", "_law_name"]) (sc := defScope s_law_plan) (by decide +kernel)) (fun _ _ _ _ _ => (pg_name (i := 4) sc_law_plan.nd (by rfl) (Or.inl (by rfl)))) (fun _ _ _ _ _ => pts_nil) (fun _ _ _ _ _ => by exact (pe_call (ok_law_take T) (hr.mono (by omega)) (by rfl) T.g_law_take T.F_law_take.kp T.b_law_take .nil pass0 (pa_cons (pv 0) (pa_cons (pe_ix (k_ix_tup (K := K)) (pv 1) pe_int (fun _ _ => rfl)) pa_nil)))))
      (pss_cons (ps_set (i := 3) sc_law_plan.nd rfl (.inl rfl) (pe_op op_cat (pe_lst (pa_cons pe_int pa_nil)) (pe_lc (own := [("_law_name", 4)]) (g := gName 4) (tt := tYes) (by rfl) sc_law_plan.nd (ki_tup (K := K) (pe_ix (k_ix_tup (K := K)) (pv 1) pe_int (fun _ _ => rfl))) (blkOk_by (own := [("_law_name", 4)]) (N := ["_law_feed_here", "_law_game_here", "_law_coins", "_law_dues", "_law_name"]) (sc := defScope s_law_plan) (by decide +kernel)) (fun _ _ _ _ _ => (pg_name (i := 4) sc_law_plan.nd (by rfl) (Or.inl (by rfl)))) (fun _ _ _ _ _ => pts_nil) (fun _ _ _ _ _ => by exact (pe_call (ok_law_take T) (hr.mono (by omega)) (by rfl) T.g_law_take T.F_law_take.kp T.b_law_take .nil pass0 (pa_cons (pv 0) (pa_cons (pe_ix (k_ix_tup (K := K)) (pv 1) pe_int (fun _ _ => rfl)) pa_nil)))))))
      (pss_one (ps_ret (pe_tup (pa_cons (pe_op op_mul (pe_call (ok_law_take T) (hr.mono (by omega)) (by rfl) T.g_law_take T.F_law_take.kp T.b_law_take .nil pass0 (pa_cons (pv 0) (pa_cons (pe_ix (k_ix_tup (K := K)) (pv 1) pe_int (fun _ _ => rfl)) pa_nil))) (pe_callTy call_int1 (by rfl) T.z_int (by decide +kernel) (pa_cons (pe_cmpR op_gt (pe_callB (k_len (K := K)) (by rfl) T.z_len (by decide +kernel) (pa_cons (pe_ix (k_ix_tup (K := K)) (pv 1) pe_int (fun _ _ => rfl)) pa_nil)) pe_int (nomark _)) pa_nil))) (pa_cons (pv 2) (pa_cons (pv 3) pa_nil)))))))), ?_⟩
  obtain ⟨c, ga, gb, us, rfl, hc, ha, hb, ht⟩ := hG
  have ul : us.length = ts.length := ht.len
  -- the coins
  refine ⟨_, rfl, c, _, _, _, rfl, rfl, SqT.of hc, at0, ?_⟩
  refine ⟨ga, rfl, ⟨_, ha.sq⟩, fun D hD => lc_tup (K := K) (a := ga) (xs := xs.map V.str) (fun i H' => Stp [f] H H' ∧ FeedAt H' f ∧ ∃ ds : List Int, ds.length = i ∧ H' D = some (.lst (ds.map V.int)) ∧ ∀ d ∈ ds, 0 ≤ d ∧ d < p)
    ⟨Stp.new hD, hF.step0 (Stp.new hD), [], rfl, upd_same, fun d h => by cases h⟩ (fun i H' _ h => h.1.sqT ha.sq) ?_ ?_⟩
  · rintro i v H1 hi ⟨e1, hF1, ds, dl, hD1, hds⟩
    have il := lt_of_at hi
    rw [List.length_map] at il
    have nDf : D ≠ f := hF.ne hD
    refine ⟨rfl, ?_⟩
    refine ⟨_, rfl, _, rfl, c, _, _, _, rfl, rfl, SqT.of (e1.t _ _ hc), at2, f, p, rfl, hF1, by omega, by omega, fun r H2 e2 hF2 r0 r1 => ?_⟩
    have hD2 := e2.k _ _ hD1 (by simpa using nDf)
    refine ⟨_, hD2, by rw [List.length_map, dl]; exact small1000 (by omega), (e1.trans e2).fresh hD, hF2.upd nDf, ds ++ [r], by rw [List.length_append, dl]; rfl, by rw [upd_same, List.map_append]; rfl, fun d hd => ?_⟩
    rcases List.mem_append.mp hd with h | h
    · exact hds d h
    · have : d = r := by simpa using h
      rw [this]; exact ⟨r0, r1⟩
  rintro H1 ⟨e1, hF1, ds, dl, hD1, hds⟩
  rw [List.length_map] at dl
  have nDf : D ≠ f := hF.ne hD
  -- the dues
  refine ⟨Nat.le_of_lt (small1000 (by show 1 ≤ 1000; decide)), fun z hz => ?_⟩
  have ez : Stp [] H1 (upd H1 z (.lst [.int 0])) := Stp.new hz
  have hFz := hF1.step0 ez
  have e1z := e1.trans ez.nil
  refine ⟨_, rfl, c, _, _, _, rfl, rfl, SqT.of (e1z.t _ _ hc), at0, ?_⟩
  refine ⟨ga, rfl, ⟨_, e1z.sqT ha.sq⟩, fun D2 hD2 => lc_tup (K := K) (a := ga) (xs := xs.map V.str) (fun i H' => Stp [f] (upd H1 z (.lst [.int 0])) H' ∧ FeedAt H' f ∧ ∃ es : List Int, es.length = i ∧ H' D2 = some (.lst (es.map V.int)) ∧ ∀ d ∈ es, 0 ≤ d ∧ d < p)
    ⟨Stp.new hD2, hFz.step0 (Stp.new hD2), [], rfl, upd_same, fun d h => by cases h⟩ (fun i H' _ h => (e1z.trans h.1).sqT ha.sq) ?_ ?_⟩
  · rintro i v H2 hi ⟨e2, hF2, es, el, hD22, hes⟩
    have il := lt_of_at hi
    rw [List.length_map] at il
    have nDf2 : D2 ≠ f := hFz.ne hD2
    refine ⟨rfl, ?_⟩
    refine ⟨_, rfl, _, rfl, c, _, _, _, rfl, rfl, SqT.of ((e1z.trans e2).t _ _ hc), at2, f, p, rfl, hF2, by omega, by omega, fun r H3 e3 hF3 r0 r1 => ?_⟩
    have hD3 := e3.k _ _ hD22 (by simpa using nDf2)
    refine ⟨_, hD3, by rw [List.length_map, el]; exact small1000 (by omega), (e2.trans e3).fresh hD2, hF3.upd nDf2, es ++ [r], by rw [List.length_append, el]; rfl, by rw [upd_same, List.map_append]; rfl, fun d hd => ?_⟩
    rcases List.mem_append.mp hd with h | h
    · exact hes d h
    · have : d = r := by simpa using h
      rw [this]; exact ⟨r0, r1⟩
  rintro H2 ⟨e2, hF2, es, el, hD22, hes⟩
  rw [List.length_map] at el
  have nzf : z ≠ f := hF1.ne hz
  have nDf2 : D2 ≠ f := hFz.ne hD2
  refine ⟨z, D2, _, _, rfl, rfl, e2.k _ _ upd_same (by simpa using nzf), hD22, by rw [List.length_map, el]; exact smallL (by show 1 + _ ≤ _; omega), fun d2 hd2 => ?_⟩
  have e3 : Stp [] H2 (upd H2 d2 (.lst ([.int 0] ++ es.map V.int))) := Stp.new hd2
  have nd2 : d2 ≠ f := hF2.ne hd2
  have e03 := (e1z.trans e2).trans e3.nil
  -- the tuple
  refine ⟨_, rfl, _, rfl, c, _, _, _, rfl, rfl, SqT.of (e03.t _ _ hc), at2, f, p, rfl, hF2.step0 e3, by omega, by omega, fun m H4 e4 hF4 m0 m1 => ?_⟩
  have e04 := e03.trans e4
  refine ⟨_, rfl, c, _, _, _, rfl, rfl, SqT.of (e04.t _ _ hc), at1, gb, _, rfl, .inr (SqT.of (e04.t _ _ hb)), _, _, rfl, rfl, .inr ⟨_, rfl, ?_⟩⟩
  rw [ul]
  have hone : ∃ k : Int, (if decide ((1 : Int) < (ts.length : Int)) = true then (1 : Int) else 0) = k ∧ 0 ≤ k ∧ k ≤ 1 := by
    refine ⟨_, rfl, ?_⟩
    split <;> omega
  obtain ⟨k, ek, k0, k1⟩ := hone
  refine ⟨m, k, rfl, congrArg V.int ek, .inl ⟨by omega, by omega⟩, _, rfl, _, rfl, Nat.le_of_lt (small1000 (by show 3 ≤ 1000; decide)), fun a hap => ?_⟩
  have e5 : Stp [] H4 (upd H4 a (.tup [.int (m * k), .ref D, .ref d2])) := Stp.new hap
  have hD4 := ((e2.trans e3.nil).trans e4).k _ _ (ez.k _ _ hD1 (by simp)) (by simpa using nDf)
  refine q (.ref a) ⟨m * k, ds, 0 :: es⟩ _ (e04.trans e5.nil) (hF4.step0 e5) ⟨a, D, d2, rfl, upd_same, ⟨e5.k _ _ hD4 (by simp), hN D hD⟩, ⟨e5.k _ _ (e4.k _ _ upd_same (by simpa using nd2)) (by simp), hN d2 ((e1z.trans e2).free hd2 (by simpa using nd2))⟩⟩ ⟨?_, dl, hds, by show es.length + 1 = _; omega, fun d hd => ?_⟩
  · have : k = 0 ∨ k = 1 := by omega
    rcases this with rfl | rfl
    · show 0 ≤ m * 0 ∧ m * 0 < p
      rw [Int.mul_zero]; omega
    · show 0 ≤ m * 1 ∧ m * 1 < p
      rw [Int.mul_one]; omega
  · rcases List.mem_cons.mp hd with h | h
    · rw [h]; omega
    · exact hes d h
theorem cutV_to (xs : List Int) (n : Nat) : cutV (xs.map V.int) none (some (n : Int)) = (xs.take n).map V.int := by
  unfold cutV
  rw [HT.sIx_none, HT.sIx_nat, List.drop_zero, Nat.sub_zero, ← List.map_take]
  congr 1
  by_cases c : n ≤ (xs.map V.int).length
  · rw [Nat.min_eq_left c]
  · rw [List.length_map] at *
    rw [Nat.min_eq_right (by omega), List.take_of_length_le (by omega), List.take_of_length_le (by omega)]
theorem cutV_from (xs : List Int) (n : Nat) : cutV (xs.map V.int) (some (n : Int)) none = (xs.drop n).map V.int := by
  unfold cutV
  rw [HT.sIx_none, HT.sIx_nat, List.length_map]
  by_cases c : n ≤ xs.length
  · rw [Nat.min_eq_left c, ← List.map_drop, List.take_of_length_le]
    rw [List.length_map, List.length_drop]; omega
  · rw [Nat.min_eq_right (by omega), Nat.sub_self, List.take_zero, List.drop_eq_nil_of_le (by omega)]; rfl
def spTurned : Sp := fun vs H Q _ => ∃ (v1 v2 : V) (P1 P2 : PlanV) (j : Nat) (N : Addr → Prop) (n : Nat) (p : Int), vs = [v1, v2, .int j] ∧ PlanAt N H v1 P1 ∧ PlanAt N H v2 P2 ∧ P1.Ok n p ∧ P2.Ok n p ∧ n ≤ 10 ∧ j ≤ n ∧ (∀ z, H z = none → N z) ∧
  ∀ v P H', Stp [] H H' → PlanAt N H' v P → P = ⟨if 1 < j then P1.s else P2.s, P1.coins.take (j - 2) ++ P2.coins.drop (j - 2), P1.dues.take j ++ P2.dues.drop j⟩ → Q v H'
theorem ok_law_turned (T : Tx K mg) : FnOk P w K mg base CX0 1 T.f_law_turned T.d_law_turned ["_law_old", "_law_new", "_law_number"] spTurned := by
  refine T.F_law_turned.ok sc_law_turned (fun vs H Q E h => ?_) (fun cdv A outer s H vs Q E hr h => ?_)
  · obtain ⟨v1, v2, P1, P2, j, N, n, p, rfl, _⟩ := h
    rfl
  obtain ⟨v1, v2, P1, P2, j, N, n, p, rfl, h1, h2, o1, o2, n1, jn, hN, q⟩ := h
  refine ⟨_, (pss_cons (ps_set (i := 3) sc_law_turned.nd rfl (.inl rfl) (pe_callB (call_max2 (by rfl)) (by rfl) T.z_max (by decide +kernel) (pa_cons pe_int (pa_cons (pe_op op_sub (pv 2) pe_int) pa_nil))))
      (pss_cons (ps_set (i := 4) sc_law_turned.nd rfl (.inl rfl) (pe_ix (k_ix_list (K := K)) (pe_lst (pa_cons (pe_ix (k_ix_tup (K := K)) (pv 1) pe_int (fun _ _ => rfl)) (pa_cons (pe_ix (k_ix_tup (K := K)) (pv 0) pe_int (fun _ _ => rfl)) pa_nil))) (pe_callTy call_int1 (by rfl) T.z_int (by decide +kernel) (pa_cons (pe_cmpR op_gt (pv 2) pe_int (nomark _)) pa_nil)) (fun _ _ => rfl)))
      (pss_one (ps_ret (pe_tup (pa_cons (pv 4) (pa_cons (pe_op op_cat (pe_slice (k_sl_list (K := K)) (pe_ix (k_ix_tup (K := K)) (pv 0) pe_int (fun _ _ => rfl)) po_none (po_some (pv 3))) (pe_slice (k_sl_list (K := K)) (pe_ix (k_ix_tup (K := K)) (pv 1) pe_int (fun _ _ => rfl)) (po_some (pv 3)) po_none)) (pa_cons (pe_op op_cat (pe_slice (k_sl_list (K := K)) (pe_ix (k_ix_tup (K := K)) (pv 0) pe_int (fun _ _ => rfl)) po_none (po_some (pv 2))) (pe_slice (k_sl_list (K := K)) (pe_ix (k_ix_tup (K := K)) (pv 1) pe_int (fun _ _ => rfl)) (po_some (pv 2)) po_none)) pa_nil)))))))), ?_⟩
  obtain ⟨a1, c1, d1, rfl, ha1, ⟨hc1, nc1⟩, ⟨hd1, nd1⟩⟩ := h1
  obtain ⟨a2, c2, d2, rfl, ha2, ⟨hc2, nc2⟩, ⟨hd2, nd2⟩⟩ := h2
  have known : (if ((j : Int) - 2) > 0 then ((j : Int) - 2) else 0) = ((j - 2 : Nat) : Int) := by split <;> omega
  refine ⟨_, rfl, _, _, rfl, rfl, _, _, rfl, ?_⟩
  rw [known]
  refine ⟨_, rfl, a2, _, _, _, rfl, rfl, SqT.of ha2, at0, _, rfl, a1, _, _, _, rfl, rfl, SqT.of ha1, at0, Nat.le_of_lt (small1000 (by show 2 ≤ 1000; decide)), fun z hz => ?_⟩
  have e1 : Stp [] H (upd H z (.lst [.int P2.s, .int P1.s])) := Stp.new hz
  refine ⟨_, rfl, _, _, rfl, rfl, .inr ⟨_, rfl, ?_⟩⟩
  have hs : atI [V.int P2.s, .int P1.s] (if decide ((1 : Int) < (j : Int)) = true then (1 : Int) else 0) = some (.int (if 1 < j then P1.s else P2.s)) := by
    by_cases c : 1 < j
    · rw [decide_eq_true (show (1 : Int) < (j : Int) by omega), if_pos rfl, if_pos c]; exact at1
    · rw [decide_eq_false (show ¬ (1 : Int) < (j : Int) by omega), if_neg (by decide), if_neg c]; exact at0
  refine ⟨z, _, _, _, rfl, rfl, SqL.of upd_same, hs, ?_⟩
  generalize (if 1 < j then P1.s else P2.s) = s at hs q
  -- the coins
  refine ⟨_, rfl, _, rfl, a1, _, _, _, rfl, rfl, SqT.of (e1.t _ _ ha1), at1, _, rfl, _, rfl, c1, _, rfl, SqL.of (e1.k _ _ hc1 (by simp)), fun p1 hp1 => ?_⟩
  have e2 := e1.trans (Stp.new (l := []) (o := .lst (cutV (P1.coins.map V.int) none (some ((j - 2 : Nat) : Int)))) hp1)
  refine ⟨_, rfl, a2, _, _, _, rfl, rfl, SqT.of (e2.t _ _ ha2), at1, _, rfl, _, rfl, c2, _, rfl, SqL.of (e2.k _ _ hc2 (by simp)), fun p2 hp2 => ?_⟩
  have e3 := e2.trans (Stp.new (l := []) (o := .lst (cutV (P2.coins.map V.int) (some ((j - 2 : Nat) : Int)) none)) hp2)
  have n12 : p1 ≠ p2 := fun z => by rw [← z, upd_same] at hp2; cases hp2
  rw [cutV_to] at *
  rw [cutV_from] at *
  have l1 : (P1.coins.take (j - 2)).length ≤ 10 := by have := List.length_take_le (j - 2) P1.coins; have := o1.cl; omega
  have l2 : (P2.coins.drop (j - 2)).length ≤ 10 := by rw [List.length_drop]; have := o2.cl; omega
  have l3 : (P1.dues.take j).length ≤ 11 := by have := List.length_take_le j P1.dues; have := o1.dl; omega
  have l4 : (P2.dues.drop j).length ≤ 11 := by rw [List.length_drop]; have := o2.dl; omega
  refine ⟨p1, p2, _, _, rfl, rfl, (by rw [upd_ne n12]; exact upd_same), upd_same, (by rw [List.length_map, List.length_map]; exact smallL (by omega)), fun c3 hc3 => ?_⟩
  have e4 := e3.trans (Stp.new (l := []) (o := .lst ((P1.coins.take (j - 2)).map V.int ++ (P2.coins.drop (j - 2)).map V.int)) hc3)
  -- the dues
  refine ⟨_, rfl, a1, _, _, _, rfl, rfl, SqT.of (e4.t _ _ ha1), at2, _, rfl, _, rfl, d1, _, rfl, SqL.of (e4.k _ _ hd1 (by simp)), fun p3 hp3 => ?_⟩
  rw [cutV_to] at *
  have e5 := e4.trans (Stp.new (l := []) (o := .lst ((P1.dues.take j).map V.int)) hp3)
  refine ⟨_, rfl, a2, _, _, _, rfl, rfl, SqT.of (e5.t _ _ ha2), at2, _, rfl, _, rfl, d2, _, rfl, SqL.of (e5.k _ _ hd2 (by simp)), fun p4 hp4 => ?_⟩
  rw [cutV_from] at *
  have e6 := e5.trans (Stp.new (l := []) (o := .lst ((P2.dues.drop j).map V.int)) hp4)
  have n34 : p3 ≠ p4 := fun z => by rw [← z, upd_same] at hp4; cases hp4
  refine ⟨p3, p4, _, _, rfl, rfl, (by rw [upd_ne n34]; exact upd_same), upd_same, (by rw [List.length_map, List.length_map]; exact smallL (by omega)), fun d3 hd3 => ?_⟩
  have e7 := e6.trans (Stp.new (l := []) (o := .lst ((P1.dues.take j).map V.int ++ (P2.dues.drop j).map V.int)) hd3)
  refine ⟨Nat.le_of_lt (small1000 (by show 3 ≤ 1000; decide)), fun a hap => ?_⟩
  have e8 : Stp [] _ _ := Stp.new (o := .tup [.int s, .ref c3, .ref d3]) hap
  have ec3 : Stp [] _ _ := ((Stp.new (l := []) (o := .lst ((P1.dues.take j).map V.int)) hp3).trans (Stp.new (o := .lst ((P2.dues.drop j).map V.int)) hp4)).trans ((Stp.new (o := .lst ((P1.dues.take j).map V.int ++ (P2.dues.drop j).map V.int)) hd3).trans e8)
  refine q (.ref a) _ _ (e7.trans e8) ⟨a, c3, d3, rfl, upd_same, ⟨?_, hN _ (e3.free hc3 (by simp))⟩, ⟨?_, hN _ (e6.free hd3 (by simp))⟩⟩ rfl
  · rw [ec3.k _ _ upd_same (by simp), List.map_append]
  · rw [e8.k _ _ upd_same (by simp), List.map_append]

/-! ### the rounds asked -/
def roundOf (G : GameV) (P : PlanV) : Nat → RoundV
  | 0 => ⟨G, 0, G.trees.length, 0, 0, []⟩
  | j + 1 => ⟨G, ((j + 1 : Nat) : Int), G.deg.getD j 0 + 1, P.dues.getD (j + 1) 0, P.s, P.coins.take j⟩
theorem degs_rng {G : GameV} (ok : G.Ok) {d : Int} (h : d ∈ G.deg) : 0 ≤ d ∧ d ≤ 1000 ∧ d < G.p := by
  obtain ⟨i, hi⟩ := List.getElem?_of_mem h
  have hl := lt_of_at hi
  obtain ⟨x, hx⟩ : ∃ x, G.sw[i]? = some x := ⟨_, List.getElem?_eq_getElem (by rw [← ok.dl]; exact hl)⟩
  obtain ⟨h1, _⟩ := ok.dg i x d hx hi
  obtain ⟨t, ht, rfl⟩ := List.mem_map.mp h1
  have h2 : t.names.count x ≤ 1000 := Nat.le_trans List.count_le_length (Nat.le_trans t.names_le (ok.ts t ht).2.1)
  exact ⟨Int.natCast_nonneg _, by omega, ok.dp _ h⟩
theorem roundOf_G (G : GameV) (P : PlanV) (j : Nat) : (roundOf G P j).G = G := by cases j <;> rfl
theorem roundOf_n (G : GameV) (P : PlanV) (j : Nat) : (roundOf G P j).number = j := by cases j <;> rfl
theorem getD_mem {xs : List Int} {i : Nat} (h : i < xs.length) : xs.getD i 0 ∈ xs := List.mem_of_getElem? (getD_at h)
theorem roundOf_many {G : GameV} (ok : G.Ok) (P : PlanV) {j : Nat} (hj : j ≤ G.sw.length) : 0 ≤ (roundOf G P j).many ∧ (roundOf G P j).many ≤ 5000 := by
  cases j with
  | zero =>
    have := ok.tl
    show 0 ≤ ((G.trees.length : Nat) : Int) ∧ ((G.trees.length : Nat) : Int) ≤ 5000
    omega
  | succ j =>
    have := degs_rng ok (getD_mem (xs := G.deg) (i := j) (by rw [ok.dl]; omega))
    show 0 ≤ G.deg.getD j 0 + 1 ∧ G.deg.getD j 0 + 1 ≤ 5000
    omega
theorem roundOf_ok {G : GameV} (ok : G.Ok) (gl : G.sw.length ≤ 10) {P : PlanV} (hP : P.Ok G.sw.length G.p) {j : Nat} (hj : j ≤ G.sw.length) : (roundOf G P j).Ok := by
  have hm := roundOf_many ok P hj
  have p3 := ok.p3
  have cl := hP.cl
  have dl := hP.dl
  cases j with
  | zero => exact ⟨ok, gl, by show (0 : Int) ≤ 0; decide, ⟨hm.1, by omega⟩, by show (0 : Int) ≤ 0 ∧ 0 < G.p; omega, by show (0 : Int) ≤ 0 ∧ 0 < G.p; omega, fun c h => (by cases h), Nat.zero_le _, fun h => absurd rfl h⟩
  | succ j =>
    refine ⟨ok, gl, by show (0 : Int) ≤ ((j + 1 : Nat) : Int); omega, ⟨hm.1, by omega⟩, hP.d0 _ (getD_mem (by omega)), hP.s0, fun c h => hP.c0 c (List.mem_of_mem_take h), ?_, fun _ => ?_⟩
    · show (P.coins.take j).length ≤ 10
      rw [List.length_take]; omega
    · show (P.coins.take j).length < G.sw.length
      rw [List.length_take]; omega
def RowQAt (N : Addr → Prop) (H : Hp) (R : RoundV) (v : V) : Prop := ∃ a c, v = .ref a ∧ H a = some (.tup [.int R.many, .int R.held, .int R.s, .ref c]) ∧ H c = some (.lst (R.tossed.map V.int)) ∧ N c
theorem RowQAt.step {N : Addr → Prop} {l : List Addr} {H H' : Hp} (e : Stp l H H') {R : RoundV} {v : V} (h : RowQAt N H R v) (hl : ∀ x ∈ l, ¬ N x ∨ ∀ ys, H x ≠ some (.lst ys)) : RowQAt N H' R v := by
  obtain ⟨a, c, h1, h2, h3, h4⟩ := h
  refine ⟨a, c, h1, e.t _ _ h2, e.k _ _ h3 fun hm => ?_, h4⟩
  rcases hl _ hm with z | z
  · exact z h4
  · exact z _ h3
theorem RowQAt.re {N N' : Addr → Prop} {H : Hp} {R : RoundV} {v : V} (hn : ∀ z, N z → N' z) (h : RowQAt N H R v) : RowQAt N' H R v := let ⟨a, c, h1, h2, h3, h4⟩ := h; ⟨a, c, h1, h2, h3, hn _ h4⟩
def spRows : Sp := fun vs H Q _ => ∃ (pl_ gv : V) (P : PlanV) (N : Addr → Prop) (G : GameV), vs = [pl_, gv] ∧ PlanAt N H pl_ P ∧ GTupAt H gv G.sw G.trees G.p ∧ G.Ok ∧ G.sw.length ≤ 10 ∧ P.Ok G.sw.length G.p ∧
  ∀ (a : Addr) (us : List V) H', H a = none → Stp [] H H' → H' a = some (.lst us) → AllP (RowQAt (fun z => z ≠ a) H') ((List.range (G.sw.length + 1)).map (roundOf G P)) us → Q (.ref a) H'
theorem ok_law_rows (T : Tx K mg) : FnOk P w K mg base CX0 25 T.f_law_rows T.d_law_rows ["_law_plan_here", "_law_game_here"] spRows := by
  refine T.F_law_rows.ok sc_law_rows (fun vs H Q E h => ?_) (fun cdv A outer s H vs Q E hr h => ?_)
  · obtain ⟨pl_, gv, P, N, G, rfl, _⟩ := h
    rfl
  obtain ⟨pl_, gv, P, N, G, rfl, hP, hG, ok, gl, oP, q⟩ := h
  refine ⟨_, (pss_cons (ps_set (i := 2) sc_law_rows.nd rfl (.inl rfl) (pe_lst (pa_cons (pe_tup (pa_cons (pe_callB (k_len (K := K)) (by rfl) T.z_len (by decide +kernel) (pa_cons (pe_ix (k_ix_tup (K := K)) (pv 1) pe_int (fun _ _ => rfl)) pa_nil)) (pa_cons pe_int (pa_cons pe_int (pa_cons (pe_lst pa_nil) pa_nil))))) pa_nil)))
      (pss_cons (ps_for PassesOwn.never rfl (ki_enum (K := K) (by rfl) T.z_enumerate (pa_cons (pe_call (ok_law_degrees T) (hr.mono (by omega)) (by rfl) T.g_law_degrees T.F_law_degrees.kp T.b_law_degrees .nil pass0 (pa_cons (pv 1) pa_nil)) pa_nil)) (pg_tup rfl (pgs_cons (pg_name (i := 3) sc_law_rows.nd (by rfl) (Or.inl (by rfl))) (pgs_cons (pg_name (i := 4) sc_law_rows.nd (by rfl) (Or.inl (by rfl))) pgs_nil)))
      (pss_one (ps_expr (k_bm (K := K) PySem.F.plainAttrs_list PySem.F.slot_list_append PySem.F.type_list_append mt_append (pv 2) (pa_cons (pe_tup (pa_cons (pe_op op_add (pv 4) pe_int) (pa_cons (pe_ix (k_ix_list (K := K)) (pe_ix (k_ix_tup (K := K)) (pv 0) pe_int (fun _ _ => rfl)) (pe_op op_add (pv 3) pe_int) (fun _ _ => rfl)) (pa_cons (pe_ix (k_ix_tup (K := K)) (pv 0) pe_int (fun _ _ => rfl)) (pa_cons (pe_slice (k_sl_list (K := K)) (pe_ix (k_ix_tup (K := K)) (pv 0) pe_int (fun _ _ => rfl)) po_none (po_some (pv 3))) pa_nil))))) pa_nil)))))
      (pss_one (ps_ret (pv 2))))), ?_⟩
  obtain ⟨pa, pc, pd, rfl, hpa, ⟨hpc, npc⟩, ⟨hpd, npd⟩⟩ := id hP
  obtain ⟨c, ga, gb, us, rfl, hc, ha, hb, ht⟩ := id hG
  have ul : us.length = G.trees.length := ht.len
  refine ⟨_, rfl, c, _, _, _, rfl, rfl, SqT.of hc, at1, gb, _, rfl, .inr (SqT.of hb), ?_⟩
  rw [ul]
  refine ⟨Nat.zero_le _, fun z hz => ?_⟩
  refine ⟨Nat.le_of_lt (small1000 (by show 4 ≤ 1000; decide)), fun t0 ht0 => ?_⟩
  refine ⟨Nat.le_of_lt (small1000 (by show 1 ≤ 1000; decide)), fun D hD => ?_⟩
  have eA : Stp [] H _ := (Stp.new (o := .lst []) hz).trans (Stp.new (o := .tup [.int (G.trees.length : Int), .int 0, .int 0, .ref z]) ht0)
  have e1 := eA.trans (Stp.new (l := []) (o := .lst [.ref t0]) hD)
  have nzD : z ≠ D := fun e => by
    rw [← e, (Stp.new (l := []) (o := .tup [.int (G.trees.length : Int), .int 0, .int 0, .ref z]) ht0).k _ _ upd_same (by simp)] at hD; cases hD
  have DH : H D = none := eA.free hD (by simp)
  have row0 : RowQAt (fun z => z ≠ D) _ (roundOf G P 0) (.ref t0) := ⟨t0, z, rfl, (Stp.new (l := []) (o := .lst [.ref t0]) hD).t _ _ upd_same, ((Stp.new (l := []) (o := .tup [.int (G.trees.length : Int), .int 0, .int 0, .ref z]) ht0).trans (Stp.new (o := .lst [.ref t0]) hD)).k _ _ upd_same (by simp), nzD⟩
  refine ⟨_, rfl, _, _, _, _, rfl, hG.step e1, by omega, ok.tl.1, ok.tl.2, fun t h => ⟨(ok.ts t h).1, (ok.ts t h).2.1⟩, fun dg ds H2 hdg e2 hds dl hdeg => ?_⟩
  have eds : ds = G.deg := (show GameOf G.sw G.trees G.p G from ⟨ok, rfl, rfl, rfl⟩).deg dl hdeg
  subst eds
  have e12 := e1.trans e2
  have hD2 := e2.k _ _ (upd_same (H := upd (upd H z (.lst [])) t0 (.tup [.int (G.trees.length : Int), .int 0, .int 0, .ref z])) (a := D) (o := .lst [.ref t0])) (by simp)
  refine ⟨dg, _, rfl, SqL.of hds, for_enum (K := K) (a := dg) (xs := G.deg.map V.int) (fun i σ H' => ∃ (y3 y4 : Option V) (rs : List V), σ = [some (.ref pa), some (.ref c), some (.ref D), y3, y4] ∧ Stp [] H H' ∧ H' dg = some (.lst (G.deg.map V.int)) ∧ H' D = some (.lst rs) ∧ AllP (RowQAt (fun z => z ≠ D) H') ((List.range (i + 1)).map (roundOf G P)) rs)
    ⟨none, none, _, rfl, e12, hds, hD2, .cons (row0.step e2 (fun x h => by cases h)) .nil⟩ (fun i σ H' _ ⟨_, _, _, _, _, h, _⟩ => SqL.of h) ?_ ?_⟩
  · rintro i v σ H3 Tt hi ⟨y3, y4, rs, rfl, e3, hdg3, hD3, hrs⟩ hTt
    obtain ⟨dgr, hdgr, rfl⟩ := at_int hi
    have il := lt_of_at hdgr
    rw [ok.dl] at il
    have eT : Stp [] H3 (upd H3 Tt (.tup [.int (i : Nat), .int dgr])) := Stp.new hTt
    refine ⟨Tt, _, rfl, .inl (.inl upd_same), rfl, _, _, rfl, _, [], rfl, rfl, ?_⟩
    have e4 := e3.trans eT
    have pdl := oP.dl
    have pcl := oP.cl
    refine ⟨_, rfl, .inl ⟨rfl, _, SqL.of (eT.k _ _ hD3 (by simp))⟩, ?_⟩
    refine ⟨_, rfl, _, _, rfl, rfl, ?_⟩
    refine ⟨_, rfl, pa, _, _, _, rfl, rfl, SqT.of (e4.t _ _ hpa), at2, _, rfl, _, _, rfl, rfl, pd, _, _, _, rfl, rfl, SqL.of (e4.k _ _ hpd (by simp)), at_of (j := i + 1) (by omega) (by rw [List.getElem?_map, getD_at (by omega)]; rfl), ?_⟩
    refine ⟨_, rfl, pa, _, _, _, rfl, rfl, SqT.of (e4.t _ _ hpa), at0, ?_⟩
    refine ⟨_, rfl, pa, _, _, _, rfl, rfl, SqT.of (e4.t _ _ hpa), at1, _, rfl, _, rfl, pc, _, rfl, SqL.of (e4.k _ _ hpc (by simp)), fun p1 hp1 => ?_⟩
    have e5 : Stp [] _ _ := Stp.new (o := .lst (cutV (P.coins.map V.int) none (some (i : Int)))) hp1
    refine ⟨Nat.le_of_lt (small1000 (by show 4 ≤ 1000; decide)), fun p2 hp2 => ?_⟩
    have e6 : Stp [] _ _ := Stp.new (o := .tup [.int (dgr + 1), .int (P.dues.getD (i + 1) 0), .int P.s, .ref p1]) hp2
    have eN := eT.trans (e5.trans e6)
    have hD6 := eN.k _ _ hD3 (by simp)
    refine ⟨D, _, _, rfl, rfl, hD6, ?_, ?_⟩
    · rw [hrs.len, List.length_map, List.length_range]; exact small1000 (by omega)
    have n1D : p1 ≠ D := fun z => by rw [z, eT.k _ _ hD3 (by simp)] at hp1; cases hp1
    have n1p2 : p1 ≠ p2 := fun z => by rw [← z, upd_same] at hp2; cases hp2
    have eD : Stp [D] _ (upd _ D (.lst (rs ++ [.ref p2]))) := Stp.wrL hD6 (by simp)
    have ndg : dg ≠ D := fun z => by rw [z, upd_same] at hdg; cases hdg
    have hl : ∀ H0 : Hp, ∀ x ∈ [D], ¬ (fun z => z ≠ D) x ∨ ∀ ys, H0 x ≠ some (HO.lst ys) := fun H0 x hx => .inl fun h => h (by simpa using hx)
    have edg : G.deg.getD i 0 = dgr := by rw [List.getD_eq_getElem?_getD, hdgr]; rfl
    refine ⟨_, _, rs ++ [.ref p2], rfl, (e3.trans eN).fresh DH, ?_, upd_same, ?_⟩
    · rw [upd_ne ndg]; exact eN.k _ _ hdg3 (by simp)
    · rw [List.range_succ, List.map_append]
      refine AllP.snoc (RowQAt.step eD ⟨p2, p1, rfl, ?_, ?_, n1D⟩ (hl _)) (AllP.mono (fun R v h => RowQAt.step eD (h.step eN (fun x h => by cases h)) (hl _)) hrs)
      · rw [upd_same]
        show _ = some (HO.tup [.int (G.deg.getD i 0 + 1), _, _, _])
        rw [edg]; rfl
      · rw [upd_ne n1p2, upd_same, cutV_to]; rfl
  · rintro σ H3 ⟨y3, y4, rs, rfl, e3, hdg3, hD3, hrs⟩
    rw [List.length_map, ok.dl] at hrs
    exact ⟨_, rfl, q D rs H3 DH e3 hD3 hrs⟩

/-! ### lists of whole numbers compared -/
theorem dpAllInts {K : PySem.W.Frag} {H : Hp} : ∀ ns : List Int, DpAll K H (ns.map V.int) (ns.map PyData.int)
  | [] => .nil
  | n :: r => .cons (.int n) (dpAllInts r)
theorem dpInts {K : PySem.W.Frag} {H : Hp} {a : Addr} {ns : List Int} (h : H a = some (.lst (ns.map V.int))) : Dp K H (.ref a) (.list (ns.map PyData.int)) := .lst (SqL.of h) (dpAllInts ns)
theorem eqvAll_ints : ∀ ns ms : List Int, PyData.eqvAll (ns.map PyData.int) (ms.map PyData.int) = decide (ns = ms)
  | [], [] => by simp [PyData.eqvAll]
  | [], m :: ms => by simp [PyData.eqvAll]
  | n :: ns, [] => by simp [PyData.eqvAll]
  | n :: ns, m :: ms => by
    rw [List.map_cons, List.map_cons, PyData.eqvAll, eqvAll_ints ns ms]
    by_cases c : n = m
    · subst c; simp [PyData.eqv]
    · simp [PyData.eqv, c]
theorem eqv_ints (ns ms : List Int) : PyData.eqv (.list (ns.map PyData.int)) (.list (ms.map PyData.int)) = decide (ns = ms) := by
  rw [PyData.eqv]; exact eqvAll_ints ns ms
theorem shaped_ints (ns : List Int) : SeqAt.shaped (.list (ns.map PyData.int)) = true := by
  have h1 : PyData.canLayAll0 (ns.map PyData.int) = true := by
    induction ns with
    | nil => rfl
    | cons n r ih => rw [List.map_cons, PyData.canLayAll0, ih]; rfl
  have h2 : PyData.depthAll (ns.map PyData.int) = 0 := by
    clear h1
    induction ns with
    | nil => rfl
    | cons n r ih => rw [List.map_cons, PyData.depthAll, ih]; rfl
  unfold SeqAt.shaped
  rw [PyData.canLay0, h1, PyData.depth, h2]
  rfl
/-! ### a machine and its rounds -/
structure Sit (G : GameV) (rows : List Row) : Prop where
  ok : G.Ok
  gl : G.sw.length ≤ 10
  rl : rows.length ≤ 1000
  dep : ∀ r ∈ rows, r.dep 6
def stB (G : GameV) (P : PlanV) (rows : List Row) : Nat → Str → Int
  | 0 => zeroB
  | j + 1 => (endM (roundOf G P j) rows (stB G P rows j)).B
def toldJ (G : GameV) (P : PlanV) (rows : List Row) (j : Nat) : List Int := toldM (roundOf G P j) rows (stB G P rows j)
theorem stB_rng {G : GameV} {rows : List Row} (S : Sit G rows) {P : PlanV} (hP : P.Ok G.sw.length G.p) : ∀ j, j ≤ G.sw.length + 1 → ∀ x, 0 ≤ stB G P rows j x ∧ stB G P rows j x < G.p
  | 0, _ => fun x => by have := S.ok.p3; show (0 : Int) ≤ 0 ∧ (0 : Int) < G.p; omega
  | j + 1, h => by
    have ih := stB_rng S hP j (by omega)
    have ok := roundOf_ok S.ok S.gl hP (j := j) (by omega)
    have := runM_rng ok (rows := rows) 200 (L := ⟨0, stB G P rows j, []⟩) (fun x => by rw [roundOf_G]; exact ih x)
    rw [roundOf_G] at this
    exact this
def MSt (G : GameV) (P : PlanV) (rows : List Row) (j : Nat) : MachV := ⟨G, rows, stB G P rows j, j⟩
def spLSay (T : Tx K mg) : Sp := fun vs H Q _ => ∃ (m d : Addr) (rv : V) (G : GameV) (P : PlanV) (rows : List Row) (j k : Nat) (N : Addr → Prop), vs = [.ref m, rv] ∧ MachAt T.C_Machine T.C_Game H m d (MSt G P rows j) k ∧ RowQAt N H (roundOf G P j) rv ∧ Sit G rows ∧ P.Ok G.sw.length G.p ∧ j ≤ G.sw.length ∧ k ≤ 900000 ∧
  ∀ p H', H p = none → Stp [m, d] H H' → MachAt T.C_Machine T.C_Game H' m d (MSt G P rows (j + 1)) (k + 200) → H' p = some (.lst ((toldJ G P rows j).map V.int)) → (∀ N p, GN T.C_Machine T.C_Game N p H m → GN T.C_Machine T.C_Game N p H' m) → Q (.ref p) H'
theorem ok_law_say (T : Tx K mg) : FnOk P w K mg base CX0 41 T.f_law_say T.d_law_say ["_law_machine", "_law_row"] (spLSay T) := by
  refine T.F_law_say.ok sc_law_say (fun vs H Q E h => ?_) (fun cdv A outer s H vs Q E hr h => ?_)
  · obtain ⟨m, d, rv, G, P, rows, j, k, N, rfl, _⟩ := h
    rfl
  obtain ⟨m, d, rv, G, P, rows, j, k, N, rfl, hM, hR, S, oP, jn, hk, q⟩ := h
  refine ⟨_, (pss_one (ps_ret (pe_meth (pv 0) T.cl_Machine T.m_Machine_say (ok_Machine_say T 6) (hr.mono (by omega)) T.b_Machine_say .nil pass0 (pa_cons (pe_ix (k_ix_tup (K := K)) (pv 1) pe_int (fun _ _ => rfl)) (pa_cons (pe_ix (k_ix_tup (K := K)) (pv 1) pe_int (fun _ _ => rfl)) (pa_cons (pe_ix (k_ix_tup (K := K)) (pv 1) pe_int (fun _ _ => rfl)) (pa_cons (pe_callTy (k_list_of (K := K)) (by rfl) T.z_list (by decide +kernel) (pa_cons (pe_ix (k_ix_tup (K := K)) (pv 1) pe_int (fun _ _ => rfl)) pa_nil)) pa_nil))))))), ?_⟩
  obtain ⟨a, c, rfl, ha, hc, _⟩ := id hR
  obtain ⟨dx, g, h, us, m1, m2, m3, m4, m5⟩ := id hM
  have many := roundOf_many S.ok P (j := j) jn
  refine ⟨_, rfl, m, dx, _, rfl, m1, machF_no _ _ _ _ (by decide +kernel) (by decide +kernel) (by decide +kernel) (by decide +kernel), _, rfl, a, _, _, _, rfl, rfl, SqT.of ha, at0, _, rfl, a, _, _, _, rfl, rfl, SqT.of ha, at1, _, rfl, a, _, _, _, rfl, rfl, SqT.of ha, at2, _, rfl, a, _, _, _, rfl, rfl, SqT.of ha, at3, c, _, rfl, .inl (SqL.of hc), fun l hl => ?_⟩
  have e1 : Stp [] H (upd H l (.lst ((roundOf G P j).tossed.map V.int))) := Stp.new hl
  have ok := roundOf_ok S.ok S.gl oP (j := j) jn
  refine ⟨m, d, l, MSt G P rows j, roundOf G P j, k, rfl, ⟨dx, g, h, us, e1.k _ _ m1 (by simp), m2.step0 e1, e1.t _ _ m3, AllP.mono (fun r v => RowAt.step e1 r v) m4, m5.step e1 (by simp)⟩, hk, roundOf_G _ _ _, roundOf_n _ _ _, ok, many.2, S.rl, S.dep, ?_, upd_same, ?_, fun p H' hp e2 hM2 hp2 hGN => ?_⟩
  · intro x
    rw [roundOf_G]
    exact stB_rng S oP j (by omega) x
  · rw [roundOf_n]; have := S.gl; omega
  · refine q p H' (e1.free hp (by simp)) (e1.nil.trans e2) ?_ hp2 ?_
    rotate_left
    · intro N p0 hN
      obtain ⟨gx, a1, a2, a3, gus, g1, _⟩ := id m2
      exact hGN N p0 (hN.of m1 (e1.k _ _ m1 (by simp)) g1 (e1.k _ _ g1 (by simp)))
    have ej : ((j : Int) + 1) = ((j + 1 : Nat) : Int) := by omega
    unfold MSt at hM2 ⊢
    rw [← ej]
    exact hM2

theorem GameV.Ok.ct {G : GameV} (ok : G.Ok) : ∀ x ∈ G.sw, ∀ t ∈ G.trees, (t.names.count x : Int) < G.p := fun x hx t ht => by
  obtain ⟨i, hi⟩ := List.getElem?_of_mem hx
  have hl := lt_of_at hi
  obtain ⟨d, hd⟩ : ∃ d, G.deg[i]? = some d := ⟨_, List.getElem?_eq_getElem (by rw [ok.dl]; exact hl)⟩
  have h1 := (ok.dg i x d hi hd).2 _ (List.mem_map.mpr ⟨t, ht, rfl⟩)
  have h2 := ok.dp d (List.mem_of_getElem? hd)
  omega
theorem BoxAt.obj {H : Hp} {d : Addr} {B : Str → Int} {k : Nat} (h : BoxAt H d B k) : ∃ kvs, H d = some (.dK kvs) := let ⟨kvs, h1, _⟩ := h; ⟨kvs, h1⟩
/-- a machine stands while another one is asked -/
theorem MachAt.other {CM CG : Addr} {H H' : Hp} {m d m' d' : Addr} {M M' : MachV} {k k' : Nat} (e : Stp [m', d'] H H') (h : MachAt CM CG H m d M k) (h' : MachAt CM CG H m' d' M' k') (hm : m ≠ m') (hd : d ≠ d') : MachAt CM CG H' m d M k := by
  obtain ⟨dx, g, hh, us, m1, m2, m3, m4, m5⟩ := h
  obtain ⟨dx', g', hh', us', n1, n2, n3, n4, n5⟩ := h'
  obtain ⟨kvs, b1⟩ := n5.obj
  obtain ⟨kvs2, c1⟩ := m5.obj
  have md : m ≠ d' := fun z => by rw [z, b1] at m1; cases m1
  have dm : d ≠ m' := fun z => by rw [z, n1] at c1; cases c1
  have gm := m2.ne_mach n1
  have gd : g ≠ d' := fun z => by
    obtain ⟨gx, a1, a2, a3, us, g1, _⟩ := m2
    rw [z, b1] at g1; cases g1
  refine ⟨dx, g, hh, us, e.k _ _ m1 (by simp [hm, md]), m2.stepI e (by simp [gm, gd]) (fun x hx ys hy => ?_), e.t _ _ m3, AllP.mono (fun r v => RowAt.step e r v) m4, m5.step e (by simp [dm, hd])⟩
  have : x = m' ∨ x = d' := by simpa using hx
  rcases this with rfl | rfl
  · rw [n1] at hy; cases hy
  · rw [b1] at hy; cases hy
theorem MachAt.step0 {CM CG : Addr} {H H' : Hp} {m d : Addr} {M : MachV} {k : Nat} (e : Stp [] H H') (h : MachAt CM CG H m d M k) : MachAt CM CG H' m d M k := by
  obtain ⟨dx, g, hh, us, m1, m2, m3, m4, m5⟩ := h
  exact ⟨dx, g, hh, us, e.k _ _ m1 (by simp), m2.step0 e, e.t _ _ m3, AllP.mono (fun r v => RowAt.step e r v) m4, m5.step e (by simp)⟩
theorem MachAt.notL {CM CG : Addr} {H : Hp} {m d : Addr} {M : MachV} {k : Nat} (h : MachAt CM CG H m d M k) : ∀ x ∈ [m, d], ∀ ys, H x ≠ some (.lst ys) := fun x hx ys hy => by
  obtain ⟨dx, g, hh, us, m1, m2, m3, m4, m5⟩ := h
  obtain ⟨kvs, b1⟩ := m5.obj
  have : x = m ∨ x = d := by simpa using hx
  rcases this with rfl | rfl
  · rw [m1] at hy; cases hy
  · rw [b1] at hy; cases hy
theorem Stp.lst {l : List Addr} {H H' : Hp} (e : Stp l H H') (hl : ∀ x ∈ l, ∀ ys, H x ≠ some (.lst ys)) {a : Addr} {xs : List V} (h : H a = some (.lst xs)) : H' a = some (.lst xs) := e.k _ _ h fun hm => hl _ hm _ h
def spFresh (T : Tx K mg) : Sp := fun vs H Q _ => ∃ (gv : V) (h L : Addr) (us rs : List V) (G : GameV) (P : PlanV) (rows : List Row) (J : Nat) (N : Addr → Prop), vs = [gv, .ref h, .ref L] ∧ GTupAt H gv G.sw G.trees G.p ∧ Sit G rows ∧ P.Ok G.sw.length G.p ∧ H h = some (.tup us) ∧ RowsAt H rows us ∧
  H L = some (.lst rs) ∧ AllP (RowQAt N H) ((List.range J).map (roundOf G P)) rs ∧ J ≤ G.sw.length + 1 ∧
  ∀ a m d z H', Stp [] H H' → H m = none → H d = none → H' a = some (.tup [.ref m, .ref z]) → MachAt T.C_Machine T.C_Game H' m d (MSt G P rows J) (200 * J) → (∀ j, J = j + 1 → H' z = some (.lst ((toldJ G P rows j).map V.int))) → Q (.ref a) H'
theorem ok_law_fresh (T : Tx K mg) : FnOk P w K mg base CX0 42 T.f_law_fresh T.d_law_fresh ["_law_game_here", "_law_helper_here", "_law_rows_here"] (spFresh T) := by
  refine T.F_law_fresh.ok sc_law_fresh (fun vs H Q E h => ?_) (fun cdv A outer s H vs Q E hr h => ?_)
  · obtain ⟨gv, h, L, us, rs, G, P, rows, J, N, rfl, _⟩ := h
    rfl
  obtain ⟨gv, h, L, us, rs, G, P, rows, J, N, rfl, hG, S, oP, hh, hrows, hL, hrs, hJ, q⟩ := h
  refine ⟨_, (pss_cons (ps_set (i := 3) sc_law_fresh.nd rfl (.inl rfl) (pe_make T.mk_Machine (ok_Machine___init__ T) (hr.mono (by omega)) (by rfl) T.gC_Machine T.b_Machine___init__ .nil pass0 (pa_cons (pe_make T.mk_Game (ok_Game___init__ T) (hr.mono (by omega)) (by rfl) T.gC_Game T.b_Game___init__ .nil pass0 (pa_cons (pe_ix (k_ix_tup (K := K)) (pv 0) pe_int (fun _ _ => rfl)) (pa_cons (pe_ix (k_ix_tup (K := K)) (pv 0) pe_int (fun _ _ => rfl)) (pa_cons (pe_ix (k_ix_tup (K := K)) (pv 0) pe_int (fun _ _ => rfl)) pa_nil)))) (pa_cons (pv 1) pa_nil))))
      (pss_cons (ps_set (i := 4) sc_law_fresh.nd rfl (.inl rfl) (pe_lst pa_nil))
      (pss_cons (ps_for PassesOwn.never rfl (ki_list (K := K) (pv 2)) (pg_name (i := 5) sc_law_fresh.nd (by rfl) (Or.inl (by rfl)))
      (pss_one (ps_set (i := 4) sc_law_fresh.nd rfl (.inl rfl) (pe_call (ok_law_say T) (hr.mono (by omega)) (by rfl) T.g_law_say T.F_law_say.kp T.b_law_say .nil pass0 (pa_cons (pv 3) (pa_cons (pv 5) pa_nil))))))
      (pss_one (ps_ret (pe_tup (pa_cons (pv 3) (pa_cons (pv 4) pa_nil)))))))), ?_⟩
  obtain ⟨c, ga, gb, gus, rfl, hc, ha, hb, ht⟩ := id hG
  refine ⟨_, rfl, c, _, _, _, rfl, rfl, SqT.of hc, at0, _, rfl, c, _, _, _, rfl, rfl, SqT.of hc, at1, _, rfl, c, _, _, _, rfl, rfl, SqT.of hc, at2, ?_⟩
  intro g gx hg0 hgx ngx
  have e0 : Stp [] H (upd (upd H gx (.own g)) g (.ins T.C_Game gx [])) := (Stp.new hgx).trans (Stp.new (by rw [upd_ne ngx.symm]; exact hg0))
  have ok := S.ok
  refine ⟨g, gx, ga, gb, G.sw, G.trees, gus, G.p, rfl, upd_same, tupF_step e0 ha, e0.t _ _ hb, ht.step e0, ok.nd, ok.sl, ok.tl.1, ok.tl.2, ok.ts, ok.pr, ok.p3, ok.pm, ok.ct, ok.tp, fun G' H1 e1 ok' e1s e1t e1p hG1 => ⟨rfl, ?_⟩⟩
  have eG : G' = G := (show GameOf G.sw G.trees G.p G from ⟨ok, rfl, rfl, rfl⟩).one ⟨ok', e1s, e1t, e1p⟩
  subst eG
  have e01 : Stp [] H H1 := (e0.nil.trans e1).drop hg0
  refine ⟨_, rfl, ?_⟩
  intro m mx hm0 hmx nmx
  have e2 : Stp [] H1 (upd (upd H1 mx (.own m)) m (.ins T.C_Machine mx [])) := (Stp.new hmx).trans (Stp.new (by rw [upd_ne nmx.symm]; exact hm0))
  have e02 := e01.trans e2
  refine ⟨m, mx, g, h, G', rows, us, rfl, upd_same, hG1.step0 e2, e02.t _ _ hh, AllP.mono (fun r v => RowAt.step e02 r v) hrows, fun d H3 hd nd e3 hM3 _ => ⟨rfl, ?_⟩⟩
  have e03 : Stp [] H H3 := e01.trans ((e2.nil.trans e3).drop hm0)
  have mH : H m = none := e01.free hm0 (by simp)
  have dH : H d = none := e02.free hd (by simp)
  refine ⟨Nat.zero_le _, fun z0 hz0 => ?_⟩
  have e4 : Stp [] H3 (upd H3 z0 (.lst [])) := Stp.new hz0
  refine ⟨_, rfl, L, rfl, ⟨_, SqL.of ((e03.trans e4).k _ _ hL (by simp))⟩, for_list (K := K) (a := L) (xs := rs) (fun i σ H' => ∃ (z : Addr) (y5 : Option V), σ = [some (.ref c), some (.ref h), some (.ref L), some (.ref m), some (.ref z), y5] ∧ Stp [] H H' ∧ H' L = some (.lst rs) ∧ MachAt T.C_Machine T.C_Game H' m d (MSt G' P rows i) (200 * i) ∧ (∀ j, i = j + 1 → H' z = some (.lst ((toldJ G' P rows j).map V.int))))
    ⟨z0, none, rfl, e03.trans e4, (e03.trans e4).k _ _ hL (by simp), hM3.step0 e4, fun j h => by cases h⟩ (fun i σ H' _ ⟨_, _, _, _, h, _⟩ => SqL.of h) ?_ ?_⟩
  · rintro i v σ H5 hi ⟨z, y5, rfl, e5, hL5, hM5, _⟩
    obtain ⟨R, hR, hv⟩ := hrs.get hi
    have iJ := lt_of_at hR
    rw [List.length_map, List.length_range] at iJ
    have eR : roundOf G' P i = R := by
      rw [List.getElem?_map, List.getElem?_range iJ] at hR
      exact Option.some.inj hR
    subst eR
    have hk : 200 * i ≤ 900000 := by have := S.gl; omega
    refine ⟨_, rfl, _, rfl, m, d, v, G', P, rows, i, 200 * i, N, rfl, hM5, hv.step e5 (fun x h => by cases h), S, oP, by omega, hk, fun p H6 hp e6 hM6 hp6 _ => ?_⟩
    have e56 : Stp [] H H6 := ((e5.nil.trans e6).drop mH).drop dH
    exact ⟨p, _, rfl, e56, e6.lst hM5.notL hL5, hM6, fun j ej => by
      have : i = j := by omega
      rw [← this]; exact hp6⟩
  · rintro σ H5 ⟨z, y5, rfl, e5, hL5, hM5, hz5⟩
    have lrs : rs.length = J := by rw [hrs.len, List.length_map, List.length_range]
    rw [lrs] at hM5 hz5
    refine ⟨_, rfl, _, rfl, Nat.le_of_lt (small1000 (by show 2 ≤ 1000; decide)), fun a hap => ?_⟩
    have e6 : Stp [] H5 (upd H5 a (.tup [.ref m, .ref z])) := Stp.new hap
    exact q a m d z _ (e5.trans e6) mH dH upd_same (hM5.step0 e6) fun j ej => e6.k _ _ (hz5 j ej) (by simp)

def spSame (T : Tx K mg) : Sp := fun vs H Q _ => ∃ (m d m' d' l : Addr) (M M' : MachV) (k k' : Nat) (xs : List Str), vs = [.ref m, .ref m', .ref l] ∧ MachAt T.C_Machine T.C_Game H m d M k ∧ MachAt T.C_Machine T.C_Game H m' d' M' k' ∧ M.B = M'.B ∧ H l = some (.lst (xs.map V.str)) ∧
  ∀ H', Stp [] H H' → Q (.bl true) H'
theorem ok_law_same_boxes (T : Tx K mg) : FnOk P w K mg base CX0 2 T.f_law_same_boxes T.d_law_same_boxes ["_law_one", "_law_other", "_law_names_here"] (spSame T) := by
  refine T.F_law_same_boxes.ok sc_law_same_boxes (fun vs H Q E h => ?_) (fun cdv A outer s H vs Q E hr h => ?_)
  · obtain ⟨m, d, m', d', l, M, M', k, k', xs, rfl, _⟩ := h
    rfl
  obtain ⟨m, d, m', d', l, M, M', k, k', xs, rfl, h1, h2, eB, hl, q⟩ := h
  have hu := hu_of hr
  refine ⟨_, (pss_one (ps_ret (pe_cmpR (k_eqD hr.units (K := K)) (pe_lc (own := [("_law_name", 3)]) (g := gName 3) (by rfl) sc_law_same_boxes.nd (ki_list (K := K) (pv 2)) (blkOk_by (own := [("_law_name", 3)]) (N := ["_law_one", "_law_other", "_law_names_here", "_law_name"]) (sc := defScope s_law_same_boxes) (by decide +kernel)) (fun _ _ _ _ _ => (pg_name (i := 3) sc_law_same_boxes.nd (by rfl) (Or.inl (by rfl)))) (fun _ _ _ _ _ => by exact (pts_one (pt_cmpR op_ne (pe_meth (pv 0) T.cl_Machine T.m_Machine_box (ok_Machine_box T) (hr.mono (by omega)) T.b_Machine_box .nil pass0 (pa_cons (pv 3) pa_nil)) (pe_meth (pv 1) T.cl_Machine T.m_Machine_box (ok_Machine_box T) (hr.mono (by omega)) T.b_Machine_box .nil pass0 (pa_cons (pv 3) pa_nil)) (nomark _)))) (fun _ _ _ _ _ => by exact (pv 3))) (pe_lst pa_nil) (nomark _)))), ?_⟩
  refine ⟨_, rfl, l, rfl, ⟨_, SqL.of hl⟩, fun D hD => lc_list (K := K) (a := l) (xs := xs.map V.str) (fun i H' => Stp [] H H' ∧ H' D = some (.lst [])) ⟨Stp.new hD, upd_same⟩ (fun i H' _ h => SqL.of (h.1.k _ _ hl (by simp))) ?_ ?_⟩
  · rintro i v H1 hi ⟨e1, hD1⟩
    obtain ⟨x, hx, rfl⟩ := at_str hi
    have a1 := h1.step0 e1
    have a2 := h2.step0 e1
    obtain ⟨dx, g, hh, us, m1, _⟩ := id a1
    obtain ⟨dx', g', hh', us', n1, _⟩ := id a2
    refine ⟨rfl, ?_⟩
    refine ⟨_, rfl, m, dx, _, rfl, m1, machF_no _ _ _ _ (by decide +kernel) (by decide +kernel) (by decide +kernel) (by decide +kernel), _, rfl, m, d, M, k, x, rfl, a1, ?_⟩
    refine ⟨_, rfl, m', dx', _, rfl, n1, machF_no _ _ _ _ (by decide +kernel) (by decide +kernel) (by decide +kernel) (by decide +kernel), _, rfl, m', d', M', k', x, rfl, a2, ?_⟩
    rw [eB]
    refine ⟨rfl, _, rfl, ?_⟩
    rw [decide_eq_true rfl]
    exact ⟨e1, hD1⟩
  · rintro H1 ⟨e1, hD1⟩
    refine ⟨Nat.zero_le _, fun z hz => ?_⟩
    refine ⟨_, _, dpInts (ns := []) ((Stp.new (l := []) hz).k _ _ hD1 (by simp)), dpInts (ns := []) upd_same, shaped_ints [], shaped_ints [], ?_⟩
    rw [eqv_ints]
    exact q _ (e1.trans (Stp.new hz))
/-! ### the machines at hand -/
/-- one at hand: its machine, its boxes, its plan's value, the plan -/
structure Hand where
  m : Addr
  d : Addr
  pv : V
  P : PlanV
def HandAt (CM CG : Addr) (N : Addr → Prop) (G : GameV) (rows : List Row) (j : Nat) (K : Nat) (H : Hp) (h : Hand) (v : V) : Prop := ∃ a k, v = .ref a ∧ H a = some (.tup [.ref h.m, h.pv]) ∧ MachAt CM CG H h.m h.d (MSt G h.P rows j) k ∧ k ≤ K ∧ GN CM CG N G.p H h.m ∧ PlanAt N H h.pv h.P ∧ h.P.Ok G.sw.length G.p
def Hand.apart (a b : Hand) : Prop := a.m ≠ b.m ∧ a.d ≠ b.d
abbrev HandsAt (CM CG : Addr) (N : Addr → Prop) (G : GameV) (rows : List Row) (j K : Nat) (H : Hp) : List Hand → List V → Prop := AllP (HandAt CM CG N G rows j K H)
theorem HandAt.step0 {CM CG : Addr} {N : Addr → Prop} {G : GameV} {rows : List Row} {j K : Nat} {H H' : Hp} (e : Stp [] H H') {h : Hand} {v : V} : HandAt CM CG N G rows j K H h v → HandAt CM CG N G rows j K H' h v :=
  fun ⟨a, k, h1, h2, h3, h4, hg, h5, h6⟩ => ⟨a, k, h1, e.t _ _ h2, h3.step0 e, h4, (by
    obtain ⟨dx, g, hh, us, m1, ⟨gx, a1, a2, a3, gus, g1, _⟩, _⟩ := h3
    exact hg.of m1 (e.k _ _ m1 (by simp)) g1 (e.k _ _ g1 (by simp))), h5.step e (fun x h => by cases h), h6⟩
def spAllAlike (T : Tx K mg) : Sp := fun vs H Q _ => ∃ (S gv : _) (hc l : Addr) (us ss : List V) (G : GameV) (rows : List Row) (xs : List Str) (hs : List Hand) (N : Addr → Prop) (K' : Nat), vs = [.ref S, gv, .ref hc, .ref l] ∧ GTupAt H gv G.sw G.trees G.p ∧ Sit G rows ∧ H hc = some (.tup us) ∧ RowsAt H rows us ∧
  H S = some (.lst ss) ∧ HandsAt T.C_Machine T.C_Game N G rows (G.sw.length + 1) K' H hs ss ∧ H l = some (.lst (xs.map V.str)) ∧
  ∀ H', Stp [] H H' → Q (.bl true) H'
theorem ok_law_all_alike (T : Tx K mg) : FnOk P w K mg base CX0 43 T.f_law_all_alike T.d_law_all_alike ["_law_some", "_law_game_here", "_law_helper_here", "_law_names_here"] (spAllAlike T) := by
  refine T.F_law_all_alike.ok sc_law_all_alike (fun vs H Q E h => ?_) (fun cdv A outer s H vs Q E hr h => ?_)
  · obtain ⟨S, gv, hc, l, us, ss, G, rows, xs, hs, N, K', rfl, _⟩ := h
    rfl
  obtain ⟨S, gv, hc, l, us, ss, G, rows, xs, hs, N, K', rfl, hG, si, hh, hrows, hS, hhs, hl, q⟩ := h
  refine ⟨_, (pss_cons (ps_for PassesOwn.never rfl (ki_list (K := K) (pv 0)) (pg_tup rfl (pgs_cons (pg_name (i := 4) sc_law_all_alike.nd (by rfl) (Or.inl (by rfl))) (pgs_cons (pg_name (i := 5) sc_law_all_alike.nd (by rfl) (Or.inl (by rfl))) pgs_nil)))
      (pss_cons (ps_if (pt_not (pt_val (pe_call (ok_law_same_boxes T) (hr.mono (by omega)) (by rfl) T.g_law_same_boxes T.F_law_same_boxes.kp T.b_law_same_boxes .nil pass0 (pa_cons (pv 4) (pa_cons (pe_ix (k_ix_tup (K := K)) (pe_call (ok_law_fresh T) (hr.mono (by omega)) (by rfl) T.g_law_fresh T.F_law_fresh.kp T.b_law_fresh .nil pass0 (pa_cons (pv 1) (pa_cons (pv 2) (pa_cons (pe_call (ok_law_rows T) (hr.mono (by omega)) (by rfl) T.g_law_rows T.F_law_rows.kp T.b_law_rows .nil pass0 (pa_cons (pv 5) (pa_cons (pv 1) pa_nil))) pa_nil)))) pe_int (fun _ _ => rfl)) (pa_cons (pv 3) pa_nil)))))) (pss_one (ps_ret pe_bl)) pss_nil)
      (pss_one (ps_if (pt_not (pt_val (pe_call (ok_law_same_boxes T) (hr.mono (by omega)) (by rfl) T.g_law_same_boxes T.F_law_same_boxes.kp T.b_law_same_boxes .nil pass0 (pa_cons (pe_meth0 (pv 4) T.cl_Machine T.m_Machine_twin (ok_Machine_twin T) (hr.mono (by omega)) T.b_Machine_twin .nil pass0) (pa_cons (pv 4) (pa_cons (pv 3) pa_nil)))))) (pss_one (ps_ret pe_bl)) pss_nil))))
      (pss_one (ps_ret pe_bl))), ?_⟩
  refine ⟨_, rfl, S, rfl, ⟨_, SqL.of hS⟩, for_list (K := K) (a := S) (xs := ss) (fun i σ H' => ∃ (y4 y5 : Option V), σ = [some (.ref S), some gv, some (.ref hc), some (.ref l), y4, y5] ∧ Stp [] H H')
    ⟨none, none, rfl, .refl⟩ (fun i σ H' _ ⟨_, _, _, e⟩ => SqL.of (e.k _ _ hS (by simp))) ?_ ?_⟩
  · rintro i v σ H1 hi ⟨y4, y5, rfl, e1⟩
    obtain ⟨hd, hhd, a, k, rfl, ha, hM, hk, _, hP, oP⟩ := hhs.get hi
    refine ⟨a, _, rfl, .inl (.inl (e1.t _ _ ha)), rfl, _, _, rfl, _, [], rfl, rfl, ?_⟩
    refine ⟨_, rfl, _, rfl, _, rfl, _, rfl, _, rfl, ?_⟩
    refine ⟨_, _, hd.P, N, G, rfl, hP.step e1 (fun x h => by cases h), hG.step e1, si.ok, si.gl, oP, fun L rs H2 hL e2 hL2 hrs => ?_⟩
    have e12 := e1.trans e2
    refine ⟨_, hc, L, us, rs, G, hd.P, rows, G.sw.length + 1, _, rfl, hG.step e12, si, oP, e12.t _ _ hh, AllP.mono (fun r v => RowAt.step e12 r v) hrows, hL2, hrs, Nat.le_refl _, fun a2 m2 d2 z H3 e3 hm2 hd2 ha2 hM2 _ => ?_⟩
    have e13 := e12.trans e3
    refine ⟨a2, _, _, _, rfl, rfl, SqT.of ha2, at0, _, rfl, ?_⟩
    refine ⟨hd.m, hd.d, m2, d2, l, _, _, _, _, xs, rfl, hM.step0 e13, hM2, rfl, e13.k _ _ hl (by simp), fun H4 e4 => ⟨_, rfl, ?_⟩⟩
    have e14 := e13.trans e4
    have hM4 := hM.step0 e14
    obtain ⟨dx, g', hh', us', m1, _⟩ := id hM4
    refine ⟨_, rfl, hd.m, dx, _, rfl, m1, machF_no _ _ _ _ (by decide +kernel) (by decide +kernel) (by decide +kernel) (by decide +kernel), ?_⟩
    refine ⟨hd.m, hd.d, _, _, rfl, hM4, fun m5 d5 H5 hm5 hd5 e5 hM5 _ => ?_⟩
    have e15 := e14.trans e5
    refine ⟨_, rfl, _, rfl, m5, d5, hd.m, hd.d, l, _, _, _, _, xs, rfl, hM5, hM4.step0 e5, rfl, e15.k _ _ hl (by simp), fun H6 e6 => ⟨_, rfl, ?_⟩⟩
    exact ⟨_, _, rfl, e15.trans e6⟩
  · rintro σ H1 ⟨y4, y5, rfl, e1⟩
    exact q _ e1
theorem Hand.apart.symm {a b : Hand} (h : a.apart b) : b.apart a := ⟨h.1.symm, h.2.symm⟩
/-- lists change that are none of the plans', or what is no list -/
theorem HandAt.stepL {CM CG : Addr} {N : Addr → Prop} {G : GameV} {rows : List Row} {j K : Nat} {l : List Addr} {H H' : Hp} (e : Stp l H H') (hl : ∀ x ∈ l, ¬ N x ∧ ∃ ys, H x = some (.lst ys)) {h : Hand} {v : V} : HandAt CM CG N G rows j K H h v → HandAt CM CG N G rows j K H' h v := by
  rintro ⟨a, k, h1, h2, ⟨dx, g, hh, us, m1, m2, m3, m4, m5⟩, h4, hg, h5, h6⟩
  obtain ⟨kvs, b1⟩ := m5.obj
  have no : ∀ {z o}, H z = some o → (∀ ys, o ≠ .lst ys) → z ∉ l := fun hz ho hm => by
    obtain ⟨_, ys, hy⟩ := hl _ hm
    rw [hz] at hy
    exact ho ys (Option.some.inj hy)
  obtain ⟨gx, a1, a2, a3, gus, g1, g2, g3, g4, g5⟩ := id m2
  refine ⟨a, k, h1, e.t _ _ h2, ⟨dx, g, hh, us, e.k _ _ m1 (no m1 fun ys z => by cases z), m2.step e (no g1 fun ys z => by cases z) (fun gx a b d hh2 hm => (hl _ hm).1 (hg dx g hh h.d _ m1 gx a b d hh2)), e.t _ _ m3, AllP.mono (fun r v => RowAt.step e r v) m4, m5.step e (no b1 fun ys z => by cases z)⟩, h4, hg.of m1 (e.k _ _ m1 (no m1 fun ys z => by cases z)) g1 (e.k _ _ g1 (no g1 fun ys z => by cases z)), h5.step e (fun x hx => .inl (hl x hx).1), h6⟩
theorem stB_congr {G : GameV} {P P' : PlanV} {rows : List Row} : ∀ {j : Nat}, (∀ i, i < j → roundOf G P i = roundOf G P' i) → stB G P rows j = stB G P' rows j
  | 0, _ => rfl
  | j + 1, h => by
    show (endM (roundOf G P j) rows (stB G P rows j)).B = (endM (roundOf G P' j) rows (stB G P' rows j)).B
    rw [stB_congr (j := j) fun i hi => h i (by omega), h j (by omega)]
theorem turned_ok {P1 P2 P : PlanV} {n j : Nat} {p : Int} (o1 : P1.Ok n p) (o2 : P2.Ok n p) (hj : j ≤ n) (e : P = ⟨if 1 < j then P1.s else P2.s, P1.coins.take (j - 2) ++ P2.coins.drop (j - 2), P1.dues.take j ++ P2.dues.drop j⟩) : P.Ok n p := by
  subst e
  have a1 := o1.cl
  have a2 := o2.cl
  have b1 := o1.dl
  have b2 := o2.dl
  refine ⟨?_, ?_, fun c hc => ?_, ?_, fun c hc => ?_⟩
  · show 0 ≤ (if 1 < j then P1.s else P2.s) ∧ (if 1 < j then P1.s else P2.s) < p
    split
    · exact o1.s0
    · exact o2.s0
  · show (P1.coins.take (j - 2) ++ P2.coins.drop (j - 2)).length = n
    rw [List.length_append, List.length_take, List.length_drop]; omega
  · rcases List.mem_append.mp hc with h | h
    · exact o1.c0 c (List.mem_of_mem_take h)
    · exact o2.c0 c (List.mem_of_mem_drop h)
  · show (P1.dues.take j ++ P2.dues.drop j).length = n + 1
    rw [List.length_append, List.length_take, List.length_drop]; omega
  · rcases List.mem_append.mp hc with h | h
    · exact o1.d0 c (List.mem_of_mem_take h)
    · exact o2.d0 c (List.mem_of_mem_drop h)
theorem turned_round {G : GameV} {P1 P2 P : PlanV} {n j : Nat} {p : Int} (o1 : P1.Ok n p) (hj : j ≤ n) (e : P = ⟨if 1 < j then P1.s else P2.s, P1.coins.take (j - 2) ++ P2.coins.drop (j - 2), P1.dues.take j ++ P2.dues.drop j⟩) : ∀ i, i < j → roundOf G P1 i = roundOf G P i
  | 0, _ => rfl
  | i + 1, h => by
    subst e
    have a1 := o1.cl
    have b1 := o1.dl
    have c1 : (P1.dues.take j ++ P2.dues.drop j).getD (i + 1) 0 = P1.dues.getD (i + 1) 0 := by
      rw [List.getD_eq_getElem?_getD, List.getD_eq_getElem?_getD, List.getElem?_append_left (by rw [List.length_take]; omega), List.getElem?_take_of_lt h]
    have c2 : (P1.coins.take (j - 2) ++ P2.coins.drop (j - 2)).take i = P1.coins.take i := by
      rw [List.take_append_of_le_length (by rw [List.length_take]; omega), List.take_take, Nat.min_eq_left (by omega)]
    have c3 : (if 1 < j then P1.s else P2.s) = P1.s := if_pos (by omega)
    show (⟨G, _, _, P1.dues.getD (i + 1) 0, P1.s, P1.coins.take i⟩ : RoundV) = ⟨G, _, _, (P1.dues.take j ++ P2.dues.drop j).getD (i + 1) 0, if 1 < j then P1.s else P2.s, (P1.coins.take (j - 2) ++ P2.coins.drop (j - 2)).take i⟩
    rw [c1, c2, c3]
theorem AllP.app {α : Type} {R : α → V → Prop} : ∀ {xs ys : List α} {us vs : List V}, AllP R xs us → AllP R ys vs → AllP R (xs ++ ys) (us ++ vs)
  | _, _, _, _, .nil, h => h
  | _, _, _, _, .cons r t, h => .cons r (AllP.app t h)
theorem AllP.rev {α : Type} {R : α → V → Prop} : ∀ {xs : List α} {us : List V}, AllP R xs us → AllP R xs.reverse us.reverse
  | _, _, .nil => .nil
  | _, _, .cons r t => by
    rw [List.reverse_cons, List.reverse_cons]
    exact AllP.app (AllP.rev t) (.cons r .nil)
theorem AllP.takeN {α : Type} {R : α → V → Prop} : ∀ {xs : List α} {us : List V} (n : Nat), AllP R xs us → AllP R (xs.take n) (us.take n)
  | _, _, 0, _ => by rw [List.take_zero, List.take_zero]; exact .nil
  | _, _, _ + 1, .nil => .nil
  | _, _, n + 1, .cons r t => .cons r (AllP.takeN n t)
theorem cutV_take (xs : List V) (n : Nat) : cutV xs none (some (n : Int)) = xs.take n := by
  unfold cutV
  rw [HT.sIx_none, HT.sIx_nat, List.drop_zero, Nat.sub_zero]
  by_cases c : n ≤ xs.length
  · rw [Nat.min_eq_left c]
  · rw [Nat.min_eq_right (by omega), List.take_of_length_le (by omega), List.take_of_length_le (by omega)]
theorem range_take {n m : Nat} (h : m ≤ n) : (List.range n).take m = List.range m := by
  rw [List.take_range, Nat.min_eq_left h]
theorem Row.dep_mono {a b : Nat} (h : a ≤ b) : ∀ {r : Row}, r.dep a → r.dep b
  | .set _ _, d => Nat.le_trans d h
  | .say _, d => Nat.le_trans d h
  | .iff _ _, d => Nat.le_trans d h
  | .go _, _ => trivial
  | .fin, _ => trivial
theorem HandAt.other {CM CG : Addr} {N : Addr → Prop} {G : GameV} {rows : List Row} {j K : Nat} {H H' : Hp} {m' d' : Addr} {M' : MachV} {k' : Nat} {h : Hand} {v : V} (e : Stp [m', d'] H H') (h' : MachAt CM CG H m' d' M' k') (hm : h.m ≠ m') (hd : h.d ≠ d') : HandAt CM CG N G rows j K H h v → HandAt CM CG N G rows j K H' h v := by
  rintro ⟨a, k, h1, h2, h3, h4, hg, h5, h6⟩
  obtain ⟨dx, g, hh, us, m1, m2, _⟩ := id h3
  obtain ⟨dx', g', hh', us', n1, _, _, _, n5⟩ := id h'
  obtain ⟨kvs, b1⟩ := n5.obj
  have gm := m2.ne_mach n1
  obtain ⟨gx, a1, a2, a3, gus, g1, _⟩ := id m2
  have gd : g ≠ d' := fun z => by rw [z, b1] at g1; cases g1
  have md : h.m ≠ d' := fun z => by rw [z, b1] at m1; cases m1
  exact ⟨a, k, h1, e.t _ _ h2, h3.other e h' hm hd, h4, hg.of m1 (e.k _ _ m1 (by simp [hm, md])) g1 (e.k _ _ g1 (by simp [gm, gd])), h5.step e (fun x hx => .inr (h'.notL x hx)), h6⟩
theorem HandAt.le {CM CG : Addr} {N : Addr → Prop} {G : GameV} {rows : List Row} {j K K' : Nat} {H : Hp} {h : Hand} {v : V} (e : K ≤ K') : HandAt CM CG N G rows j K H h v → HandAt CM CG N G rows j K' H h v :=
  fun ⟨a, k, h1, h2, h3, h4, hg, h5, h6⟩ => ⟨a, k, h1, h2, h3, Nat.le_trans h4 e, hg, h5, h6⟩
/-- what stands all along: the game, the names, the helper, the plans, when twins are made -/
structure Stat (N : Addr → Prop) (gv : V) (nm hc D bg : Addr) (G : GameV) (rows : List Row) (us : List V) (xsn : List Str) (Ps : List PlanV) (pus : List V) (b0 b1 : Int) (H : Hp) : Prop where
  g : GTupAt H gv G.sw G.trees G.p
  n : H nm = some (.lst (xsn.map V.str))
  h : H hc = some (.tup us)
  r : RowsAt H rows us
  d : H D = some (.lst pus)
  p : AllP (fun P v => PlanAt N H v P) Ps pus
  b : H bg = some (.lst [.int b0, .int b1])
  nn : N nm
  nd : N D
  nb : N bg
theorem Stat.step {N : Addr → Prop} {gv : V} {nm hc D bg : Addr} {G : GameV} {rows : List Row} {us : List V} {xsn : List Str} {Ps : List PlanV} {pus : List V} {b0 b1 : Int} {l : List Addr} {H H' : Hp} (e : Stp l H H')
    (s : Stat N gv nm hc D bg G rows us xsn Ps pus b0 b1 H) (hl : ∀ x ∈ l, ¬ N x ∨ ∀ ys, H x ≠ some (.lst ys)) : Stat N gv nm hc D bg G rows us xsn Ps pus b0 b1 H' := by
  have k : ∀ {z ys}, H z = some (.lst ys) → N z → H' z = some (.lst ys) := fun hz nz => e.k _ _ hz fun hm => by
    rcases hl _ hm with h | h
    · exact h nz
    · exact h _ hz
  exact ⟨s.g.step e, k s.n s.nn, e.t _ _ s.h, AllP.mono (fun r v => RowAt.step e r v) s.r, k s.d s.nd, AllP.mono (fun P v h => h.step e hl) s.p, k s.b s.nb, s.nn, s.nd, s.nb⟩
/-- what was told: two lists that are the same -/
def ToldAt (N : Addr → Prop) (H : Hp) (zs : List Int) (v : V) : Prop := ∃ a x y, v = .ref a ∧ H a = some (.tup [.ref x, .ref y]) ∧ (H x = some (.lst (zs.map V.int)) ∧ N x) ∧ (H y = some (.lst (zs.map V.int)) ∧ N y)
theorem ToldAt.step {N : Addr → Prop} {l : List Addr} {H H' : Hp} {zs : List Int} {v : V} (e : Stp l H H') (hl : ∀ x ∈ l, ¬ N x ∨ ∀ ys, H x ≠ some (.lst ys)) : ToldAt N H zs v → ToldAt N H' zs v := by
  rintro ⟨a, x, y, h1, h2, ⟨h3, n3⟩, ⟨h4, n4⟩⟩
  have k : ∀ {z ys}, H z = some (.lst ys) → N z → H' z = some (.lst ys) := fun hz nz => e.k _ _ hz fun hm => by
    rcases hl _ hm with h | h
    · exact h nz
    · exact h _ hz
  exact ⟨a, x, y, h1, e.t _ _ h2, ⟨k h3 n3, n3⟩, ⟨k h4 n4, n4⟩⟩
theorem AllP.mem {α : Type} {R : α → V → Prop} {xs : List α} {us : List V} (h : AllP R xs us) {x : α} (hx : x ∈ xs) : ∃ v, R x v := by
  obtain ⟨i, hi⟩ := List.getElem?_of_mem hx
  obtain ⟨v, _, hv⟩ := AllP.get' h hi
  exact ⟨v, hv⟩
theorem pw_snoc {hs : List Hand} {b : Hand} (h : hs.Pairwise Hand.apart) (hn : ∀ a ∈ hs, a.apart b) : (hs ++ [b]).Pairwise Hand.apart :=
  List.pairwise_append.mpr ⟨h, List.pairwise_singleton _ _, fun a ha c hc => by
    have : c = b := by simpa using hc
    rw [this]; exact hn a ha⟩
theorem pw_rev {hs : List Hand} (h : hs.Pairwise Hand.apart) : hs.reverse.Pairwise Hand.apart := List.pairwise_reverse.mpr (h.imp fun h => h.symm)
theorem HandAt.fresh {CM CG : Addr} {N : Addr → Prop} {G : GameV} {rows : List Row} {j K : Nat} {H : Hp} {h : Hand} {v : V} (hh : HandAt CM CG N G rows j K H h v) {m d : Addr} (hm : H m = none) (hd : H d = none) : h.m ≠ m ∧ h.d ≠ d := by
  obtain ⟨a, k, h1, h2, ⟨dx, g, hh, us, m1, m2, m3, m4, m5⟩, _⟩ := hh
  obtain ⟨kvs, b1⟩ := m5.obj
  exact ⟨fun z => by (rw [z, hm] at m1; cases m1), fun z => by (rw [z, hd] at b1; cases b1)⟩
theorem atI_last {xs : List V} {v : V} (h : xs[xs.length - 1]? = some v) : atI xs (-1) = some v := by
  have := lt_of_at h
  unfold atI ixN
  rw [if_neg (by decide), if_pos (by omega)]
  show xs[(-1 + (xs.length : Int)).toNat]? = some v
  rw [show (-1 + (xs.length : Int)).toNat = xs.length - 1 by omega]
  exact h
theorem MachAt.stepL {CM CG : Addr} {N : Addr → Prop} {l : List Addr} {H H' : Hp} {m d : Addr} {M : MachV} {k : Nat} (e : Stp l H H') (hl : ∀ x ∈ l, ¬ N x ∧ ∃ ys, H x = some (.lst ys)) (hg : GN CM CG N M.G.p H m) (h : MachAt CM CG H m d M k) : MachAt CM CG H' m d M k ∧ GN CM CG N M.G.p H' m := by
  obtain ⟨dx, g, hh, us, m1, m2, m3, m4, m5⟩ := h
  obtain ⟨kvs, b1⟩ := m5.obj
  have no : ∀ {z o}, H z = some o → (∀ ys, o ≠ .lst ys) → z ∉ l := fun hz ho hm => by
    obtain ⟨_, ys, hy⟩ := hl _ hm
    rw [hz] at hy
    exact ho ys (Option.some.inj hy)
  obtain ⟨gx, a1, a2, a3, gus, g1, g2, g3, g4, g5⟩ := id m2
  exact ⟨⟨dx, g, hh, us, e.k _ _ m1 (no m1 fun ys z => by cases z), m2.step e (no g1 fun ys z => by cases z) (fun gx a b d' hh2 hm => (hl _ hm).1 (hg dx g hh d _ m1 gx a b d' hh2)), e.t _ _ m3, AllP.mono (fun r v => RowAt.step e r v) m4, m5.step e (no b1 fun ys z => by cases z)⟩, hg.of m1 (e.k _ _ m1 (no m1 fun ys z => by cases z)) g1 (e.k _ _ g1 (no g1 fun ys z => by cases z))⟩
theorem GN.step0 {CM CG : Addr} {N : Addr → Prop} {H H' : Hp} {m d : Addr} {M : MachV} {k : Nat} {p : Int} (e : Stp [] H H') (h : MachAt CM CG H m d M k) (hg : GN CM CG N p H m) : GN CM CG N p H' m := by
  obtain ⟨dx, g, hh, us, m1, m2, _⟩ := h
  obtain ⟨gx, a1, a2, a3, gus, g1, _⟩ := id m2
  exact hg.of m1 (e.k _ _ m1 (by simp)) g1 (e.k _ _ g1 (by simp))
/-- a new hand put behind -/
theorem hands_put {CM CG : Addr} {S TL : Addr} {G : GameV} {rows : List Row} {j K k : Nat} {H : Hp} {hs : List Hand} {ss : List V} {m d : Addr} {P1 P : PlanV} {v : V} (hS : H S = some (.lst ss)) (hh : HandsAt CM CG (fun z => z ≠ S ∧ z ≠ TL) G rows j K H hs ss) (pw : hs.Pairwise Hand.apart)
    (hM : MachAt CM CG H m d (MSt G P1 rows j) k) (hk : k ≤ K) (hg : GN CM CG (fun z => z ≠ S ∧ z ≠ TL) G.p H m) (ap : ∀ b ∈ hs, b.m ≠ m ∧ b.d ≠ d) (hP : PlanAt (fun z => z ≠ S ∧ z ≠ TL) H v P) (oP : P.Ok G.sw.length G.p)
    (eB : stB G P1 rows j = stB G P rows j) {t : Addr} (ht : H t = none) :
    HandsAt CM CG (fun z => z ≠ S ∧ z ≠ TL) G rows j K (upd (upd H t (.tup [.ref m, v])) S (.lst (ss ++ [.ref t]))) (hs ++ [Hand.mk m d v P]) (ss ++ [.ref t]) ∧ (hs ++ [Hand.mk m d v P]).Pairwise Hand.apart := by
  have e1 : Stp [] H (upd H t (.tup [.ref m, v])) := Stp.new ht
  have hS1 := e1.k _ _ hS (by simp)
  have e2 : Stp [S] (upd H t (.tup [.ref m, v])) (upd (upd H t (.tup [.ref m, v])) S (.lst (ss ++ [.ref t]))) := Stp.wrL hS1 (by simp)
  have hl : ∀ x ∈ [S], ¬ (fun z => z ≠ S ∧ z ≠ TL) x ∧ ∃ ys, (upd H t (.tup [.ref m, v])) x = some (HO.lst ys) := fun x hx => by
    have : x = S := by simpa using hx
    subst this
    exact ⟨fun (z : x ≠ x ∧ x ≠ TL) => z.1 rfl, _, hS1⟩
  refine ⟨AllP.snoc ?_ (AllP.mono (fun h v (hv : HandAt CM CG (fun z => z ≠ S ∧ z ≠ TL) G rows j K H h v) => (hv.step0 e1).stepL e2 hl) hh), pw_snoc pw fun b hb => ap b hb⟩
  have eM : MSt G P1 rows j = MSt G P rows j := by unfold MSt; rw [eB]
  rw [eM] at hM
  have base : HandAt CM CG (fun z => z ≠ S ∧ z ≠ TL) G rows j K (upd H t (.tup [.ref m, v])) ⟨m, d, v, P⟩ (.ref t) := ⟨t, k, rfl, upd_same, hM.step0 e1, hk, GN.step0 e1 hM hg, hP.step e1 (fun x h => by cases h), oP⟩
  exact base.stepL e2 hl
theorem pw_at {hs : List Hand} (h : hs.Pairwise Hand.apart) {a b : Nat} {x y : Hand} (ha : hs[a]? = some x) (hb : hs[b]? = some y) (n : a ≠ b) : x.apart y := by
  have p := List.pairwise_iff_getElem.mp h
  have la := lt_of_at ha
  have lb := lt_of_at hb
  have ea : hs[a] = x := by rw [List.getElem?_eq_getElem la] at ha; exact Option.some.inj ha
  have eb : hs[b] = y := by rw [List.getElem?_eq_getElem lb] at hb; exact Option.some.inj hb
  by_cases c : a < b
  · have := p a b la lb c
    rw [ea, eb] at this; exact this
  · have := p b a lb la (by omega)
    rw [ea, eb] at this; exact this.symm
theorem AllP.ofAt {α : Type} {R : α → V → Prop} : ∀ {xs : List α} {us : List V}, us.length = xs.length → (∀ (q : Nat) x v, xs[q]? = some x → us[q]? = some v → R x v) → AllP R xs us
  | [], [], _, _ => .nil
  | x :: xs, u :: us, hl, h => .cons (h 0 x u rfl rfl) (AllP.ofAt (by simpa using hl) fun q y v h1 h2 => h (q + 1) y v (by simpa using h1) (by simpa using h2))
theorem AllP.two {α : Type} {R : α → V → Prop} {xs : List α} {us : List V} (h : AllP R xs us) {q : Nat} {x : α} {v : V} (h1 : xs[q]? = some x) (h2 : us[q]? = some v) : R x v := by
  obtain ⟨v', e, hr⟩ := AllP.get' h h1
  rw [h2] at e
  rw [Option.some.inj e]; exact hr

/-! ### the law -/
def spLaw (K : PySem.W.Frag) : Sp := fun vs H Q _ => ∃ (a : Addr) (ns : List Int), vs = [.ref a] ∧ SqL K H a (ns.map V.int) ∧ ns.length ≤ 63 ∧ ∀ H', Q (.bl true) H'
theorem ok_law {f : Addr} {fd : FuncData} (T : Tx K mg) (F : Fun K "law" "law" s_law f fd) : FnOk P w K mg base CX0 44 f fd ["_law_script"] (spLaw K) := by
  refine F.ok sc_law (fun vs H Q E h => ?_) (fun cdv A outer s H vs Q E hr h => ?_)
  · obtain ⟨a, ns, rfl, _⟩ := h
    rfl
  obtain ⟨a, ns, rfl, hA, nl, q⟩ := h
  refine ⟨_, (pss_cons (ps_set (i := 1) sc_law.nd rfl (.inr rfl) (pe_call (ok_law_game T) (hr.mono (by omega)) (by rfl) T.g_law_game T.F_law_game.kp T.b_law_game .nil pass0 (pa_cons (pe_call (ok_law_feed T) (hr.mono (by omega)) (by rfl) T.g_law_feed T.F_law_feed.kp T.b_law_feed .nil pass0 (pa_cons (pv 0) (pa_cons pe_int pa_nil))) (pa_cons pe_int (pa_cons pe_int pa_nil)))))
      (pss_cons (ps_set (i := 2) sc_law.nd rfl (.inl rfl) (pe_call (ok_law_names T) (hr.mono (by omega)) (by rfl) T.g_law_names T.F_law_names.kp T.b_law_names .nil pass0 (pa_cons (pe_call (ok_law_feed T) (hr.mono (by omega)) (by rfl) T.g_law_feed T.F_law_feed.kp T.b_law_feed .nil pass0 (pa_cons (pv 0) (pa_cons pe_int pa_nil))) (pa_cons pe_int pa_nil))))
      (pss_cons (ps_if (PW.pt (pw_and (pt_cmpR op_lt (pe_callB call_len_str (by rfl) T.z_len (by decide +kernel) (pa_cons (pe_ix (k_ix_list (K := K)) (pv 2) pe_int (fun _ _ => rfl)) pa_nil)) pe_int (nomark _)) (pw_and1 (pt_cmpR op_gt (pe_call (ok_law_take T) (hr.mono (by omega)) (by rfl) T.g_law_take T.F_law_take.kp T.b_law_take .nil pass0 (pa_cons (pe_call (ok_law_feed T) (hr.mono (by omega)) (by rfl) T.g_law_feed T.F_law_feed.kp T.b_law_feed .nil pass0 (pa_cons (pv 0) (pa_cons pe_int pa_nil))) (pa_cons pe_int pa_nil))) pe_int (nomark _))))) (pss_one (ps_asg (pe_op op_add_str (pe_ix (k_ix_list (K := K)) (pv 2) pe_int (fun _ _ => rfl)) pe_str) (pg_sub (pv 2) pe_int set_list))) pss_nil)
      (pss_cons (ps_set (i := 3) sc_law.nd rfl (.inl rfl) (pe_call (ok_law_feed T) (hr.mono (by omega)) (by rfl) T.g_law_feed T.F_law_feed.kp T.b_law_feed .nil pass0 (pa_cons (pv 0) (pa_cons pe_int pa_nil))))
      (pss_cons (ps_set (i := 4) sc_law.nd rfl (.inl rfl) (pe_call (ok_law_helper T) (hr.mono (by omega)) (by rfl) T.g_law_helper T.F_law_helper.kp T.b_law_helper .nil pass0 (pa_cons (pv 3) (pa_cons (pv 2) (pa_cons pe_int pa_nil)))))
      (pss_cons (ps_if (pt_cmpR op_eq (pe_call (ok_law_take T) (hr.mono (by omega)) (by rfl) T.g_law_take T.F_law_take.kp T.b_law_take .nil pass0 (pa_cons (pv 3) (pa_cons pe_int pa_nil))) pe_int (nomark _)) (pss_one (ps_set (i := 4) sc_law.nd rfl (.inl rfl) (pe_call (ok_law_liar T) (hr.mono (by omega)) (by rfl) T.g_law_liar T.F_law_liar.kp T.b_law_liar .nil pass0 (pa_cons (pv 3) (pa_cons (pe_ix (k_ix_list (K := K)) (pv 2) pe_int (fun _ _ => rfl)) pa_nil))))) pss_nil)
      (pss_cons (ps_setLc (i := 6) (own := [("_law_k", 5)]) (g := gName 5) (tt := tYes) (by rfl) sc_law.nd (by rfl) (by rfl) (sw_true (by rfl) (by rfl) (by rfl) (by decide +kernel)) (pi_range1 (by rfl) T.z_range (pa_cons pe_int pa_nil)) (blkOk_by (own := [("_law_k", 5)]) (N := ["_law_script", "_law_game_here", "_law_names_here", "_law_feed_here", "_law_helper_here", "_law_k", "_law_plans", "_law_rounds", "_law_begin", "_law_some", "_law_told", "_law_number", "_law_machine", "_law_plan_here", "_law_pair", "_law_rows_here", "_law_other", "_law_due", "_law_found", "_law_kept"]) (sc := defScope s_law) (by decide +kernel)) (fun _ _ _ _ _ => (pg_name (i := 5) sc_law.nd (by rfl) (Or.inl (by rfl)))) (fun _ _ _ _ _ => pts_nil) (fun _ _ _ _ _ => by exact (pe_call (ok_law_plan T) (hr.mono (by omega)) (by rfl) T.g_law_plan T.F_law_plan.kp T.b_law_plan .nil pass0 (pa_cons (pe_call (ok_law_feed T) (hr.mono (by omega)) (by rfl) T.g_law_feed T.F_law_feed.kp T.b_law_feed .nil pass0 (pa_cons (pv 0) (pa_cons (pe_op op_add pe_int (pv 5)) pa_nil))) (pa_cons (pv 1) pa_nil)))))
      (pss_cons (ps_set (i := 7) sc_law.nd rfl (.inl rfl) (pe_op op_add (pe_callB (k_len (K := K)) (by rfl) T.z_len (by decide +kernel) (pa_cons (pe_ix (k_ix_tup (K := K)) (pv 1) pe_int (fun _ _ => rfl)) pa_nil)) pe_int))
      (pss_cons (ps_set (i := 8) sc_law.nd rfl (.inl rfl) (pe_lst (pa_cons (pe_call (ok_law_take T) (hr.mono (by omega)) (by rfl) T.g_law_take T.F_law_take.kp T.b_law_take .nil pass0 (pa_cons (pv 3) (pa_cons (pv 7) pa_nil))) (pa_cons (pe_call (ok_law_take T) (hr.mono (by omega)) (by rfl) T.g_law_take T.F_law_take.kp T.b_law_take .nil pass0 (pa_cons (pv 3) (pa_cons (pv 7) pa_nil))) pa_nil))))
      (pss_cons (ps_set (i := 9) sc_law.nd rfl (.inl rfl) (pe_lst (pa_cons (pe_tup (pa_cons (pe_make T.mk_Machine (ok_Machine___init__ T) (hr.mono (by omega)) (by rfl) T.gC_Machine T.b_Machine___init__ .nil pass0 (pa_cons (pe_make T.mk_Game (ok_Game___init__ T) (hr.mono (by omega)) (by rfl) T.gC_Game T.b_Game___init__ .nil pass0 (pa_cons (pe_ix (k_ix_tup (K := K)) (pv 1) pe_int (fun _ _ => rfl)) (pa_cons (pe_ix (k_ix_tup (K := K)) (pv 1) pe_int (fun _ _ => rfl)) (pa_cons (pe_ix (k_ix_tup (K := K)) (pv 1) pe_int (fun _ _ => rfl)) pa_nil)))) (pa_cons (pv 4) pa_nil))) (pa_cons (pe_ix (k_ix_list (K := K)) (pv 6) pe_int (fun _ _ => rfl)) pa_nil))) pa_nil)))
      (pss_cons (ps_set (i := 10) sc_law.nd rfl (.inl rfl) (pe_lst pa_nil))
      (pss_cons (ps_for PassesOwn.never rfl (pi_range1 (by rfl) T.z_range (pa_cons (pv 7) pa_nil)) (pg_name (i := 11) sc_law.nd (by rfl) (Or.inl (by rfl)))
      (pss_cons (ps_for PassesOwn.never rfl (pi_range1 (by rfl) T.z_range (pa_cons pe_int pa_nil)) (pg_name (i := 5) sc_law.nd (by rfl) (Or.inl (by rfl)))
      (pss_one (ps_if (pt_cmpR op_eq (pe_ix (k_ix_list (K := K)) (pv 8) (pv 5) (fun _ _ => rfl)) (pv 11) (nomark _)) (pss_cons (ps_asg (pe_ix (k_ix_list (K := K)) (pv 9) (pe_un un_neg pe_int) (fun _ _ => rfl)) (pg_tup rfl (pgs_cons (pg_name (i := 12) sc_law.nd (by rfl) (Or.inl (by rfl))) (pgs_cons (pg_name (i := 13) sc_law.nd (by rfl) (Or.inl (by rfl))) pgs_nil))))
      (pss_cons (ps_set (i := 14) sc_law.nd rfl (.inl rfl) (pe_lst (pa_cons (pe_meth0 (pv 12) T.cl_Machine T.m_Machine_twin (ok_Machine_twin T) (hr.mono (by omega)) T.b_Machine_twin .nil pass0) (pa_cons (pe_meth0 (pv 12) T.cl_Machine T.m_Machine_twin (ok_Machine_twin T) (hr.mono (by omega)) T.b_Machine_twin .nil pass0) pa_nil))))
      (pss_cons (ps_if (PW.pt (pw_or (pt_not (pt_val (pe_call (ok_law_same_boxes T) (hr.mono (by omega)) (by rfl) T.g_law_same_boxes T.F_law_same_boxes.kp T.b_law_same_boxes .nil pass0 (pa_cons (pe_ix (k_ix_list (K := K)) (pv 14) pe_int (fun _ _ => rfl)) (pa_cons (pv 12) (pa_cons (pv 2) pa_nil)))))) (pw_or1 (pt_not (pt_val (pe_call (ok_law_same_boxes T) (hr.mono (by omega)) (by rfl) T.g_law_same_boxes T.F_law_same_boxes.kp T.b_law_same_boxes .nil pass0 (pa_cons (pe_ix (k_ix_list (K := K)) (pv 14) pe_int (fun _ _ => rfl)) (pa_cons (pv 12) (pa_cons (pv 2) pa_nil))))))))) (pss_one (ps_ret pe_bl)) pss_nil)
      (pss_cons (ps_expr (k_bm (K := K) PySem.F.plainAttrs_list PySem.F.slot_list_append PySem.F.type_list_append mt_append (pv 9) (pa_cons (pe_tup (pa_cons (pe_ix (k_ix_list (K := K)) (pv 14) pe_int (fun _ _ => rfl)) (pa_cons (pe_call (ok_law_turned T) (hr.mono (by omega)) (by rfl) T.g_law_turned T.F_law_turned.kp T.b_law_turned .nil pass0 (pa_cons (pv 13) (pa_cons (pe_ix (k_ix_list (K := K)) (pv 6) (pe_op op_add (pv 5) pe_int) (fun _ _ => rfl)) (pa_cons (pv 11) pa_nil)))) pa_nil))) pa_nil)))
      (pss_one (ps_expr (k_bm (K := K) PySem.F.plainAttrs_list PySem.F.slot_list_append PySem.F.type_list_append mt_append (pv 9) (pa_cons (pe_tup (pa_cons (pe_ix (k_ix_list (K := K)) (pv 14) pe_int (fun _ _ => rfl)) (pa_cons (pe_call (ok_law_turned T) (hr.mono (by omega)) (by rfl) T.g_law_turned T.F_law_turned.kp T.b_law_turned .nil pass0 (pa_cons (pv 13) (pa_cons (pe_ix (k_ix_list (K := K)) (pv 6) pe_int (fun _ _ => rfl)) (pa_cons (pv 11) pa_nil)))) pa_nil))) pa_nil)))))))) pss_nil)))
      (pss_cons (ps_if (pt_cmpR op_eq (pe_op op_mod (pv 11) pe_int) pe_int (nomark _)) (pss_one (ps_expr (k_bm0 (K := K) PySem.F.plainAttrs_list PySem.F.slot_list_reverse PySem.F.type_list_reverse mt_reverse (pv 9)))) pss_nil)
      (pss_one (ps_for PassesOwn.never rfl (ki_list (K := K) (pv 9)) (pg_tup rfl (pgs_cons (pg_name (i := 12) sc_law.nd (by rfl) (Or.inl (by rfl))) (pgs_cons (pg_name (i := 13) sc_law.nd (by rfl) (Or.inl (by rfl))) pgs_nil)))
      (pss_cons (ps_set (i := 15) sc_law.nd rfl (.inl rfl) (pe_call (ok_law_rows T) (hr.mono (by omega)) (by rfl) T.g_law_rows T.F_law_rows.kp T.b_law_rows .nil pass0 (pa_cons (pv 13) (pa_cons (pv 1) pa_nil))))
      (pss_cons (ps_asg (pe_call (ok_law_fresh T) (hr.mono (by omega)) (by rfl) T.g_law_fresh T.F_law_fresh.kp T.b_law_fresh .nil pass0 (pa_cons (pv 1) (pa_cons (pv 4) (pa_cons (pe_slice (k_sl_list (K := K)) (pv 15) po_none (po_some (pe_op op_add (pv 11) pe_int))) pa_nil)))) (pg_tup rfl (pgs_cons (pg_name (i := 16) sc_law.nd (by rfl) (Or.inl (by rfl))) (pgs_cons (pg_name (i := 17) sc_law.nd (by rfl) (Or.inl (by rfl))) pgs_nil))))
      (pss_cons (ps_set (i := 18) sc_law.nd rfl (.inl rfl) (pe_call (ok_law_say T) (hr.mono (by omega)) (by rfl) T.g_law_say T.F_law_say.kp T.b_law_say .nil pass0 (pa_cons (pv 12) (pa_cons (pe_ix (k_ix_list (K := K)) (pv 15) (pv 11) (fun _ _ => rfl)) pa_nil))))
      (pss_cons (ps_if (PW.pt (pw_or (pt_cmpR (k_neD hr.units (K := K)) (pv 18) (pv 17) (nomark _)) (pw_or1 (pt_not (pt_val (pe_call (ok_law_same_boxes T) (hr.mono (by omega)) (by rfl) T.g_law_same_boxes T.F_law_same_boxes.kp T.b_law_same_boxes .nil pass0 (pa_cons (pv 12) (pa_cons (pv 16) (pa_cons (pv 2) pa_nil))))))))) (pss_one (ps_ret pe_bl)) pss_nil)
      (pss_one (ps_expr (k_bm (K := K) PySem.F.plainAttrs_list PySem.F.slot_list_append PySem.F.type_list_append mt_append (pv 10) (pa_cons (pe_tup (pa_cons (pv 18) (pa_cons (pe_callTy (k_list_of (K := K)) (by rfl) T.z_list (by decide +kernel) (pa_cons (pv 18) pa_nil)) pa_nil))) pa_nil)))))))))))))
      (pss_cons (ps_if (pt_not (pt_val (pe_call (ok_law_all_alike T) (hr.mono (by omega)) (by rfl) T.g_law_all_alike T.F_law_all_alike.kp T.b_law_all_alike .nil pass0 (pa_cons (pv 9) (pa_cons (pv 1) (pa_cons (pv 4) (pa_cons (pv 2) pa_nil))))))) (pss_one (ps_ret pe_bl)) pss_nil)
      (pss_one (ps_ret (pe_cmpR (k_eqD hr.units (K := K)) (pe_lc (own := [("_law_found", 18), ("_law_kept", 19)]) (g := (gTup K 2 (gCons (gName 18) (gCons (gName 19) gNil)))) (by rfl) sc_law.nd (ki_list (K := K) (pv 10)) (blkOk_by (own := [("_law_found", 18), ("_law_kept", 19)]) (N := ["_law_script", "_law_game_here", "_law_names_here", "_law_feed_here", "_law_helper_here", "_law_k", "_law_plans", "_law_rounds", "_law_begin", "_law_some", "_law_told", "_law_number", "_law_machine", "_law_plan_here", "_law_pair", "_law_rows_here", "_law_other", "_law_due", "_law_found", "_law_kept"]) (sc := defScope s_law) (by decide +kernel)) (fun _ _ _ _ _ => by exact (k_pgtup (K := K) rfl (pgs_cons (pg_name (i := 18) sc_law.nd (by rfl) (Or.inl (by rfl))) (pgs_cons (pg_name (i := 19) sc_law.nd (by rfl) (Or.inl (by rfl))) pgs_nil)))) (fun _ _ _ _ _ => by exact (pts_one (pt_cmpR (k_neD hr.units (K := K)) (pv 18) (pv 19) (nomark _)))) (fun _ _ _ _ _ => by exact pe_int)) (pe_lst pa_nil) (nomark _))))))))))))))))), ?_⟩
  -- the game
  refine ⟨_, rfl, a, ns, 1, rfl, hA, nl, by decide, by decide, fun f1 H1 hf1 e1 hF1 => ?_⟩
  refine ⟨f1, 3, 5, rfl, hF1, by decide, by decide, by decide, by decide, fun gv xs ts p H2 e2 hF2 hG gi => ?_⟩
  have e02 : Stp [] H H2 := (e1.nil.trans e2).drop hf1
  -- names
  refine ⟨_, rfl, a, ns, 2, rfl, e02.seq hA (by simp), nl, by decide, by decide, fun f2 H3 hf2 e3 hF3 => ?_⟩
  refine ⟨f2, 3, rfl, hF3, by decide, by decide, fun nm H4 xsn hnm e4 hF4 hnl nlen nnd nin => ?_⟩
  have e24 : Stp [] H2 H4 := (e3.nil.trans e4).drop hf2
  have e04 := e02.trans e24
  obtain ⟨x0, x1, x2, rfl⟩ : ∃ x0 x1 x2, xsn = [x0, x1, x2] := by
    match xsn, nlen with
    | [a, b, c], _ => exact ⟨a, b, c, rfl⟩
  have hG4 := hG.step e24
  dsimp only [gName]
  refine seq_split fun J hJ => ?_
  have rest : ∀ (x1 : Str) H5, Stp [] H H5 → GTupAt H5 gv xs ts p → H5 nm = some (.lst ([x0, x1, x2].map V.str)) → J (List.set (List.set (L2.start ["_law_script", "_law_game_here", "_law_names_here", "_law_feed_here", "_law_helper_here", "_law_k", "_law_plans", "_law_rounds", "_law_begin", "_law_some", "_law_told", "_law_number", "_law_machine", "_law_plan_here", "_law_pair", "_law_rows_here", "_law_other", "_law_due", "_law_found", "_law_kept"] [V.ref a]) 1 (some gv)) 2 (some (.ref nm))) H5 := by
    intro x1 H5 e05 hG5 hn5
    refine hJ _ _ ?_
    refine ⟨_, rfl, a, ns, 3, rfl, e05.seq hA (by simp), nl, by decide, by decide, fun f3 H6 hf3 e6 hF6 => ?_⟩
    have hn6 := e6.k _ _ hn5 (by simp)
    have f3H : H f3 = none := e05.free hf3 (by simp)
    have nnf : nm ≠ f3 := fun z => by rw [z, hf3] at hn5; cases hn5
    refine ⟨_, rfl, _, rfl, f3, nm, _, 10, rfl, hF6, hn6, by show 1 ≤ 3; decide, by show 3 ≤ 20; decide, by decide, by decide, fun hc us rows H7 e7 hF7 hhc hrows rl hin => ?_⟩
    have e07 : Stp [] H H7 := (e05.nil.trans (e6.nil.trans e7)).drop f3H
    have hG7 := hG5.step (e6.nil.trans e7)
    have hn7 := e7.k _ _ hn6 (by simpa using nnf)
    dsimp only [gName]
    refine seq_split fun J2 hJ2 => ?_
    have rest2 : ∀ (hc : Addr) (us : List V) (rows : List Row) H8, Stp [] H H8 → GTupAt H8 gv xs ts p → H8 nm = some (.lst ([x0, x1, x2].map V.str)) → FeedAt H8 f3 → H8 hc = some (.tup us) → RowsAt H8 rows us → rows.length ≤ 1000 → (∀ r ∈ rows, r.dep 6) →
        J2 [some (.ref a), some gv, some (.ref nm), some (.ref f3), some (.ref hc), none, none, none, none, none, none, none, none, none, none, none, none, none, none, none] H8 := by
      intro hc us rows H8 e08 hG8 hn8 hF8 hhc8 hrows8 rl8 hdep
      refine hJ2 _ _ ?_
      -- the plans
      refine ⟨_, rfl, by decide, by decide, fun D hD => lc_range (lo := 0) (n := 4) (fun i H' => Stp [] H8 H' ∧ ∃ Ps pus, Ps.length = i ∧ H' D = some (.lst pus) ∧ AllP (fun P v => PlanAt (fun z => z ≠ f3 ∧ z ≠ D) H' v P) Ps pus ∧ ∀ P ∈ Ps, P.Ok xs.length p)
        ⟨Stp.new hD, [], [], rfl, upd_same, .nil, fun P h => by cases h⟩ ?_ ?_⟩
      · rintro i H9 hi ⟨e9, Ps, pus, pl, hD9, hPs, oPs⟩
        have e09 := e08.trans e9
        refine ⟨rfl, ?_⟩
        refine ⟨_, rfl, _, rfl, _, _, rfl, rfl, a, ns, _, rfl, e09.seq hA (by simp), nl, by omega, by omega, fun fk H10 hfk e10 hF10 => ?_⟩
        have e08_10 := e9.trans e10
        refine ⟨_, rfl, fk, gv, xs, ts, p, (fun z => z ≠ f3 ∧ z ≠ D), rfl, hF10, hG8.step e08_10, by have := gi.xl; omega, by have := gi.t4; omega, by have := gi.p3; omega, by have := gi.pm; omega, fun z hz => ?_, fun v P H11 e11 hF11 hP oP => ?_⟩
        · refine ⟨fun e => ?_, fun e => ?_⟩
          · obtain ⟨o, s, h, _⟩ := hF8.step0 e08_10
            rw [e, h] at hz; cases hz
          · rw [e, e10.k _ _ hD9 (by simp)] at hz; cases hz
        have e9_11 : Stp [] H9 H11 := (e10.nil.trans e11).drop hfk
        have hD11 := e9_11.k _ _ hD9 (by simp)
        have hlD : ∀ H0 : Hp, ∀ x ∈ [D], ¬ (fun z => z ≠ f3 ∧ z ≠ D) x ∨ ∀ ys, H0 x ≠ some (HO.lst ys) := fun H0 x hx => .inl fun h => h.2 (by simpa using hx)
        have eD : Stp [D] H11 (upd H11 D (.lst (pus ++ [v]))) := Stp.wrL hD11 (by simp)
        refine ⟨pus, hD11, by rw [hPs.len, pl]; exact small1000 (by omega), (e9.trans e9_11).fresh hD, Ps ++ [P], pus ++ [v], by rw [List.length_append, pl]; rfl, upd_same, ?_, fun P' hP' => ?_⟩
        · exact AllP.snoc (hP.step eD (hlD _)) (AllP.mono (fun P v h => (h.step e9_11 (fun x h => by cases h)).step eD (hlD _)) hPs)
        · rcases List.mem_append.mp hP' with h | h
          · exact oPs P' h
          · have : P' = P := by simpa using h
            rw [this]; exact oP
      rintro H9 ⟨e9, Ps, pus, pl, hD9, hPs, oPs⟩
      have hlt : Ps.length = 4 := pl
      -- how many rounds
      obtain ⟨c, ga, gb, gus, rfl, hgc, hga, hgb, hgt⟩ := id (hG8.step e9)
      refine ⟨_, rfl, c, _, _, _, rfl, rfl, SqT.of hgc, at0, ga, _, rfl, .inr hga.sq, _, _, rfl, rfl, ?_⟩
      rw [List.length_map]
      have xl3 : xs.length ≤ 3 := by have := gi.xl; omega
      have hF9 := hF8.step0 e9
      -- where twins begin
      refine ⟨_, rfl, _, rfl, f3, _, rfl, hF9, by omega, by omega, fun b0 H10 e10 hF10 b00 b01 => ?_⟩
      refine ⟨_, rfl, _, rfl, f3, _, rfl, hF10, by omega, by omega, fun b1 H11 e11 hF11 b10 b11 => ?_⟩
      refine ⟨Nat.le_of_lt (small1000 (by show 2 ≤ 1000; decide)), fun bg hbg => ?_⟩
      have e12 : Stp [] H11 (upd H11 bg (.lst [.int b0, .int b1])) := Stp.new hbg
      have e9_12 := (e10.trans e11).trans e12.nil
      have hlf : ∀ H0 : Hp, ∀ x ∈ [f3], ¬ (fun z => z ≠ f3 ∧ z ≠ D) x ∨ ∀ ys, H0 x ≠ some (HO.lst ys) := fun H0 x hx => .inl fun h => h.1 (by simpa using hx)
      have hP12 := AllP.mono (fun P v (h : PlanAt _ _ v P) => h.step e9_12 (hlf _)) hPs
      have nDf : D ≠ f3 := hF8.ne hD
      have hD12 := e9_12.k _ _ hD9 (by simpa using nDf)
      have hn12 := e9_12.k _ _ (e9.k _ _ hn8 (by simp)) (by simpa using nnf)
      have hb12 := upd_same (H := H11) (a := bg) (o := .lst [.int b0, .int b1])
      have hG12 := hG8.step (e9.nil.trans e9_12)
      have hh12 := (e9.nil.trans e9_12).t _ _ hhc8
      have hr12 := AllP.mono (fun r v => RowAt.step (e9.nil.trans e9_12) r v) hrows8
      have e0_12 : Stp [] H (upd H11 bg (.lst [.int b0, .int b1])) := ((e08.trans e9).nil.trans e9_12).drop f3H
      generalize upd H11 bg (.lst [.int b0, .int b1]) = H12 at *
      clear e12 e9_12 hF9 hF10 hF11 e10 e11
      -- the first machine
      obtain ⟨c', ga, gb, gus, hcc, hgc, hga, hgb, hgt⟩ := id hG12
      obtain rfl : c = c' := V.ref.inj hcc
      refine ⟨_, rfl, c, _, _, _, rfl, rfl, SqT.of hgc, at0, _, rfl, c, _, _, _, rfl, rfl, SqT.of hgc, at1, _, rfl, c, _, _, _, rfl, rfl, SqT.of hgc, at2, ?_⟩
      intro g gx hg0 hgx ngx
      have f0 : Stp [] H12 (upd (upd H12 gx (.own g)) g (.ins T.C_Game gx [])) := (Stp.new hgx).trans (Stp.new (by rw [upd_ne ngx.symm]; exact hg0))
      have t4 := gi.t4
      have rm : ∀ t ∈ ts, t.depth ≤ 20 ∧ t.size ≤ 1000 ∧ ∀ x ∈ t.names, x ∈ xs := fun t ht => by
        obtain ⟨a1, a2, a3⟩ := gi.tk t ht
        exact ⟨by omega, by omega, a3⟩
      refine ⟨g, gx, ga, gb, xs, ts, gus, p, rfl, upd_same, tupF_step f0 hga, f0.t _ _ hgb, hgt.step f0, gi.nd, by omega, gi.t1, by omega, rm, gi.pr, gi.p3, by have := gi.pm; omega, gi.ct, gi.tp, fun G H13 f1 ok eGs eGt eGp hG1 => ⟨rfl, ?_⟩⟩
      subst eGs eGt eGp
      have f02 : Stp [] H12 H13 := (f0.nil.trans f1).drop hg0
      refine ⟨_, rfl, ?_⟩
      intro m mx hm0 hmx nmx
      have f3' : Stp [] H13 (upd (upd H13 mx (.own m)) m (.ins T.C_Machine mx [])) := (Stp.new hmx).trans (Stp.new (by rw [upd_ne nmx.symm]; exact hm0))
      have f03 := f02.trans f3'
      refine ⟨m, mx, g, hc, G, rows, us, rfl, upd_same, hG1.step0 f3', f03.t _ _ hh12, AllP.mono (fun r v => RowAt.step f03 r v) hr12, fun d H14 hd nd f4 hM14 _ => ⟨rfl, ?_⟩⟩
      have f04 : Stp [] H12 H14 := f02.trans ((f3'.nil.trans f4).drop hm0)
      have S0 : Sit G rows := ⟨ok, by omega, rl8, hdep⟩
      obtain ⟨P0, hP0⟩ : ∃ P0, Ps[0]? = some P0 := ⟨_, List.getElem?_eq_getElem (by omega)⟩
      obtain ⟨v0, hv0, hPv0⟩ := AllP.get' hP12 hP0
      refine ⟨_, rfl, D, _, _, v0, rfl, rfl, SqL.of (f04.k _ _ hD12 (by simp)), at_of (j := 0) rfl hv0, Nat.le_of_lt (small1000 (by show 2 ≤ 1000; decide)), fun t0 ht0 => ?_⟩
      refine ⟨Nat.le_of_lt (small1000 (by show 1 ≤ 1000; decide)), fun S hS => ?_⟩
      refine ⟨Nat.zero_le _, fun TL hTL => ?_⟩
      have g1 : Stp [] H14 _ := Stp.new (o := .tup [.ref m, v0]) ht0
      have g2 : Stp [] _ _ := Stp.new (o := .lst [.ref t0]) hS
      have g3 : Stp [] _ _ := Stp.new (o := .lst []) hTL
      have g03 := (g1.trans g2).trans g3
      have g23 := g2.trans g3
      have nST : S ≠ TL := fun z => by rw [← z, upd_same] at hTL; cases hTL
      have hH14 : ∀ z o, H14 z = some o → z ≠ S ∧ z ≠ TL := fun z o hz => ⟨fun e => by (rw [e] at hz; rw [g1.k _ _ hz (by simp)] at hS; cases hS), fun e => by (rw [e] at hz; rw [(g1.trans g2).k _ _ hz (by simp)] at hTL; cases hTL)⟩
      have hSx : upd (upd (upd H14 t0 (.tup [.ref m, v0])) S (.lst [.ref t0])) TL (.lst []) S = some (.lst [.ref t0]) := g3.k _ _ upd_same (by simp)
      have hTx := upd_same (H := upd (upd H14 t0 (.tup [.ref m, v0])) S (.lst [.ref t0])) (a := TL) (o := .lst [])
      have ht0x : upd (upd (upd H14 t0 (.tup [.ref m, v0])) S (.lst [.ref t0])) TL (.lst []) t0 = some (.tup [.ref m, v0]) := g23.t _ _ upd_same
      have f014 := f04.trans g03
      have hSH0 : H S = none := (e0_12.trans (f04.trans g1)).free hS (by simp)
      have hTH0 : H TL = none := (e0_12.trans (f04.trans (g1.trans g2))).free hTL (by simp)
      generalize upd (upd (upd H14 t0 (.tup [.ref m, v0])) S (.lst [.ref t0])) TL (.lst []) = Hb at *
      have reP : ∀ (P : PlanV) (v : V), PlanAt (fun z => z ≠ f3 ∧ z ≠ D) H12 v P → PlanAt (fun z => z ≠ S ∧ z ≠ TL) Hb v P := fun P v h =>
        ((h.step f04 (fun x h => by cases h)).re (N' := fun z => z ≠ S ∧ z ≠ TL) (fun z _ hz => by
          cases e : H14 z with
          | none => exact absurd e hz
          | some o => exact hH14 z o e)).step g03 (fun x h => by cases h)
      have St : Stat (fun z => z ≠ S ∧ z ≠ TL) (.ref c) nm hc D bg G rows us [x0, x1, x2] Ps pus b0 b1 Hb := ⟨hG12.step f014, f014.k _ _ hn12 (by simp), f014.t _ _ hh12, AllP.mono (fun r v => RowAt.step f014 r v) hr12, f014.k _ _ hD12 (by simp), AllP.mono reP hP12, f014.k _ _ hb12 (by simp),
        hH14 _ _ (f04.k _ _ hn12 (by simp)), hH14 _ _ (f04.k _ _ hD12 (by simp)), hH14 _ _ (f04.k _ _ hb12 (by simp))⟩
      have Hd0 : HandAt T.C_Machine T.C_Game (fun z => z ≠ S ∧ z ≠ TL) G rows 0 0 Hb ⟨m, d, v0, P0⟩ (.ref t0) := by
        refine ⟨t0, 0, rfl, ht0x, hM14.step0 g03, Nat.le_refl _, ?_, reP _ _ hPv0, oPs _ (List.mem_of_getElem? hP0)⟩
        obtain ⟨dx, g', hh', us', m1, m2, _⟩ := id hM14
        obtain ⟨gx', a1, a2, a3, gus', gg1, _⟩ := id m2
        intro dx2 g2' h2' d2 n2 e2 gx2 a b e he
        rw [g03.k _ _ m1 (by simp)] at e2
        have eg := machF_inj (HO.ins.inj (Option.some.inj e2)).2.2
        rw [← eg, g03.k _ _ gg1 (by simp)] at he
        exact hH14 _ _ (m2.deg_of (gg1.trans he)).1
      have e0b : Stp [] H Hb := e0_12.trans f014
      have hSH : H S = none := hSH0
      have hTH : H TL = none := hTH0
      have hNf : ∀ {H' : Hp} {ss tl : List V}, H' S = some (.lst ss) → H' TL = some (.lst tl) → ∀ z, H' z = none → z ≠ S ∧ z ≠ TL := fun h1 h2 z hz => ⟨fun e => by (rw [e, h1] at hz; cases hz), fun e => by (rw [e, h2] at hz; cases hz)⟩
      refine ⟨_, rfl, _, rfl, by omega, by omega, for_range (lo := 0) (n := ((G.sw.length : Int) + 1).toNat) (fun j σ H' => ∃ (y5 y11 y12 y13 y14 y15 y16 y17 y18 y19 : Option V) (hs : List Hand) (ss tl : List V) (zss : List (List Int)), σ = [some (.ref a), some (.ref c), some (.ref nm), some (.ref f3), some (.ref hc), y5, some (.ref D), some (.int ((G.sw.length : Int) + 1)), some (.ref bg), some (.ref S), some (.ref TL), y11, y12, y13, y14, y15, y16, y17, y18, y19] ∧
          True ∧ Stat (fun z => z ≠ S ∧ z ≠ TL) (.ref c) nm hc D bg G rows us [x0, x1, x2] Ps pus b0 b1 H' ∧ H' S = some (.lst ss) ∧ HandsAt T.C_Machine T.C_Game (fun z => z ≠ S ∧ z ≠ TL) G rows j (200 * j) H' hs ss ∧ hs.Pairwise Hand.apart ∧ 1 ≤ hs.length ∧ hs.length ≤ 1 + 4 * j ∧
          H' TL = some (.lst tl) ∧ AllP (ToldAt (fun z => z ≠ S ∧ z ≠ TL) H') zss tl ∧ tl.length ≤ 100 * j)
        ⟨none, none, none, none, none, none, none, none, none, none, [⟨m, d, v0, P0⟩], [.ref t0], [], [], rfl, trivial, St, hSx, .cons Hd0 .nil, List.pairwise_singleton _ _, Nat.le_refl _, Nat.le_refl _, hTx, .nil, Nat.le_refl _⟩ ?_ ?_⟩
      · rintro j σ H5 hj ⟨y5, y11, y12, y13, y14, y15, y16, y17, y18, y19, hs, ss, tl, zss, rfl, e5, St5, hS5, hhs, hpw, hl1, hl2, hT5, htl, tll⟩
        have jn : j ≤ G.sw.length := by omega
        -- twins
        refine ⟨_, rfl, by decide, by decide, for_range (lo := 0) (n := 2) (fun i σ H' => ∃ (y5 y12 y13 y14 : Option V) (hs : List Hand) (ss : List V), σ = [some (.ref a), some (.ref c), some (.ref nm), some (.ref f3), some (.ref hc), y5, some (.ref D), some (.int ((G.sw.length : Int) + 1)), some (.ref bg), some (.ref S), some (.ref TL), some (.int (0 + (j : Int))), y12, y13, y14, y15, y16, y17, y18, y19] ∧
            True ∧ Stat (fun z => z ≠ S ∧ z ≠ TL) (.ref c) nm hc D bg G rows us [x0, x1, x2] Ps pus b0 b1 H' ∧ H' S = some (.lst ss) ∧ HandsAt T.C_Machine T.C_Game (fun z => z ≠ S ∧ z ≠ TL) G rows j (200 * j) H' hs ss ∧ hs.Pairwise Hand.apart ∧ 1 ≤ hs.length ∧ hs.length ≤ 1 + 4 * j + 2 * i ∧
            H' TL = some (.lst tl) ∧ AllP (ToldAt (fun z => z ≠ S ∧ z ≠ TL) H') zss tl)
          ⟨y5, y12, y13, y14, hs, ss, rfl, e5, St5, hS5, hhs, hpw, hl1, hl2, hT5, htl⟩ ?_ ?_⟩
        · rintro i σ H6 hi ⟨y5, y12, y13, y14, hs, ss, rfl, e6, St6, hS6, hhs, hpw, hl1, hl2, hT6, htl⟩
          obtain ⟨bi, hbi⟩ : ∃ bi : Int, atI [V.int b0, .int b1] (0 + (i : Int)) = some (.int bi) := by
            have : i = 0 ∨ i = 1 := by omega
            rcases this with rfl | rfl
            · exact ⟨b0, at0⟩
            · exact ⟨b1, at1⟩
          refine ⟨_, rfl, _, rfl, bg, _, _, _, rfl, rfl, SqL.of St6.b, hbi, _, rfl, rfl, _, rfl, ?_⟩
          by_cases cb : V.int bi = V.int (0 + (j : Int))
          · rw [decide_eq_true cb]
            have sl : ss.length = hs.length := hhs.len
            obtain ⟨hd, hhd⟩ : ∃ hd, hs[hs.length - 1]? = some hd := ⟨_, List.getElem?_eq_getElem (by omega)⟩
            obtain ⟨vl, hvl, hH⟩ := AllP.get' hhs hhd
            obtain ⟨al, k, rfl, hal, hM, hk, hGN, hP, oP⟩ := id hH
            refine ⟨_, rfl, _, rfl, S, _, _, _, rfl, rfl, SqL.of hS6, atI_last (by rw [sl]; exact hvl), ?_⟩
            refine ⟨al, _, rfl, .inl (.inl hal), rfl, _, _, rfl, _, [], rfl, rfl, ?_⟩
            -- two twins
            obtain ⟨dx, mg', mh, mus, mm1, mm2, _⟩ := id hM
            refine ⟨_, rfl, hd.m, dx, _, rfl, mm1, machF_no _ _ _ _ (by decide +kernel) (by decide +kernel) (by decide +kernel) (by decide +kernel), ?_⟩
            refine ⟨hd.m, hd.d, _, _, rfl, hM, fun m5 d5 H7 hm5 hd5 e7 hM5 hG5 => ?_⟩
            have hM7 := hM.step0 e7
            refine ⟨_, rfl, hd.m, dx, _, rfl, e7.k _ _ mm1 (by simp), machF_no _ _ _ _ (by decide +kernel) (by decide +kernel) (by decide +kernel) (by decide +kernel), ?_⟩
            refine ⟨hd.m, hd.d, _, _, rfl, hM7, fun m6 d6 H8 hm6 hd6 e8 hM6 hG6 => ?_⟩
            have hGN7 : GN T.C_Machine T.C_Game (fun z => z ≠ S ∧ z ≠ TL) G.p H7 hd.m := by
              obtain ⟨gx, q1, q2, q3, q4, gg1, _⟩ := id mm2
              exact hGN.of mm1 (e7.k _ _ mm1 (by simp)) gg1 (e7.k _ _ gg1 (by simp))
            have hM58 := hM5.step0 e8
            have hM8 := hM7.step0 e8
            refine ⟨Nat.le_of_lt (small1000 (by show 2 ≤ 1000; decide)), fun pr hpr => ?_⟩
            have e9 : Stp [] H8 (upd H8 pr (.lst [.ref m5, .ref m6])) := Stp.new hpr
            have hpr9 := upd_same (H := H8) (a := pr) (o := .lst [.ref m5, .ref m6])
            have e69 := (e7.trans e8).trans e9
            have M5 := hM58.step0 e9
            have M6 := hM6.step0 e9
            have M0 := hM8.step0 e9
            have St9 := St6.step e69 (fun x h => by cases h)
            have hS9 := e69.k _ _ hS6 (by simp)
            have hT9 := e69.k _ _ hT6 (by simp)
            have hhs9 : HandsAt T.C_Machine T.C_Game (fun z => z ≠ S ∧ z ≠ TL) G rows j (200 * j) _ hs ss := AllP.mono (fun h v hh => hh.step0 e69) hhs
            have htl9 := AllP.mono (fun zs v (h : ToldAt _ _ zs v) => h.step e69 (fun x h => by cases h)) htl
            have GN5 : GN T.C_Machine T.C_Game (fun z => z ≠ S ∧ z ≠ TL) G.p (upd H8 pr (.lst [.ref m5, .ref m6])) m5 := by
              have h1 := hG5 _ _ hGN
              obtain ⟨dx', g', h', us', n1, n2, _⟩ := id hM5
              obtain ⟨gx, q1, q2, q3, q4, gg1, _⟩ := id n2
              exact h1.of n1 ((e8.trans e9).k _ _ n1 (by simp)) gg1 ((e8.trans e9).k _ _ gg1 (by simp))
            have GN6 : GN T.C_Machine T.C_Game (fun z => z ≠ S ∧ z ≠ TL) G.p (upd H8 pr (.lst [.ref m5, .ref m6])) m6 := by
              have h1 := hG6 _ _ hGN7
              obtain ⟨dx', g', h', us', n1, n2, _⟩ := id hM6
              obtain ⟨gx, q1, q2, q3, q4, gg1, _⟩ := id n2
              exact h1.of n1 (e9.k _ _ n1 (by simp)) gg1 (e9.k _ _ gg1 (by simp))
            have P9 := hP.step e69 (fun x h => by cases h)
            have ap5 : ∀ b ∈ hs, b.m ≠ m5 ∧ b.d ≠ d5 := fun b hb => by
              obtain ⟨v, hv⟩ := hhs.mem hb
              exact hv.fresh hm5 hd5
            have ap6 : ∀ b ∈ hs, b.m ≠ m6 ∧ b.d ≠ d6 := fun b hb => by
              obtain ⟨v, hv⟩ := hhs.mem hb
              exact (hv.step0 e7).fresh hm6 hd6
            have ap56 : m5 ≠ m6 ∧ d5 ≠ d6 := by
              obtain ⟨dx', g', h', us', n1, n2, n3, n4, n5⟩ := id hM5
              obtain ⟨kvs, b1⟩ := n5.obj
              exact ⟨fun z => by (rw [z, hm6] at n1; cases n1), fun z => by (rw [z, hd6] at b1; cases b1)⟩
            clear e69 hM5 hM6 hM58 hM8 hM7 e7 e8 e9 hGN hGN7 hG5 hG6 mm1 mm2 hM
            generalize upd H8 pr (.lst [.ref m5, .ref m6]) = H9 at *
            -- the boxes are the same
            refine ⟨_, rfl, pr, _, _, _, rfl, rfl, SqL.of hpr9, at0, _, rfl, _, rfl, ?_⟩
            refine ⟨m5, d5, hd.m, hd.d, nm, _, _, _, _, _, rfl, M5, M0, rfl, St9.n, fun H10 e10 => ⟨_, rfl, ?_⟩⟩
            refine ⟨_, rfl, pr, _, _, _, rfl, rfl, SqL.of (e10.k _ _ hpr9 (by simp)), at1, _, rfl, _, rfl, ?_⟩
            refine ⟨m6, d6, hd.m, hd.d, nm, _, _, _, _, _, rfl, M6.step0 e10, M0.step0 e10, rfl, e10.k _ _ St9.n (by simp), fun H11 e11 => ⟨_, rfl, ?_⟩⟩
            have f1 := e10.trans e11
            have St11 := St9.step f1 (fun x h => by cases h)
            have hS11 := f1.k _ _ hS9 (by simp)
            have hT11 := f1.k _ _ hT9 (by simp)
            have hhs11 : HandsAt T.C_Machine T.C_Game (fun z => z ≠ S ∧ z ≠ TL) G rows j (200 * j) _ hs ss := AllP.mono (fun h v hh => hh.step0 f1) hhs9
            have htl11 := AllP.mono (fun zs v (h : ToldAt _ _ zs v) => h.step f1 (fun x h => by cases h)) htl9
            have GN5' := GN.step0 f1 M5 GN5
            have GN6' := GN.step0 f1 M6 GN6
            have M5' := M5.step0 f1
            have M6' := M6.step0 f1
            have P11 := P9.step f1 (fun x h => by cases h)
            have hpr11 := f1.k _ _ hpr9 (by simp)
            clear e10 e11 St9 hS9 hT9 hhs9 htl9 GN5 GN6 M5 M6 M0 P9 hpr9 hhs htl hP hT6 hS6 hH St6
            -- the first one
            have xl10 : G.sw.length ≤ 10 := by omega
            obtain ⟨Pk, hPk⟩ : ∃ Pk, Ps[i + 1]? = some Pk := ⟨_, List.getElem?_eq_getElem (by omega)⟩
            obtain ⟨vk, hvk, hPvk⟩ := AllP.get' St11.p hPk
            have oPk := oPs _ (List.mem_of_getElem? hPk)
            refine ⟨_, rfl, .inl ⟨rfl, _, SqL.of hS11⟩, _, rfl, pr, _, _, _, rfl, rfl, SqL.of hpr11, at0, ?_⟩
            refine ⟨_, rfl, _, rfl, _, rfl, _, _, rfl, rfl, D, _, _, vk, rfl, rfl, SqL.of St11.d, at_of (j := i + 1) (by omega) hvk, _, rfl, ?_⟩
            refine ⟨hd.pv, vk, hd.P, Pk, j, _, G.sw.length, G.p, by rw [Int.zero_add]; rfl, P11, hPvk, oP, oPk, xl10, jn, hNf hS11 hT11, fun v P H12 e12 hP12' eP => ?_⟩
            refine ⟨Nat.le_of_lt (small1000 (by show 2 ≤ 1000; decide)), fun t ht => ?_⟩
            have oPn := turned_ok oP oPk jn eP
            have eBn := stB_congr (rows := rows) (turned_round (G := G) oP jn eP)
            have hhs12 : HandsAt T.C_Machine T.C_Game (fun z => z ≠ S ∧ z ≠ TL) G rows j (200 * j) _ hs ss := AllP.mono (fun h v hh => hh.step0 e12) hhs11
            obtain ⟨hp1, hp2⟩ := hands_put (e12.k _ _ hS11 (by simp)) hhs12 hpw (M5'.step0 e12) hk (GN.step0 e12 M5' GN5') ap5 hP12' oPn eBn ht
            have f2 : Stp [] _ (upd H12 t (.tup [.ref m5, v])) := e12.trans (Stp.new ht)
            have hS12 := f2.k _ _ hS11 (by simp)
            have f3s : Stp [S] (upd H12 t (.tup [.ref m5, v])) (upd (upd H12 t (.tup [.ref m5, v])) S (.lst (ss ++ [.ref t]))) := Stp.wrL hS12 (by simp)
            refine ⟨S, _, _, rfl, rfl, hS12, by rw [hhs11.len]; exact small1000 (by omega), ?_⟩
            have hlS : ∀ x ∈ [S], ¬ (fun z => z ≠ S ∧ z ≠ TL) x ∧ ∃ ys, (upd H12 t (.tup [.ref m5, v])) x = some (HO.lst ys) := fun x hx => by
              have : x = S := by simpa using hx
              subst this
              exact ⟨fun (z : x ≠ x ∧ x ≠ TL) => z.1 rfl, _, hS12⟩
            have hlS' : ∀ x ∈ [S], ¬ (fun z => z ≠ S ∧ z ≠ TL) x ∨ ∀ ys, (upd H12 t (.tup [.ref m5, v])) x ≠ some (HO.lst ys) := fun x hx => .inl (hlS x hx).1
            have St13 := (St11.step f2 (fun x h => by cases h)).step f3s hlS'
            have hT13 := f3s.k _ _ (f2.k _ _ hT11 (by simp)) (by simpa using nST.symm)
            have htl13 := AllP.mono (fun zs v (h : ToldAt _ _ zs v) => (h.step f2 (fun x h => by cases h)).step f3s hlS') htl11
            obtain ⟨M6b, GN6b⟩ := MachAt.stepL f3s hlS (GN.step0 f2 M6' GN6') (M6'.step0 f2)
            have P13 := (P11.step f2 (fun x h => by cases h)).step f3s hlS'
            have prS : pr ≠ S := fun z => by
              rw [z, hS11] at hpr11
              have := HO.lst.inj (Option.some.inj hpr11)
              rw [this] at hhs11
              obtain ⟨h0, hh0⟩ : ∃ h0, hs[0]? = some h0 := ⟨_, List.getElem?_eq_getElem (by omega)⟩
              obtain ⟨w0, hw0, a0, k0, ew, ha0, _⟩ := AllP.get' hhs11 hh0
              have ew0 : V.ref m5 = w0 := Option.some.inj hw0
              rw [← ew0] at ew
              have := V.ref.inj ew
              subst this
              obtain ⟨dx', g', h', us', n1, _⟩ := M5'
              rw [ha0] at n1; cases n1
            have hpr13 := f3s.k _ _ (f2.k _ _ hpr11 (by simp)) (by simpa using prS)
            have hS13 := upd_same (H := upd H12 t (.tup [.ref m5, v])) (a := S) (o := .lst (ss ++ [.ref t]))
            have ap6' : ∀ b ∈ hs ++ [⟨m5, d5, v, P⟩], b.m ≠ m6 ∧ b.d ≠ d6 := fun b hb => by
              rcases List.mem_append.mp hb with h | h
              · exact ap6 b h
              · have : b = ⟨m5, d5, v, P⟩ := by simpa using h
                rw [this]; exact ap56
            generalize upd (upd H12 t (.tup [.ref m5, v])) S (.lst (ss ++ [.ref t])) = H13 at *
            -- the second one
            obtain ⟨P3, hP3⟩ : ∃ P3, Ps[3]? = some P3 := ⟨_, List.getElem?_eq_getElem (by omega)⟩
            obtain ⟨v3, hv3, hPv3⟩ := AllP.get' St13.p hP3
            have oP3 := oPs _ (List.mem_of_getElem? hP3)
            refine ⟨_, rfl, .inl ⟨rfl, _, SqL.of hS13⟩, _, rfl, pr, _, _, _, rfl, rfl, SqL.of hpr13, at1, ?_⟩
            refine ⟨_, rfl, _, rfl, D, _, _, v3, rfl, rfl, SqL.of St13.d, at_of (j := 3) rfl hv3, _, rfl, ?_⟩
            refine ⟨hd.pv, v3, hd.P, P3, j, _, G.sw.length, G.p, by rw [Int.zero_add]; rfl, P13, hPv3, oP, oP3, xl10, jn, hNf hS13 hT13, fun v' P' H14 e14 hP14' eP' => ?_⟩
            refine ⟨Nat.le_of_lt (small1000 (by show 2 ≤ 1000; decide)), fun t' ht' => ?_⟩
            have oPn' := turned_ok oP oP3 jn eP'
            have eBn' := stB_congr (rows := rows) (turned_round (G := G) oP jn eP')
            have hhs14 : HandsAt T.C_Machine T.C_Game (fun z => z ≠ S ∧ z ≠ TL) G rows j (200 * j) _ (hs ++ [⟨m5, d5, v, P⟩]) (ss ++ [.ref t]) := AllP.mono (fun h v hh => hh.step0 e14) hp1
            obtain ⟨hq1, hq2⟩ := hands_put (e14.k _ _ hS13 (by simp)) hhs14 hp2 (M6b.step0 e14) hk (GN.step0 e14 M6b GN6b) ap6' hP14' oPn' eBn' ht'
            have f4 : Stp [] _ (upd H14 t' (.tup [.ref m6, v'])) := e14.trans (Stp.new ht')
            have hS14 := f4.k _ _ hS13 (by simp)
            have f5s : Stp [S] (upd H14 t' (.tup [.ref m6, v'])) (upd (upd H14 t' (.tup [.ref m6, v'])) S (.lst (ss ++ [.ref t] ++ [.ref t']))) := Stp.wrL hS14 (by simp)
            have hlS2 : ∀ x ∈ [S], ¬ (fun z => z ≠ S ∧ z ≠ TL) x ∨ ∀ ys, (upd H14 t' (.tup [.ref m6, v'])) x ≠ some (HO.lst ys) := fun x hx => .inl fun (z : x ≠ S ∧ x ≠ TL) => z.1 (by simpa using hx)
            refine ⟨S, _, _, rfl, rfl, hS14, by rw [List.length_append, hhs11.len]; exact small1000 (by show _ + 1 ≤ _; omega), ?_⟩
            exact ⟨_, _, _, _, _, _, rfl, trivial, (St13.step f4 (fun x h => by cases h)).step f5s hlS2, upd_same, hq1, hq2, by rw [List.length_append, List.length_append]; omega, by rw [List.length_append, List.length_append]; show _ + 1 + 1 ≤ _; omega, f5s.k _ _ (f4.k _ _ hT13 (by simp)) (by simpa using nST.symm), AllP.mono (fun zs v (h : ToldAt _ _ zs v) => (h.step f4 (fun x h => by cases h)).step f5s hlS2) htl13⟩
          · rw [decide_eq_false cb]
            exact ⟨_, y12, y13, y14, hs, ss, rfl, e6, St6, hS6, hhs, hpw, hl1, by omega, hT6, htl⟩
        · rintro σ H6 ⟨y5, y12, y13, y14, hs, ss, rfl, e6, St6, hS6, hhs, hpw, hl1, hl2, hT6, htl⟩
          dsimp only
          refine seq_split fun J3 hJ3 => ?_
          have rest3 : ∀ (hs : List Hand) (ss : List V) H7, True → Stat (fun z => z ≠ S ∧ z ≠ TL) (.ref c) nm hc D bg G rows us [x0, x1, x2] Ps pus b0 b1 H7 → H7 S = some (.lst ss) → HandsAt T.C_Machine T.C_Game (fun z => z ≠ S ∧ z ≠ TL) G rows j (200 * j) H7 hs ss → hs.Pairwise Hand.apart → 1 ≤ hs.length → hs.length ≤ 1 + 4 * j + 4 →
              H7 TL = some (.lst tl) → AllP (ToldAt (fun z => z ≠ S ∧ z ≠ TL) H7) zss tl → J3 [some (.ref a), some (.ref c), some (.ref nm), some (.ref f3), some (.ref hc), y5, some (.ref D), some (.int ((G.sw.length : Int) + 1)), some (.ref bg), some (.ref S), some (.ref TL), some (.int (0 + (j : Int))), y12, y13, y14, y15, y16, y17, y18, y19] H7 := by
            intro hs ss H7 e7 St7 hS7 hhs hpw hl1 hl2 hT7 htl
            refine hJ3 _ _ ?_
            have sl : ss.length = hs.length := hhs.len
            have xl10 : G.sw.length ≤ 10 := by omega
            refine ⟨_, rfl, S, rfl, ⟨_, SqL.of hS7⟩, for_list (K := K) (a := S) (xs := ss) (fun i σ H' => ∃ (y12 y13 y15 y16 y17 y18 : Option V) (tl' : List V) (zss' : List (List Int)), σ = [some (.ref a), some (.ref c), some (.ref nm), some (.ref f3), some (.ref hc), y5, some (.ref D), some (.int ((G.sw.length : Int) + 1)), some (.ref bg), some (.ref S), some (.ref TL), some (.int (0 + (j : Int))), y12, y13, y14, y15, y16, y17, y18, y19] ∧
                True ∧ Stat (fun z => z ≠ S ∧ z ≠ TL) (.ref c) nm hc D bg G rows us [x0, x1, x2] Ps pus b0 b1 H' ∧ H' S = some (.lst ss) ∧ (∀ (q : Nat) (h : Hand) (v : V), hs[q]? = some h → ss[q]? = some v → HandAt T.C_Machine T.C_Game (fun z => z ≠ S ∧ z ≠ TL) G rows (if q < i then j + 1 else j) (if q < i then 200 * (j + 1) else 200 * j) H' h v) ∧
                H' TL = some (.lst tl') ∧ AllP (ToldAt (fun z => z ≠ S ∧ z ≠ TL) H') zss' tl' ∧ tl'.length ≤ 100 * j + i)
              ⟨y12, y13, y15, y16, y17, y18, tl, zss, rfl, e7, St7, hS7, fun q h v h1 h2 => by rw [if_neg (Nat.not_lt_zero _), if_neg (Nat.not_lt_zero _)]; exact hhs.two h1 h2, hT7, htl, by omega⟩ (fun i σ H' _ ⟨_, _, _, _, _, _, _, _, _, _, _, h, _⟩ => SqL.of h) ?_ ?_⟩
            · rintro i v σ H8 hi ⟨y12, y13, y15, y16, y17, y18, tl', zss', rfl, e8, St8, hS8, hH8, hT8, htl8, tll8⟩
              have il := lt_of_at hi
              obtain ⟨hd, hhd⟩ : ∃ hd, hs[i]? = some hd := ⟨_, List.getElem?_eq_getElem (by omega)⟩
              have hHi := hH8 i hd v hhd hi
              rw [if_neg (Nat.lt_irrefl _), if_neg (Nat.lt_irrefl _)] at hHi
              obtain ⟨al, k, rfl, hal, hM, hk, hGN, hP, oP⟩ := id hHi
              refine ⟨al, _, rfl, .inl (.inl hal), rfl, _, _, rfl, _, [], rfl, rfl, ?_⟩
              -- the rounds
              refine ⟨_, rfl, _, rfl, _, _, hd.P, _, G, rfl, hP, St8.g, ok, xl10, oP, fun L rs H9 hL e9 hL9 hrs => ?_⟩
              refine ⟨_, rfl, _, rfl, _, rfl, _, rfl, _, _, rfl, rfl, _, rfl, L, rs, rfl, SqL.of hL9, fun L2 hL2 => ?_⟩
              rw [show (0 + (j : Int)) + 1 = ((j + 1 : Nat) : Int) by omega, cutV_take]
              have e10 : Stp [] H9 (upd H9 L2 (.lst (rs.take (j + 1)))) := Stp.new hL2
              have e8_10 := e9.trans e10
              have St10 := St8.step e8_10 (fun x h => by cases h)
              have hrs10 := AllP.takeN (j + 1) (AllP.mono (fun R v (h : RowQAt _ _ R v) => h.step e10 (fun x h => by cases h)) hrs)
              rw [← List.map_take, range_take (by omega)] at hrs10
              refine ⟨.ref c, hc, L2, us, _, G, hd.P, rows, j + 1, _, rfl, St10.g, S0, oP, St10.h, St10.r, upd_same, hrs10, by omega, fun a2 m2 d2 z H11 e11 hm2 hd2 ha2 hM2 hz => ?_⟩
              refine ⟨a2, _, rfl, .inl (.inl ha2), rfl, _, _, rfl, _, [], rfl, rfl, ?_⟩
              have e8_11 := e8_10.trans e11
              have hHi11 := hHi.step0 e8_11
              have hM11 := hM.step0 e8_11
              have hL11 := (e10.trans e11).k _ _ hL9 (by simp)
              have hrs11 := AllP.mono (fun R v (h : RowQAt _ _ R v) => h.step (e10.trans e11) (fun x h => by cases h)) hrs
              have hj' : ((List.range (G.sw.length + 1)).map (roundOf G hd.P))[j]? = some (roundOf G hd.P j) := by rw [List.getElem?_map, List.getElem?_range (by omega)]; rfl
              obtain ⟨vr, hvr, hrq⟩ := AllP.get' hrs11 hj'
              have hz11 := hz j rfl
              -- it says
              refine ⟨_, rfl, _, rfl, _, rfl, L, _, _, vr, rfl, rfl, SqL.of hL11, at_of (j := j) (by omega) hvr, ?_⟩
              refine ⟨hd.m, hd.d, vr, G, hd.P, rows, j, k, _, rfl, hM11, hrq, S0, oP, jn, by omega, fun p H12 hp e12 hM12 hp12 hGN12 => ?_⟩
              have notM := hM11.notL
              have hz12 := e12.lst notM hz11
              have m2H : H8 m2 = none := e8_10.free hm2 (by simp)
              have d2H : H8 d2 = none := e8_10.free hd2 (by simp)
              obtain ⟨ap1, ap2⟩ := hHi.fresh m2H d2H
              have hM2' := hM2.other e12 hM11 ap1.symm ap2.symm
              have St12 := (St10.step e11 (fun x h => by cases h)).step e12 (fun x hx => .inr (notM x hx))
              have hS11 := e8_11.k _ _ hS8 (by simp)
              have hT11 := e8_11.k _ _ hT8 (by simp)
              have hS12 := e12.lst notM hS11
              have hT12 := e12.lst notM hT11
              have htl12 := AllP.mono (fun zs v (h : ToldAt _ _ zs v) => (h.step e8_11 (fun x h => by cases h)).step e12 (fun x hx => .inr (notM x hx))) htl8
              have np := hNf hS11 hT11 p hp
              have hH12 : ∀ (q : Nat) (h : Hand) (v : V), hs[q]? = some h → ss[q]? = some v → HandAt T.C_Machine T.C_Game (fun z => z ≠ S ∧ z ≠ TL) G rows (if q < i + 1 then j + 1 else j) (if q < i + 1 then 200 * (j + 1) else 200 * j) H12 h v := by
                intro q h' v' h1 h2
                by_cases cq : q = i
                · subst cq
                  rw [hhd] at h1
                  obtain rfl := Option.some.inj h1
                  rw [hi] at h2
                  obtain rfl := Option.some.inj h2
                  rw [if_pos (Nat.lt_succ_self _), if_pos (Nat.lt_succ_self _)]
                  obtain ⟨al', k', ea, hal', _, _, hGN', hP', oP'⟩ := id hHi11
                  obtain rfl := V.ref.inj ea
                  exact ⟨al, k + 200, rfl, e12.t _ _ hal', hM12, by omega, hGN12 _ _ hGN', hP'.step e12 (fun x hx => .inr (notM x hx)), oP'⟩
                · have ap := pw_at hpw h1 hhd cq
                  have base := (hH8 q h' v' h1 h2).step0 e8_11
                  have res := base.other e12 hM11 ap.1 ap.2
                  by_cases c2 : q < i
                  · rw [if_pos c2, if_pos c2] at res
                    rw [if_pos (by omega), if_pos (by omega)]; exact res
                  · rw [if_neg c2, if_neg c2] at res
                    rw [if_neg (by omega), if_neg (by omega)]; exact res
              -- it is what is due
              refine ⟨_, rfl, _, rfl, _, _, dpInts hp12, dpInts hz12, shaped_ints _, shaped_ints _, _, rfl, ?_⟩
              rw [eqv_ints, decide_eq_true rfl]
              refine ⟨_, rfl, _, rfl, _, rfl, ?_⟩
              refine ⟨hd.m, hd.d, m2, d2, nm, _, _, _, _, _, rfl, hM12, hM2', rfl, St12.n, fun H13 e13 => ⟨_, rfl, ?_⟩⟩
              have hT13 := e13.k _ _ hT12 (by simp)
              have hS13 := e13.k _ _ hS12 (by simp)
              have hp13 := e13.k _ _ hp12 (by simp)
              refine ⟨_, rfl, .inl ⟨rfl, _, SqL.of hT13⟩, _, rfl, _, rfl, p, _, rfl, .inl (SqL.of hp13), fun kp hkp => ?_⟩
              refine ⟨Nat.le_of_lt (small1000 (by show 2 ≤ 1000; decide)), fun t ht => ?_⟩
              have nkp := hNf hS13 hT13 kp hkp
              have e14 : Stp [] H13 _ := (Stp.new (o := .lst ((toldJ G hd.P rows j).map V.int)) hkp).trans (Stp.new (o := .tup [.ref p, .ref kp]) ht)
              have hT14 := e14.k _ _ hT13 (by simp)
              have e12_14 := e13.trans e14
              have eT : Stp [TL] _ (upd (upd (upd H13 kp (.lst ((toldJ G hd.P rows j).map V.int))) t (.tup [.ref p, .ref kp])) TL (.lst (tl' ++ [.ref t]))) := Stp.wrL hT14 (by simp)
              have hlT : ∀ x ∈ [TL], ¬ (fun z => z ≠ S ∧ z ≠ TL) x ∧ ∃ ys, (upd (upd H13 kp (.lst ((toldJ G hd.P rows j).map V.int))) t (.tup [.ref p, .ref kp])) x = some (HO.lst ys) := fun x hx => by
                have : x = TL := by simpa using hx
                subst this
                exact ⟨fun (z : x ≠ S ∧ x ≠ x) => z.2 rfl, _, hT14⟩
              have hlT' : ∀ x ∈ [TL], ¬ (fun z => z ≠ S ∧ z ≠ TL) x ∨ ∀ ys, (upd (upd H13 kp (.lst ((toldJ G hd.P rows j).map V.int))) t (.tup [.ref p, .ref kp])) x ≠ some (HO.lst ys) := fun x hx => .inl (hlT x hx).1
              refine ⟨TL, _, _, rfl, rfl, hT14, ?_, ?_⟩
              · exact small1000 (by omega)
              have told : ToldAt (fun z => z ≠ S ∧ z ≠ TL) _ (toldJ G hd.P rows j) (.ref t) := ⟨t, p, kp, rfl, upd_same, ⟨e14.k _ _ hp13 (by simp), np⟩, ⟨(Stp.new (l := []) (o := .tup [.ref p, .ref kp]) ht).k _ _ upd_same (by simp), nkp⟩⟩
              exact ⟨_, _, _, _, _, _, _, zss' ++ [toldJ G hd.P rows j], rfl, trivial, (St12.step e12_14 (fun x h => by cases h)).step eT hlT', eT.k _ _ (e12_14.k _ _ hS12 (by simp)) (by simpa using nST), fun q h v h1 h2 => ((hH12 q h v h1 h2).step0 e12_14).stepL eT hlT, upd_same,
                AllP.snoc (told.step eT hlT') (AllP.mono (fun zs v (h : ToldAt _ _ zs v) => (h.step e12_14 (fun x h => by cases h)).step eT hlT') htl12), by rw [List.length_append]; show _ + 1 ≤ _; omega⟩
            · rintro σ H8 ⟨y12, y13, y15, y16, y17, y18, tl', zss', rfl, e8, St8, hS8, hH8, hT8, htl8, tll8⟩
              refine ⟨y5, _, y12, y13, y14, y15, y16, y17, y18, y19, hs, ss, tl', zss', rfl, e8, St8, hS8, AllP.ofAt sl fun q h v h1 h2 => ?_, hpw, hl1, by omega, hT8, htl8, by omega⟩
              have := hH8 q h v h1 h2
              rw [if_pos (lt_of_at h2), if_pos (lt_of_at h2)] at this
              exact this
          refine ⟨_, rfl, _, _, rfl, rfl, (by show (0 : Int) < 2; decide), rfl, _, rfl, ?_⟩
          by_cases cr : V.int ((0 + (j : Int)) % 2) = V.int 1
          · rw [decide_eq_true cr]
            refine ⟨_, rfl, .inl ⟨rfl, _, SqL.of hS6⟩, S, _, rfl, rfl, hS6, ?_⟩
            have eR : Stp [S] H6 (upd H6 S (.lst ss.reverse)) := Stp.wrL hS6 (by simp)
            have hlR : ∀ x ∈ [S], ¬ (fun z => z ≠ S ∧ z ≠ TL) x ∧ ∃ ys, H6 x = some (HO.lst ys) := fun x hx => by
              have : x = S := by simpa using hx
              subst this
              exact ⟨fun (z : x ≠ x ∧ x ≠ TL) => z.1 rfl, _, hS6⟩
            have hlR' : ∀ x ∈ [S], ¬ (fun z => z ≠ S ∧ z ≠ TL) x ∨ ∀ ys, H6 x ≠ some (HO.lst ys) := fun x hx => .inl (hlR x hx).1
            refine rest3 hs.reverse ss.reverse _ trivial (St6.step eR hlR') upd_same (AllP.rev (AllP.mono (fun h v (hv : HandAt T.C_Machine T.C_Game (fun z => z ≠ S ∧ z ≠ TL) G rows j (200 * j) H6 h v) => hv.stepL eR hlR) hhs)) (pw_rev hpw) (by rw [List.length_reverse]; exact hl1) (by rw [List.length_reverse]; exact hl2)
              (eR.k _ _ hT6 (by simpa using nST.symm)) (AllP.mono (fun zs v (h : ToldAt _ _ zs v) => h.step eR hlR') htl)
          · rw [decide_eq_false cr]
            exact rest3 hs ss H6 e6 St6 hS6 hhs hpw hl1 hl2 hT6 htl
      · rintro σ H5 ⟨y5, y11, y12, y13, y14, y15, y16, y17, y18, y19, hs, ss, tl, zss, rfl, e5, St5, hS5, hhs, hpw, hl1, hl2, hT5, htl, tll⟩
        have en : ((G.sw.length : Int) + 1).toNat = G.sw.length + 1 := by omega
        rw [en] at hhs
        refine ⟨_, rfl, _, rfl, _, rfl, _, rfl, S, _, hc, nm, us, ss, G, rows, _, hs, _, _, rfl, St5.g, S0, St5.h, St5.r, hS5, hhs, St5.n, fun H6 e6 => ⟨_, rfl, ?_⟩⟩
        have hT6 := e6.k _ _ hT5 (by simp)
        have htl6 := AllP.mono (fun zs v (h : ToldAt _ _ zs v) => h.step e6 (fun x h => by cases h)) htl
        refine ⟨_, rfl, TL, rfl, ⟨_, SqL.of hT6⟩, fun D2 hD2 => lc_list (K := K) (a := TL) (xs := tl) (fun i H' => Stp [] H6 H' ∧ H' D2 = some (.lst [])) ⟨Stp.new hD2, upd_same⟩ (fun i H' _ h => SqL.of (h.1.k _ _ hT6 (by simp))) ?_ ?_⟩
        · rintro i v H7 hi ⟨e7, hD7⟩
          obtain ⟨zs, _, hzs⟩ := htl6.get hi
          obtain ⟨ta, tx, ty, rfl, h1, ⟨h2, _⟩, ⟨h3, _⟩⟩ := hzs.step e7 (fun x h => by cases h)
          refine ⟨ta, _, rfl, .inl (.inl h1), rfl, _, _, rfl, _, [], rfl, rfl, rfl, ?_⟩
          refine ⟨_, rfl, _, rfl, _, _, dpInts h2, dpInts h3, shaped_ints _, shaped_ints _, _, rfl, ?_⟩
          rw [eqv_ints, decide_eq_true rfl]
          exact ⟨e7, hD7⟩
        · rintro H7 ⟨e7, hD7⟩
          refine ⟨Nat.zero_le _, fun z hz => ?_⟩
          refine ⟨_, _, dpInts (ns := []) ((Stp.new (l := []) hz).k _ _ hD7 (by simp)), dpInts (ns := []) upd_same, shaped_ints [], shaped_ints [], ?_⟩
          rw [eqv_ints]
          exact q _
    -- the helper
    have dep5 : ∀ r ∈ rows, r.dep 6 := fun r hr => Row.dep_mono (by decide) (hin r hr).1
    refine ⟨_, rfl, f3, 3, rfl, hF7, by decide, by decide, fun k H8 e8 hF8 k0 k1 => ?_⟩
    have e08 : Stp [] H H8 := (e07.nil.trans e8).drop f3H
    have hn8 := e8.k _ _ hn7 (by simpa using nnf)
    refine ⟨rfl, _, rfl, ?_⟩
    rw [int_dec]
    by_cases ck : k = 2
    · rw [decide_eq_true ck]
      refine ⟨_, rfl, _, rfl, nm, _, _, .str x0, rfl, rfl, SqL.of hn8, at0, f3, x0, rfl, hF8, fun hc' us' rows' H9 e9 hF9 hhc' hrows' rl' hin' => ?_⟩
      exact rest2 hc' us' rows' H9 ((e08.nil.trans e9).drop f3H) (hG7.step (e8.trans e9)) (e9.k _ _ hn8 (by simpa using nnf)) hF9 hhc' hrows' (by omega) fun r hr => (hin' r hr).1
    · rw [decide_eq_false ck]
      exact rest2 hc us rows H8 e08 (hG7.step e8) hn8 hF8 (e8.t _ _ hhc) (AllP.mono (fun r v => RowAt.step e8 r v) hrows) (by omega) dep5
  have hx0 : x0.length ≤ 8 := (nin x0 (by simp)).len
  have nmH : H nm = none := (e02.trans e3).free hnm (by simp)
  refine ⟨_, rfl, nm, _, _, .str x0, rfl, rfl, SqL.of hnl, at0, x0, rfl, smallL (by omega), _, _, rfl, rfl, _, rfl, ?_⟩
  by_cases c1 : (x0.length : Int) < 6
  · rw [decide_eq_true c1]
    refine ⟨_, rfl, a, ns, 6, rfl, e04.seq hA (by simp), nl, by decide, by decide, fun f6 H5 hf6 e5 hF5 => ?_⟩
    refine ⟨f6, 3, rfl, hF5, by decide, by decide, fun k H6 e6 hF6 k0 k1 => ?_⟩
    have e46 : Stp [] H4 H6 := (e5.nil.trans e6).drop hf6
    have hn6 := e46.k _ _ hnl (by simp)
    refine ⟨_, _, rfl, rfl, _, rfl, ?_⟩
    by_cases c2 : 0 < k
    · rw [decide_eq_true c2]
      refine ⟨_, rfl, nm, _, _, .str x0, rfl, rfl, SqL.of hn6, at0, _, _, rfl, rfl, smallL (by rw [show (("q" : Str)).length = 1 by decide +kernel]; omega), _, rfl, ?_⟩
      refine ⟨nm, _, _, 1, rfl, rfl, hn6, rfl, ?_⟩
      have eW : Stp [nm] H6 (upd H6 nm (.lst ([x0, x0 ++ "q", x2].map V.str))) := Stp.wrL hn6 (by simp)
      exact rest (x0 ++ "q") _ ((e04.trans e46).fresh nmH) ((hG4.step e46).step eW) upd_same
    · rw [decide_eq_false c2]
      exact rest x1 H6 (e04.trans e46) (hG4.step e46) hn6
  · rw [decide_eq_false c1]
    exact rest x1 H4 e04 hG4 hnl

end My
namespace My
open PySem PySem.Spec PyProof.Rows L2
theorem all_mk {l : PySem.W.OpenLaw} {w : World} {K : PySem.W.Frag} {h : Heap} {mg : Str → Option Value} {fa : Addr}
  {f0 f1 f2 f3 f4 f5 f6 f7 f8 f9 f10 f11 f12 f13 f14 f15 f16 f17 f18 f19 f20 f21 f22 f23 f24 f25 f26 f27 f28 f29 f30 f31 f32 f33 f34 f35 f36 f37 f38 f39 f40 f41 f42 f43 f44 f45 f46 f47 f48 f49 f50 f51 f52 : Addr}
  {od0 an0 od1 an1 od2 an2 od3 an3 od4 an4 od5 an5 od6 an6 od7 an7 od8 an8 od9 an9 od10 an10 od11 an11 od12 an12 od13 an13 od14 an14 od15 an15 od16 an16 od17 an17 od18 an18 od19 an19 od20 an20 od21 an21 od22 an22 od23 an23 od24 an24 od25 an25 od26 an26 od27 an27 od28 an28 od29 an29 od30 an30 od31 an31 od32 an32 od33 an33 od34 an34 od35 an35 od36 an36 od37 an37 od38 an38 od39 an39 od40 an40 od41 an41 od42 an42 od43 an43 od44 an44 od45 an45 od46 an46 od47 an47 od48 an48 od49 an49 od50 an50 od51 an51 od52 an52 : Option Addr}
  {sl0 sl1 sl2 sl3 sl4 sl5 sl6 sl7 sl8 sl9 sl10 sl11 sl12 sl13 sl14 sl15 sl16 sl17 sl18 sl19 sl20 sl21 sl22 sl23 sl24 sl25 sl26 sl27 sl28 sl29 sl30 sl31 sl32 sl33 sl34 sl35 sl36 sl37 sl38 sl39 sl40 sl41 sl42 sl43 sl44 sl45 sl46 sl47 sl48 sl49 sl50 sl51 sl52 : Array (Option Value)}
  {oc0 kV0 dc0 pm0 cd0 ct0 oc1 kV1 dc1 pm1 cd1 ct1 oc2 kV2 dc2 pm2 cd2 ct2 oc3 kV3 dc3 pm3 cd3 ct3 oc4 kV4 dc4 pm4 cd4 ct4 oc5 kV5 dc5 pm5 cd5 ct5 oc6 kV6 dc6 pm6 cd6 ct6 oc7 kV7 dc7 pm7 cd7 ct7 oc8 kV8 dc8 pm8 cd8 ct8 oc9 kV9 dc9 pm9 cd9 ct9 oc10 kV10 dc10 pm10 cd10 ct10 oc11 kV11 dc11 pm11 cd11 ct11 oc12 kV12 dc12 pm12 cd12 ct12 oc13 kV13 dc13 pm13 cd13 ct13 oc14 kV14 dc14 pm14 cd14 ct14 oc15 kV15 dc15 pm15 cd15 ct15 oc16 kV16 dc16 pm16 cd16 ct16 oc17 kV17 dc17 pm17 cd17 ct17 oc18 kV18 dc18 pm18 cd18 ct18 oc19 kV19 dc19 pm19 cd19 ct19 oc20 kV20 dc20 pm20 cd20 ct20 oc21 kV21 dc21 pm21 cd21 ct21 oc22 kV22 dc22 pm22 cd22 ct22 oc23 kV23 dc23 pm23 cd23 ct23 oc24 kV24 dc24 pm24 cd24 ct24 oc25 kV25 dc25 pm25 cd25 ct25 oc26 kV26 dc26 pm26 cd26 ct26 oc27 kV27 dc27 pm27 cd27 ct27 oc28 kV28 dc28 pm28 cd28 ct28 oc29 kV29 dc29 pm29 cd29 ct29 oc30 kV30 dc30 pm30 cd30 ct30 oc31 kV31 dc31 pm31 cd31 ct31 oc32 kV32 dc32 pm32 cd32 ct32 oc33 kV33 dc33 pm33 cd33 ct33 oc34 kV34 dc34 pm34 cd34 ct34 oc35 kV35 dc35 pm35 cd35 ct35 oc36 kV36 dc36 pm36 cd36 ct36 oc37 kV37 dc37 pm37 cd37 ct37 oc38 kV38 dc38 pm38 cd38 ct38 oc39 kV39 dc39 pm39 cd39 ct39 oc40 kV40 dc40 pm40 cd40 ct40 oc41 kV41 dc41 pm41 cd41 ct41 oc42 kV42 dc42 pm42 cd42 ct42 oc43 kV43 dc43 pm43 cd43 ct43 oc44 kV44 dc44 pm44 cd44 ct44 oc45 kV45 dc45 pm45 cd45 ct45 oc46 kV46 dc46 pm46 cd46 ct46 oc47 kV47 dc47 pm47 cd47 ct47 oc48 kV48 dc48 pm48 cd48 ct48 oc49 kV49 dc49 pm49 cd49 ct49 oc50 kV50 dc50 pm50 cd50 ct50 oc51 kV51 dc51 pm51 cd51 ct51 oc52 kV52 dc52 pm52 cd52 ct52 : Value}
  {C_Round C_Machine C_Game : Addr}
  {tk_MOST_STEPS tk_MOST_FIELD : Tok}
  (X : K.In h) (G : h.Ns mainGlobals mg) (hfa : mg "law" = some (.ref fa))
  (aC_Round : PySem.W.nsIn K mainGlobals "Round" = some (some (.ref C_Round)))
  (aC_Machine : PySem.W.nsIn K mainGlobals "Machine" = some (some (.ref C_Machine)))
  (aC_Game : PySem.W.nsIn K mainGlobals "Game" = some (some (.ref C_Game)))
  (a0 : PySem.W.nsIn K mainGlobals "is_field" = some (some (.ref f0)))
  (l0 : K.lookup f0 = some ⟨oc0, od0, .func (PySem.W.fnOf "is_field" "is_field" (defArgs s_is_field) (defBody s_is_field) (defScope s_is_field) .none kV0 dc0 pm0 an0 cd0 ct0), sl0⟩)
  (c0 : PySem.W.codeIn K cd0 "is_field" = true)
  (k0 : PySem.W.keepIn K (.ref f0) = true)
  (a1 : PySem.W.nsIn K mainGlobals "inverse_of" = some (some (.ref f1)))
  (l1 : K.lookup f1 = some ⟨oc1, od1, .func (PySem.W.fnOf "inverse_of" "inverse_of" (defArgs s_inverse_of) (defBody s_inverse_of) (defScope s_inverse_of) .none kV1 dc1 pm1 an1 cd1 ct1), sl1⟩)
  (c1 : PySem.W.codeIn K cd1 "inverse_of" = true)
  (k1 : PySem.W.keepIn K (.ref f1) = true)
  (a2 : PySem.W.nsIn K mainGlobals "value_at" = some (some (.ref f2)))
  (l2 : K.lookup f2 = some ⟨oc2, od2, .func (PySem.W.fnOf "value_at" "value_at" (defArgs s_value_at) (defBody s_value_at) (defScope s_value_at) .none kV2 dc2 pm2 an2 cd2 ct2), sl2⟩)
  (c2 : PySem.W.codeIn K cd2 "value_at" = true)
  (k2 : PySem.W.keepIn K (.ref f2) = true)
  (a3 : PySem.W.nsIn K mainGlobals "all_settings" = some (some (.ref f3)))
  (l3 : K.lookup f3 = some ⟨oc3, od3, .func (PySem.W.fnOf "all_settings" "all_settings" (defArgs s_all_settings) (defBody s_all_settings) (defScope s_all_settings) .none kV3 dc3 pm3 an3 cd3 ct3), sl3⟩)
  (c3 : PySem.W.codeIn K cd3 "all_settings" = true)
  (k3 : PySem.W.keepIn K (.ref f3) = true)
  (a4 : PySem.W.nsIn K mainGlobals "joined_settings" = some (some (.ref f4)))
  (l4 : K.lookup f4 = some ⟨oc4, od4, .func (PySem.W.fnOf "joined" "joined" (defArgs s_joined_settings) (defBody s_joined_settings) (defScope s_joined_settings) .none kV4 dc4 pm4 an4 cd4 ct4), sl4⟩)
  (c4 : PySem.W.codeIn K cd4 "joined" = true)
  (k4 : PySem.W.keepIn K (.ref f4) = true)
  (a5 : PySem.W.nsIn K mainGlobals "holds_at" = some (some (.ref f5)))
  (l5 : K.lookup f5 = some ⟨oc5, od5, .func (PySem.W.fnOf "holds_at" "holds_at" (defArgs s_holds_at) (defBody s_holds_at) (defScope s_holds_at) .none kV5 dc5 pm5 an5 cd5 ct5), sl5⟩)
  (c5 : PySem.W.codeIn K cd5 "holds_at" = true)
  (k5 : PySem.W.keepIn K (.ref f5) = true)
  (a6 : PySem.W.nsIn K mainGlobals "count_of" = some (some (.ref f6)))
  (l6 : K.lookup f6 = some ⟨oc6, od6, .func (PySem.W.fnOf "count_of" "count_of" (defArgs s_count_of) (defBody s_count_of) (defScope s_count_of) .none kV6 dc6 pm6 an6 cd6 ct6), sl6⟩)
  (c6 : PySem.W.codeIn K cd6 "count_of" = true)
  (k6 : PySem.W.keepIn K (.ref f6) = true)
  (a7 : PySem.W.nsIn K mainGlobals "inner_of" = some (some (.ref f7)))
  (l7 : K.lookup f7 = some ⟨oc7, od7, .func (PySem.W.fnOf "inner_of" "inner_of" (defArgs s_inner_of) (defBody s_inner_of) (defScope s_inner_of) .none kV7 dc7 pm7 an7 cd7 ct7), sl7⟩)
  (c7 : PySem.W.codeIn K cd7 "inner_of" = true)
  (k7 : PySem.W.keepIn K (.ref f7) = true)
  (a8 : PySem.W.nsIn K mainGlobals "names_in" = some (some (.ref f8)))
  (l8 : K.lookup f8 = some ⟨oc8, od8, .func (PySem.W.fnOf "names_in" "names_in" (defArgs s_names_in) (defBody s_names_in) (defScope s_names_in) .none kV8 dc8 pm8 an8 cd8 ct8), sl8⟩)
  (c8 : PySem.W.codeIn K cd8 "names_in" = true)
  (k8 : PySem.W.keepIn K (.ref f8) = true)
  (a9 : PySem.W.nsIn K mainGlobals "counts_of" = some (some (.ref f9)))
  (l9 : K.lookup f9 = some ⟨oc9, od9, .func (PySem.W.fnOf "counts_of" "counts_of" (defArgs s_counts_of) (defBody s_counts_of) (defScope s_counts_of) .none kV9 dc9 pm9 an9 cd9 ct9), sl9⟩)
  (c9 : PySem.W.codeIn K cd9 "counts_of" = true)
  (k9 : PySem.W.keepIn K (.ref f9) = true)
  (a10 : PySem.W.nsIn K mainGlobals "summed" = some (some (.ref f10)))
  (l10 : K.lookup f10 = some ⟨oc10, od10, .func (PySem.W.fnOf "summed" "summed" (defArgs s_summed) (defBody s_summed) (defScope s_summed) .none kV10 dc10 pm10 an10 cd10 ct10), sl10⟩)
  (c10 : PySem.W.codeIn K cd10 "summed" = true)
  (k10 : PySem.W.keepIn K (.ref f10) = true)
  (a11 : PySem.W.nsIn K mainGlobals "true_row" = some (some (.ref f11)))
  (l11 : K.lookup f11 = some ⟨oc11, od11, .func (PySem.W.fnOf "true_row" "true_row" (defArgs s_true_row) (defBody s_true_row) (defScope s_true_row) .none kV11 dc11 pm11 an11 cd11 ct11), sl11⟩)
  (c11 : PySem.W.codeIn K cd11 "true_row" = true)
  (k11 : PySem.W.keepIn K (.ref f11) = true)
  (a12 : PySem.W.nsIn K mainGlobals "op_of" = some (some (.ref f12)))
  (l12 : K.lookup f12 = some ⟨oc12, od12, .func (PySem.W.fnOf "op_of" "op_of" (defArgs s_op_of) (defBody s_op_of) (defScope s_op_of) .none kV12 dc12 pm12 an12 cd12 ct12), sl12⟩)
  (c12 : PySem.W.codeIn K cd12 "op_of" = true)
  (k12 : PySem.W.keepIn K (.ref f12) = true)
  (a13 : PySem.W.findIn K (.ref C_Round) "__init__" = some (some (.ref f13)))
  (i13 : PySem.W.isFn K (.ref f13) = true)
  (l13 : K.lookup f13 = some ⟨oc13, od13, .func (PySem.W.fnOf "__init__" "Round.__init__" (defArgs s_Round___init__) (defBody s_Round___init__) (defScope s_Round___init__) .none kV13 dc13 pm13 an13 cd13 ct13), sl13⟩)
  (c13 : PySem.W.codeIn K cd13 "Round.__init__" = true)
  (k13 : PySem.W.keepIn K (.ref f13) = true)
  (a14 : PySem.W.findIn K (.ref C_Round) "all_tossed" = some (some (.ref f14)))
  (i14 : PySem.W.isFn K (.ref f14) = true)
  (l14 : K.lookup f14 = some ⟨oc14, od14, .func (PySem.W.fnOf "all_tossed" "Round.all_tossed" (defArgs s_Round_all_tossed) (defBody s_Round_all_tossed) (defScope s_Round_all_tossed) .none kV14 dc14 pm14 an14 cd14 ct14), sl14⟩)
  (c14 : PySem.W.codeIn K cd14 "Round.all_tossed" = true)
  (k14 : PySem.W.keepIn K (.ref f14) = true)
  (a15 : PySem.W.findIn K (.ref C_Round) "coin_at" = some (some (.ref f15)))
  (i15 : PySem.W.isFn K (.ref f15) = true)
  (l15 : K.lookup f15 = some ⟨oc15, od15, .func (PySem.W.fnOf "coin_at" "Round.coin_at" (defArgs s_Round_coin_at) (defBody s_Round_coin_at) (defScope s_Round_coin_at) .none kV15 dc15 pm15 an15 cd15 ct15), sl15⟩)
  (c15 : PySem.W.codeIn K cd15 "Round.coin_at" = true)
  (k15 : PySem.W.keepIn K (.ref f15) = true)
  (a16 : PySem.W.findIn K (.ref C_Round) "true_at" = some (some (.ref f16)))
  (i16 : PySem.W.isFn K (.ref f16) = true)
  (l16 : K.lookup f16 = some ⟨oc16, od16, .func (PySem.W.fnOf "true_at" "Round.true_at" (defArgs s_Round_true_at) (defBody s_Round_true_at) (defScope s_Round_true_at) .none kV16 dc16 pm16 an16 cd16 ct16), sl16⟩)
  (c16 : PySem.W.codeIn K cd16 "Round.true_at" = true)
  (k16 : PySem.W.keepIn K (.ref f16) = true)
  (a17 : PySem.W.findIn K (.ref C_Round) "worth" = some (some (.ref f17)))
  (i17 : PySem.W.isFn K (.ref f17) = true)
  (l17 : K.lookup f17 = some ⟨oc17, od17, .func (PySem.W.fnOf "worth" "Round.worth" (defArgs s_Round_worth) (defBody s_Round_worth) (defScope s_Round_worth) .none kV17 dc17 pm17 an17 cd17 ct17), sl17⟩)
  (c17 : PySem.W.codeIn K cd17 "Round.worth" = true)
  (k17 : PySem.W.keepIn K (.ref f17) = true)
  (a18 : PySem.W.findIn K (.ref C_Machine) "__init__" = some (some (.ref f18)))
  (i18 : PySem.W.isFn K (.ref f18) = true)
  (l18 : K.lookup f18 = some ⟨oc18, od18, .func (PySem.W.fnOf "__init__" "Machine.__init__" (defArgs s_Machine___init__) (defBody s_Machine___init__) (defScope s_Machine___init__) .none kV18 dc18 pm18 an18 cd18 ct18), sl18⟩)
  (c18 : PySem.W.codeIn K cd18 "Machine.__init__" = true)
  (k18 : PySem.W.keepIn K (.ref f18) = true)
  (a19 : PySem.W.findIn K (.ref C_Machine) "box" = some (some (.ref f19)))
  (i19 : PySem.W.isFn K (.ref f19) = true)
  (l19 : K.lookup f19 = some ⟨oc19, od19, .func (PySem.W.fnOf "box" "Machine.box" (defArgs s_Machine_box) (defBody s_Machine_box) (defScope s_Machine_box) .none kV19 dc19 pm19 an19 cd19 ct19), sl19⟩)
  (c19 : PySem.W.codeIn K cd19 "Machine.box" = true)
  (k19 : PySem.W.keepIn K (.ref f19) = true)
  (a20 : PySem.W.findIn K (.ref C_Machine) "twin" = some (some (.ref f20)))
  (i20 : PySem.W.isFn K (.ref f20) = true)
  (l20 : K.lookup f20 = some ⟨oc20, od20, .func (PySem.W.fnOf "twin" "Machine.twin" (defArgs s_Machine_twin) (defBody s_Machine_twin) (defScope s_Machine_twin) .none kV20 dc20 pm20 an20 cd20 ct20), sl20⟩)
  (c20 : PySem.W.codeIn K cd20 "Machine.twin" = true)
  (k20 : PySem.W.keepIn K (.ref f20) = true)
  (a21 : PySem.W.findIn K (.ref C_Machine) "say" = some (some (.ref f21)))
  (i21 : PySem.W.isFn K (.ref f21) = true)
  (l21 : K.lookup f21 = some ⟨oc21, od21, .func (PySem.W.fnOf "say" "Machine.say" (defArgs s_Machine_say) (defBody s_Machine_say) (defScope s_Machine_say) .none kV21 dc21 pm21 an21 cd21 ct21), sl21⟩)
  (c21 : PySem.W.codeIn K cd21 "Machine.say" = true)
  (k21 : PySem.W.keepIn K (.ref f21) = true)
  (a22 : PySem.W.findIn K (.ref C_Machine) "step" = some (some (.ref f22)))
  (i22 : PySem.W.isFn K (.ref f22) = true)
  (l22 : K.lookup f22 = some ⟨oc22, od22, .func (PySem.W.fnOf "step" "Machine.step" (defArgs s_Machine_step) (defBody s_Machine_step) (defScope s_Machine_step) .none kV22 dc22 pm22 an22 cd22 ct22), sl22⟩)
  (c22 : PySem.W.codeIn K cd22 "Machine.step" = true)
  (k22 : PySem.W.keepIn K (.ref f22) = true)
  (a23 : PySem.W.nsIn K mainGlobals "joined_worth" = some (some (.ref f23)))
  (l23 : K.lookup f23 = some ⟨oc23, od23, .func (PySem.W.fnOf "joined" "joined" (defArgs s_joined_worth) (defBody s_joined_worth) (defScope s_joined_worth) .none kV23 dc23 pm23 an23 cd23 ct23), sl23⟩)
  (c23 : PySem.W.codeIn K cd23 "joined" = true)
  (k23 : PySem.W.keepIn K (.ref f23) = true)
  (a24 : PySem.W.nsIn K mainGlobals "worth_of" = some (some (.ref f24)))
  (l24 : K.lookup f24 = some ⟨oc24, od24, .func (PySem.W.fnOf "worth_of" "worth_of" (defArgs s_worth_of) (defBody s_worth_of) (defScope s_worth_of) .none kV24 dc24 pm24 an24 cd24 ct24), sl24⟩)
  (c24 : PySem.W.codeIn K cd24 "worth_of" = true)
  (k24 : PySem.W.keepIn K (.ref f24) = true)
  (a25 : PySem.W.nsIn K mainGlobals "twice_in" = some (some (.ref f25)))
  (l25 : K.lookup f25 = some ⟨oc25, od25, .func (PySem.W.fnOf "twice_in" "twice_in" (defArgs s_twice_in) (defBody s_twice_in) (defScope s_twice_in) .none kV25 dc25 pm25 an25 cd25 ct25), sl25⟩)
  (c25 : PySem.W.codeIn K cd25 "twice_in" = true)
  (k25 : PySem.W.keepIn K (.ref f25) = true)
  (a26 : PySem.W.nsIn K mainGlobals "look_names" = some (some (.ref f26)))
  (l26 : K.lookup f26 = some ⟨oc26, od26, .func (PySem.W.fnOf "look_names" "look_names" (defArgs s_look_names) (defBody s_look_names) (defScope s_look_names) .none kV26 dc26 pm26 an26 cd26 ct26), sl26⟩)
  (c26 : PySem.W.codeIn K cd26 "look_names" = true)
  (k26 : PySem.W.keepIn K (.ref f26) = true)
  (a27 : PySem.W.nsIn K mainGlobals "degree_of" = some (some (.ref f27)))
  (l27 : K.lookup f27 = some ⟨oc27, od27, .func (PySem.W.fnOf "degree_of" "degree_of" (defArgs s_degree_of) (defBody s_degree_of) (defScope s_degree_of) .none kV27 dc27 pm27 an27 cd27 ct27), sl27⟩)
  (c27 : PySem.W.codeIn K cd27 "degree_of" = true)
  (k27 : PySem.W.keepIn K (.ref f27) = true)
  (a28 : PySem.W.findIn K (.ref C_Game) "__init__" = some (some (.ref f28)))
  (i28 : PySem.W.isFn K (.ref f28) = true)
  (l28 : K.lookup f28 = some ⟨oc28, od28, .func (PySem.W.fnOf "__init__" "Game.__init__" (defArgs s_Game___init__) (defBody s_Game___init__) (defScope s_Game___init__) .none kV28 dc28 pm28 an28 cd28 ct28), sl28⟩)
  (c28 : PySem.W.codeIn K cd28 "Game.__init__" = true)
  (k28 : PySem.W.keepIn K (.ref f28) = true)
  (a29 : PySem.W.findIn K (.ref C_Game) "mix" = some (some (.ref f29)))
  (i29 : PySem.W.isFn K (.ref f29) = true)
  (l29 : K.lookup f29 = some ⟨oc29, od29, .func (PySem.W.fnOf "mix" "Game.mix" (defArgs s_Game_mix) (defBody s_Game_mix) (defScope s_Game_mix) .none kV29 dc29 pm29 an29 cd29 ct29), sl29⟩)
  (c29 : PySem.W.codeIn K cd29 "Game.mix" = true)
  (k29 : PySem.W.keepIn K (.ref f29) = true)
  (a30 : PySem.W.findIn K (.ref C_Game) "worth_at" = some (some (.ref f30)))
  (i30 : PySem.W.isFn K (.ref f30) = true)
  (l30 : K.lookup f30 = some ⟨oc30, od30, .func (PySem.W.fnOf "worth_at" "Game.worth_at" (defArgs s_Game_worth_at) (defBody s_Game_worth_at) (defScope s_Game_worth_at) .none kV30 dc30 pm30 an30 cd30 ct30), sl30⟩)
  (c30 : PySem.W.codeIn K cd30 "Game.worth_at" = true)
  (k30 : PySem.W.keepIn K (.ref f30) = true)
  (a31 : PySem.W.findIn K (.ref C_Game) "coins" = some (some (.ref f31)))
  (i31 : PySem.W.isFn K (.ref f31) = true)
  (l31 : K.lookup f31 = some ⟨oc31, od31, .func (PySem.W.fnOf "coins" "Game.coins" (defArgs s_Game_coins) (defBody s_Game_coins) (defScope s_Game_coins) .none kV31 dc31 pm31 an31 cd31 ct31), sl31⟩)
  (c31 : PySem.W.codeIn K cd31 "Game.coins" = true)
  (k31 : PySem.W.keepIn K (.ref f31) = true)
  (a32 : PySem.W.nsIn K mainGlobals "_law_feed" = some (some (.ref f32)))
  (l32 : K.lookup f32 = some ⟨oc32, od32, .func (PySem.W.fnOf "_law_feed" "_law_feed" (defArgs s_law_feed) (defBody s_law_feed) (defScope s_law_feed) .none kV32 dc32 pm32 an32 cd32 ct32), sl32⟩)
  (c32 : PySem.W.codeIn K cd32 "_law_feed" = true)
  (k32 : PySem.W.keepIn K (.ref f32) = true)
  (a33 : PySem.W.nsIn K mainGlobals "_law_take" = some (some (.ref f33)))
  (l33 : K.lookup f33 = some ⟨oc33, od33, .func (PySem.W.fnOf "_law_take" "_law_take" (defArgs s_law_take) (defBody s_law_take) (defScope s_law_take) .none kV33 dc33 pm33 an33 cd33 ct33), sl33⟩)
  (c33 : PySem.W.codeIn K cd33 "_law_take" = true)
  (k33 : PySem.W.keepIn K (.ref f33) = true)
  (a34 : PySem.W.nsIn K mainGlobals "_law_names" = some (some (.ref f34)))
  (l34 : K.lookup f34 = some ⟨oc34, od34, .func (PySem.W.fnOf "_law_names" "_law_names" (defArgs s_law_names) (defBody s_law_names) (defScope s_law_names) .none kV34 dc34 pm34 an34 cd34 ct34), sl34⟩)
  (c34 : PySem.W.codeIn K cd34 "_law_names" = true)
  (k34 : PySem.W.keepIn K (.ref f34) = true)
  (a35 : PySem.W.nsIn K mainGlobals "_law_tree" = some (some (.ref f35)))
  (l35 : K.lookup f35 = some ⟨oc35, od35, .func (PySem.W.fnOf "_law_tree" "_law_tree" (defArgs s_law_tree) (defBody s_law_tree) (defScope s_law_tree) .none kV35 dc35 pm35 an35 cd35 ct35), sl35⟩)
  (c35 : PySem.W.codeIn K cd35 "_law_tree" = true)
  (k35 : PySem.W.keepIn K (.ref f35) = true)
  (a36 : PySem.W.nsIn K mainGlobals "_law_names_of" = some (some (.ref f36)))
  (l36 : K.lookup f36 = some ⟨oc36, od36, .func (PySem.W.fnOf "_law_names_of" "_law_names_of" (defArgs s_law_names_of) (defBody s_law_names_of) (defScope s_law_names_of) .none kV36 dc36 pm36 an36 cd36 ct36), sl36⟩)
  (c36 : PySem.W.codeIn K cd36 "_law_names_of" = true)
  (k36 : PySem.W.keepIn K (.ref f36) = true)
  (a37 : PySem.W.nsIn K mainGlobals "_law_need" = some (some (.ref f37)))
  (l37 : K.lookup f37 = some ⟨oc37, od37, .func (PySem.W.fnOf "_law_need" "_law_need" (defArgs s_law_need) (defBody s_law_need) (defScope s_law_need) .none kV37 dc37 pm37 an37 cd37 ct37), sl37⟩)
  (c37 : PySem.W.codeIn K cd37 "_law_need" = true)
  (k37 : PySem.W.keepIn K (.ref f37) = true)
  (a38 : PySem.W.nsIn K mainGlobals "_law_is_prime" = some (some (.ref f38)))
  (l38 : K.lookup f38 = some ⟨oc38, od38, .func (PySem.W.fnOf "_law_is_prime" "_law_is_prime" (defArgs s_law_is_prime) (defBody s_law_is_prime) (defScope s_law_is_prime) .none kV38 dc38 pm38 an38 cd38 ct38), sl38⟩)
  (c38 : PySem.W.codeIn K cd38 "_law_is_prime" = true)
  (k38 : PySem.W.keepIn K (.ref f38) = true)
  (a39 : PySem.W.nsIn K mainGlobals "_law_field" = some (some (.ref f39)))
  (l39 : K.lookup f39 = some ⟨oc39, od39, .func (PySem.W.fnOf "_law_field" "_law_field" (defArgs s_law_field) (defBody s_law_field) (defScope s_law_field) .none kV39 dc39 pm39 an39 cd39 ct39), sl39⟩)
  (c39 : PySem.W.codeIn K cd39 "_law_field" = true)
  (k39 : PySem.W.keepIn K (.ref f39) = true)
  (a40 : PySem.W.nsIn K mainGlobals "_law_game" = some (some (.ref f40)))
  (l40 : K.lookup f40 = some ⟨oc40, od40, .func (PySem.W.fnOf "_law_game" "_law_game" (defArgs s_law_game) (defBody s_law_game) (defScope s_law_game) .none kV40 dc40 pm40 an40 cd40 ct40), sl40⟩)
  (c40 : PySem.W.codeIn K cd40 "_law_game" = true)
  (k40 : PySem.W.keepIn K (.ref f40) = true)
  (a41 : PySem.W.nsIn K mainGlobals "_law_term" = some (some (.ref f41)))
  (l41 : K.lookup f41 = some ⟨oc41, od41, .func (PySem.W.fnOf "_law_term" "_law_term" (defArgs s_law_term) (defBody s_law_term) (defScope s_law_term) .none kV41 dc41 pm41 an41 cd41 ct41), sl41⟩)
  (c41 : PySem.W.codeIn K cd41 "_law_term" = true)
  (k41 : PySem.W.keepIn K (.ref f41) = true)
  (a42 : PySem.W.nsIn K mainGlobals "_law_helper" = some (some (.ref f42)))
  (l42 : K.lookup f42 = some ⟨oc42, od42, .func (PySem.W.fnOf "_law_helper" "_law_helper" (defArgs s_law_helper) (defBody s_law_helper) (defScope s_law_helper) .none kV42 dc42 pm42 an42 cd42 ct42), sl42⟩)
  (c42 : PySem.W.codeIn K cd42 "_law_helper" = true)
  (k42 : PySem.W.keepIn K (.ref f42) = true)
  (a43 : PySem.W.nsIn K mainGlobals "_law_liar" = some (some (.ref f43)))
  (l43 : K.lookup f43 = some ⟨oc43, od43, .func (PySem.W.fnOf "_law_liar" "_law_liar" (defArgs s_law_liar) (defBody s_law_liar) (defScope s_law_liar) .none kV43 dc43 pm43 an43 cd43 ct43), sl43⟩)
  (c43 : PySem.W.codeIn K cd43 "_law_liar" = true)
  (k43 : PySem.W.keepIn K (.ref f43) = true)
  (a44 : PySem.W.nsIn K mainGlobals "_law_degrees" = some (some (.ref f44)))
  (l44 : K.lookup f44 = some ⟨oc44, od44, .func (PySem.W.fnOf "_law_degrees" "_law_degrees" (defArgs s_law_degrees) (defBody s_law_degrees) (defScope s_law_degrees) .none kV44 dc44 pm44 an44 cd44 ct44), sl44⟩)
  (c44 : PySem.W.codeIn K cd44 "_law_degrees" = true)
  (k44 : PySem.W.keepIn K (.ref f44) = true)
  (a45 : PySem.W.nsIn K mainGlobals "_law_plan" = some (some (.ref f45)))
  (l45 : K.lookup f45 = some ⟨oc45, od45, .func (PySem.W.fnOf "_law_plan" "_law_plan" (defArgs s_law_plan) (defBody s_law_plan) (defScope s_law_plan) .none kV45 dc45 pm45 an45 cd45 ct45), sl45⟩)
  (c45 : PySem.W.codeIn K cd45 "_law_plan" = true)
  (k45 : PySem.W.keepIn K (.ref f45) = true)
  (a46 : PySem.W.nsIn K mainGlobals "_law_turned" = some (some (.ref f46)))
  (l46 : K.lookup f46 = some ⟨oc46, od46, .func (PySem.W.fnOf "_law_turned" "_law_turned" (defArgs s_law_turned) (defBody s_law_turned) (defScope s_law_turned) .none kV46 dc46 pm46 an46 cd46 ct46), sl46⟩)
  (c46 : PySem.W.codeIn K cd46 "_law_turned" = true)
  (k46 : PySem.W.keepIn K (.ref f46) = true)
  (a47 : PySem.W.nsIn K mainGlobals "_law_rows" = some (some (.ref f47)))
  (l47 : K.lookup f47 = some ⟨oc47, od47, .func (PySem.W.fnOf "_law_rows" "_law_rows" (defArgs s_law_rows) (defBody s_law_rows) (defScope s_law_rows) .none kV47 dc47 pm47 an47 cd47 ct47), sl47⟩)
  (c47 : PySem.W.codeIn K cd47 "_law_rows" = true)
  (k47 : PySem.W.keepIn K (.ref f47) = true)
  (a48 : PySem.W.nsIn K mainGlobals "_law_say" = some (some (.ref f48)))
  (l48 : K.lookup f48 = some ⟨oc48, od48, .func (PySem.W.fnOf "_law_say" "_law_say" (defArgs s_law_say) (defBody s_law_say) (defScope s_law_say) .none kV48 dc48 pm48 an48 cd48 ct48), sl48⟩)
  (c48 : PySem.W.codeIn K cd48 "_law_say" = true)
  (k48 : PySem.W.keepIn K (.ref f48) = true)
  (a49 : PySem.W.nsIn K mainGlobals "_law_fresh" = some (some (.ref f49)))
  (l49 : K.lookup f49 = some ⟨oc49, od49, .func (PySem.W.fnOf "_law_fresh" "_law_fresh" (defArgs s_law_fresh) (defBody s_law_fresh) (defScope s_law_fresh) .none kV49 dc49 pm49 an49 cd49 ct49), sl49⟩)
  (c49 : PySem.W.codeIn K cd49 "_law_fresh" = true)
  (k49 : PySem.W.keepIn K (.ref f49) = true)
  (a50 : PySem.W.nsIn K mainGlobals "_law_same_boxes" = some (some (.ref f50)))
  (l50 : K.lookup f50 = some ⟨oc50, od50, .func (PySem.W.fnOf "_law_same_boxes" "_law_same_boxes" (defArgs s_law_same_boxes) (defBody s_law_same_boxes) (defScope s_law_same_boxes) .none kV50 dc50 pm50 an50 cd50 ct50), sl50⟩)
  (c50 : PySem.W.codeIn K cd50 "_law_same_boxes" = true)
  (k50 : PySem.W.keepIn K (.ref f50) = true)
  (a51 : PySem.W.nsIn K mainGlobals "_law_all_alike" = some (some (.ref f51)))
  (l51 : K.lookup f51 = some ⟨oc51, od51, .func (PySem.W.fnOf "_law_all_alike" "_law_all_alike" (defArgs s_law_all_alike) (defBody s_law_all_alike) (defScope s_law_all_alike) .none kV51 dc51 pm51 an51 cd51 ct51), sl51⟩)
  (c51 : PySem.W.codeIn K cd51 "_law_all_alike" = true)
  (k51 : PySem.W.keepIn K (.ref f51) = true)
  (a52 : PySem.W.nsIn K mainGlobals "law" = some (some (.ref f52)))
  (l52 : K.lookup f52 = some ⟨oc52, od52, .func (PySem.W.fnOf "law" "law" (defArgs s_law) (defBody s_law) (defScope s_law) .none kV52 dc52 pm52 an52 cd52 ct52), sl52⟩)
  (c52 : PySem.W.codeIn K cd52 "law" = true)
  (k52 : PySem.W.keepIn K (.ref f52) = true)
  (pg_Round : PySem.W.plainGet K C_Round Str.empty = true) (hd_Round : PySem.W.hasDictIn K C_Round = true) (po_Round : PySem.W.plainOver K C_Round = true) (sa_Round : PySem.W.findIn K (.ref C_Round) "__setattr__" = some (some (.builtin "object.__setattr__"))) (mk_Round : PySem.W.makesIn K C_Round = true) (kc_Round : PySem.W.keepIn K (.ref C_Round) = true)
  (n_Round_game : PySem.W.findIn K (.ref C_Round) "game" = some none)
  (n_Round_number : PySem.W.findIn K (.ref C_Round) "number" = some none)
  (n_Round_many : PySem.W.findIn K (.ref C_Round) "many" = some none)
  (n_Round_held : PySem.W.findIn K (.ref C_Round) "held" = some none)
  (n_Round_mixed_by : PySem.W.findIn K (.ref C_Round) "mixed_by" = some none)
  (n_Round_tossed : PySem.W.findIn K (.ref C_Round) "tossed" = some none)
  (n_Round_truth : PySem.W.findIn K (.ref C_Round) "truth" = some none)
  (pg_Machine : PySem.W.plainGet K C_Machine Str.empty = true) (hd_Machine : PySem.W.hasDictIn K C_Machine = true) (po_Machine : PySem.W.plainOver K C_Machine = true) (sa_Machine : PySem.W.findIn K (.ref C_Machine) "__setattr__" = some (some (.builtin "object.__setattr__"))) (mk_Machine : PySem.W.makesIn K C_Machine = true) (kc_Machine : PySem.W.keepIn K (.ref C_Machine) = true)
  (n_Machine_game : PySem.W.findIn K (.ref C_Machine) "game" = some none)
  (n_Machine_helper : PySem.W.findIn K (.ref C_Machine) "helper" = some none)
  (n_Machine_boxes : PySem.W.findIn K (.ref C_Machine) "boxes" = some none)
  (n_Machine_rounds : PySem.W.findIn K (.ref C_Machine) "rounds" = some none)
  (pg_Game : PySem.W.plainGet K C_Game Str.empty = true) (hd_Game : PySem.W.hasDictIn K C_Game = true) (po_Game : PySem.W.plainOver K C_Game = true) (sa_Game : PySem.W.findIn K (.ref C_Game) "__setattr__" = some (some (.builtin "object.__setattr__"))) (mk_Game : PySem.W.makesIn K C_Game = true) (kc_Game : PySem.W.keepIn K (.ref C_Game) = true)
  (n_Game_switches : PySem.W.findIn K (.ref C_Game) "switches" = some none)
  (n_Game_trees : PySem.W.findIn K (.ref C_Game) "trees" = some none)
  (n_Game_field : PySem.W.findIn K (.ref C_Game) "field" = some none)
  (n_Game_degrees : PySem.W.findIn K (.ref C_Game) "degrees" = some none)
  (q_MOST_STEPS : PySem.W.nsIn K mainGlobals "MOST_STEPS" = some (some (.int 200 tk_MOST_STEPS)))
  (q_MOST_FIELD : PySem.W.nsIn K mainGlobals "MOST_FIELD" = some (some (.int 999999 tk_MOST_FIELD)))
  (z_range : PySem.W.nsIn K mainGlobals "range" = some none)
  (z_len : PySem.W.nsIn K mainGlobals "len" = some none)
  (z_list : PySem.W.nsIn K mainGlobals "list" = some none)
  (z_sum : PySem.W.nsIn K mainGlobals "sum" = some none)
  (z_tuple : PySem.W.nsIn K mainGlobals "tuple" = some none)
  (z_int : PySem.W.nsIn K mainGlobals "int" = some none)
  (z_dict : PySem.W.nsIn K mainGlobals "dict" = some none)
  (z_enumerate : PySem.W.nsIn K mainGlobals "enumerate" = some none)
  (z_max : PySem.W.nsIn K mainGlobals "max" = some none)
  (z_reversed : PySem.W.nsIn K mainGlobals "reversed" = some none)
  : ∃ fd : FuncData, (∀ (s : Shared) (v : Value), BindsTo s fd ⟨[v], []⟩ [("_law_script", v)]) ∧ ∀ base : Heap, K.In base → base.Ns mainGlobals mg → FnOk l.prog w K mg base CX0 44 fa fd ["_law_script"] (spLaw K) := by
  have e := hfa.symm.trans (PySem.W.mg_of X G a52)
  cases e
  have F0 := fun_mk (st := s_is_field) l0 c0 k0
  have F1 := fun_mk (st := s_inverse_of) l1 c1 k1
  have F2 := fun_mk (st := s_value_at) l2 c2 k2
  have F3 := fun_mk (st := s_all_settings) l3 c3 k3
  have F4 := fun_mk (st := s_joined_settings) l4 c4 k4
  have F5 := fun_mk (st := s_holds_at) l5 c5 k5
  have F6 := fun_mk (st := s_count_of) l6 c6 k6
  have F7 := fun_mk (st := s_inner_of) l7 c7 k7
  have F8 := fun_mk (st := s_names_in) l8 c8 k8
  have F9 := fun_mk (st := s_counts_of) l9 c9 k9
  have F10 := fun_mk (st := s_summed) l10 c10 k10
  have F11 := fun_mk (st := s_true_row) l11 c11 k11
  have F12 := fun_mk (st := s_op_of) l12 c12 k12
  have F13 := fun_mk (st := s_Round___init__) l13 c13 k13
  have F14 := fun_mk (st := s_Round_all_tossed) l14 c14 k14
  have F15 := fun_mk (st := s_Round_coin_at) l15 c15 k15
  have F16 := fun_mk (st := s_Round_true_at) l16 c16 k16
  have F17 := fun_mk (st := s_Round_worth) l17 c17 k17
  have F18 := fun_mk (st := s_Machine___init__) l18 c18 k18
  have F19 := fun_mk (st := s_Machine_box) l19 c19 k19
  have F20 := fun_mk (st := s_Machine_twin) l20 c20 k20
  have F21 := fun_mk (st := s_Machine_say) l21 c21 k21
  have F22 := fun_mk (st := s_Machine_step) l22 c22 k22
  have F23 := fun_mk (st := s_joined_worth) l23 c23 k23
  have F24 := fun_mk (st := s_worth_of) l24 c24 k24
  have F25 := fun_mk (st := s_twice_in) l25 c25 k25
  have F26 := fun_mk (st := s_look_names) l26 c26 k26
  have F27 := fun_mk (st := s_degree_of) l27 c27 k27
  have F28 := fun_mk (st := s_Game___init__) l28 c28 k28
  have F29 := fun_mk (st := s_Game_mix) l29 c29 k29
  have F30 := fun_mk (st := s_Game_worth_at) l30 c30 k30
  have F31 := fun_mk (st := s_Game_coins) l31 c31 k31
  have F32 := fun_mk (st := s_law_feed) l32 c32 k32
  have F33 := fun_mk (st := s_law_take) l33 c33 k33
  have F34 := fun_mk (st := s_law_names) l34 c34 k34
  have F35 := fun_mk (st := s_law_tree) l35 c35 k35
  have F36 := fun_mk (st := s_law_names_of) l36 c36 k36
  have F37 := fun_mk (st := s_law_need) l37 c37 k37
  have F38 := fun_mk (st := s_law_is_prime) l38 c38 k38
  have F39 := fun_mk (st := s_law_field) l39 c39 k39
  have F40 := fun_mk (st := s_law_game) l40 c40 k40
  have F41 := fun_mk (st := s_law_term) l41 c41 k41
  have F42 := fun_mk (st := s_law_helper) l42 c42 k42
  have F43 := fun_mk (st := s_law_liar) l43 c43 k43
  have F44 := fun_mk (st := s_law_degrees) l44 c44 k44
  have F45 := fun_mk (st := s_law_plan) l45 c45 k45
  have F46 := fun_mk (st := s_law_turned) l46 c46 k46
  have F47 := fun_mk (st := s_law_rows) l47 c47 k47
  have F48 := fun_mk (st := s_law_say) l48 c48 k48
  have F49 := fun_mk (st := s_law_fresh) l49 c49 k49
  have F50 := fun_mk (st := s_law_same_boxes) l50 c50 k50
  have F51 := fun_mk (st := s_law_all_alike) l51 c51 k51
  have F52 := fun_mk (st := s_law) l52 c52 k52
  have T : Tx K mg := {
    f_is_field := f0, d_is_field := _, F_is_field := F0,
    b_is_field := F0.binds (ps := ["number"]) (fun _ _ _ _ _ _ us hl => match us, hl with | [_], _ => rfl),
    g_is_field := PySem.W.mg_of X G a0,
    f_inverse_of := f1, d_inverse_of := _, F_inverse_of := F1,
    b_inverse_of := F1.binds (ps := ["a", "p"]) (fun _ _ _ _ _ _ us hl => match us, hl with | [_, _], _ => rfl),
    g_inverse_of := PySem.W.mg_of X G a1,
    f_value_at := f2, d_value_at := _, F_value_at := F2,
    b_value_at := F2.binds (ps := ["values", "r", "p"]) (fun _ _ _ _ _ _ us hl => match us, hl with | [_, _, _], _ => rfl),
    g_value_at := PySem.W.mg_of X G a2,
    f_all_settings := f3, d_all_settings := _, F_all_settings := F3,
    b_all_settings := F3.binds (ps := ["n"]) (fun _ _ _ _ _ _ us hl => match us, hl with | [_], _ => rfl),
    g_all_settings := PySem.W.mg_of X G a3,
    f_joined_settings := f4, d_joined_settings := _, F_joined_settings := F4,
    b_joined_settings := F4.binds (ps := ["word", "one", "other"]) (fun _ _ _ _ _ _ us hl => match us, hl with | [_, _, _], _ => rfl),
    g_joined_settings := PySem.W.mg_of X G a4,
    f_holds_at := f5, d_holds_at := _, F_holds_at := F5,
    b_holds_at := F5.binds (ps := ["tree", "switches", "setting"]) (fun _ _ _ _ _ _ us hl => match us, hl with | [_, _, _], _ => rfl),
    g_holds_at := PySem.W.mg_of X G a5,
    f_count_of := f6, d_count_of := _, F_count_of := F6,
    b_count_of := F6.binds (ps := ["tree", "switches"]) (fun _ _ _ _ _ _ us hl => match us, hl with | [_, _], _ => rfl),
    g_count_of := PySem.W.mg_of X G a6,
    f_inner_of := f7, d_inner_of := _, F_inner_of := F7,
    b_inner_of := F7.binds (ps := ["tree"]) (fun _ _ _ _ _ _ us hl => match us, hl with | [_], _ => rfl),
    g_inner_of := PySem.W.mg_of X G a7,
    f_names_in := f8, d_names_in := _, F_names_in := F8,
    b_names_in := F8.binds (ps := ["tree"]) (fun _ _ _ _ _ _ us hl => match us, hl with | [_], _ => rfl),
    g_names_in := PySem.W.mg_of X G a8,
    f_counts_of := f9, d_counts_of := _, F_counts_of := F9,
    b_counts_of := F9.binds (ps := ["game"]) (fun _ _ _ _ _ _ us hl => match us, hl with | [_], _ => rfl),
    g_counts_of := PySem.W.mg_of X G a9,
    f_summed := f10, d_summed := _, F_summed := F10,
    b_summed := F10.binds (ps := ["game", "s", "ahead", "behind"]) (fun _ _ _ _ _ _ us hl => match us, hl with | [_, _, _, _], _ => rfl),
    g_summed := PySem.W.mg_of X G a10,
    f_true_row := f11, d_true_row := _, F_true_row := F11,
    b_true_row := F11.binds (ps := ["game", "s", "coins"]) (fun _ _ _ _ _ _ us hl => match us, hl with | [_, _, _], _ => rfl),
    g_true_row := PySem.W.mg_of X G a11,
    f_op_of := f12, d_op_of := _, F_op_of := F12,
    b_op_of := F12.binds (ps := ["sign", "a", "b", "p"]) (fun _ _ _ _ _ _ us hl => match us, hl with | [_, _, _, _], _ => rfl),
    g_op_of := PySem.W.mg_of X G a12,
    f_Round___init__ := f13, d_Round___init__ := _, F_Round___init__ := F13,
    b_Round___init__ := F13.binds (ps := ["self", "game", "number", "many", "held", "s", "tossed"]) (fun _ _ _ _ _ _ us hl => match us, hl with | [_, _, _, _, _, _, _], _ => rfl),
    f_Round_all_tossed := f14, d_Round_all_tossed := _, F_Round_all_tossed := F14,
    b_Round_all_tossed := F14.binds (ps := ["self"]) (fun _ _ _ _ _ _ us hl => match us, hl with | [_], _ => rfl),
    f_Round_coin_at := f15, d_Round_coin_at := _, F_Round_coin_at := F15,
    b_Round_coin_at := F15.binds (ps := ["self", "at"]) (fun _ _ _ _ _ _ us hl => match us, hl with | [_, _], _ => rfl),
    f_Round_true_at := f16, d_Round_true_at := _, F_Round_true_at := F16,
    b_Round_true_at := F16.binds (ps := ["self", "at"]) (fun _ _ _ _ _ _ us hl => match us, hl with | [_, _], _ => rfl),
    f_Round_worth := f17, d_Round_worth := _, F_Round_worth := F17,
    b_Round_worth := F17.binds (ps := ["self", "term", "boxes"]) (fun _ _ _ _ _ _ us hl => match us, hl with | [_, _, _], _ => rfl),
    f_Machine___init__ := f18, d_Machine___init__ := _, F_Machine___init__ := F18,
    b_Machine___init__ := F18.binds (ps := ["self", "game", "helper"]) (fun _ _ _ _ _ _ us hl => match us, hl with | [_, _, _], _ => rfl),
    f_Machine_box := f19, d_Machine_box := _, F_Machine_box := F19,
    b_Machine_box := F19.binds (ps := ["self", "x"]) (fun _ _ _ _ _ _ us hl => match us, hl with | [_, _], _ => rfl),
    f_Machine_twin := f20, d_Machine_twin := _, F_Machine_twin := F20,
    b_Machine_twin := F20.binds (ps := ["self"]) (fun _ _ _ _ _ _ us hl => match us, hl with | [_], _ => rfl),
    f_Machine_say := f21, d_Machine_say := _, F_Machine_say := F21,
    b_Machine_say := F21.binds (ps := ["self", "many", "due", "s", "coins"]) (fun _ _ _ _ _ _ us hl => match us, hl with | [_, _, _, _, _], _ => rfl),
    f_Machine_step := f22, d_Machine_step := _, F_Machine_step := F22,
    b_Machine_step := F22.binds (ps := ["self", "now", "row", "at", "said"]) (fun _ _ _ _ _ _ us hl => match us, hl with | [_, _, _, _, _], _ => rfl),
    f_joined_worth := f23, d_joined_worth := _, F_joined_worth := F23,
    b_joined_worth := F23.binds (ps := ["word", "a", "b"]) (fun _ _ _ _ _ _ us hl => match us, hl with | [_, _, _], _ => rfl),
    g_joined_worth := PySem.W.mg_of X G a23,
    f_worth_of := f24, d_worth_of := _, F_worth_of := F24,
    b_worth_of := F24.binds (ps := ["tree", "switches", "point", "p"]) (fun _ _ _ _ _ _ us hl => match us, hl with | [_, _, _, _], _ => rfl),
    g_worth_of := PySem.W.mg_of X G a24,
    f_twice_in := f25, d_twice_in := _, F_twice_in := F25,
    b_twice_in := F25.binds (ps := ["switches"]) (fun _ _ _ _ _ _ us hl => match us, hl with | [_], _ => rfl),
    g_twice_in := PySem.W.mg_of X G a25,
    f_look_names := f26, d_look_names := _, F_look_names := F26,
    b_look_names := F26.binds (ps := ["switches", "trees"]) (fun _ _ _ _ _ _ us hl => match us, hl with | [_, _], _ => rfl),
    g_look_names := PySem.W.mg_of X G a26,
    f_degree_of := f27, d_degree_of := _, F_degree_of := F27,
    b_degree_of := F27.binds (ps := ["name", "trees"]) (fun _ _ _ _ _ _ us hl => match us, hl with | [_, _], _ => rfl),
    g_degree_of := PySem.W.mg_of X G a27,
    f_Game___init__ := f28, d_Game___init__ := _, F_Game___init__ := F28,
    b_Game___init__ := F28.binds (ps := ["self", "switches", "trees", "field"]) (fun _ _ _ _ _ _ us hl => match us, hl with | [_, _, _, _], _ => rfl),
    f_Game_mix := f29, d_Game_mix := _, F_Game_mix := F29,
    b_Game_mix := F29.binds (ps := ["self", "numbers", "s"]) (fun _ _ _ _ _ _ us hl => match us, hl with | [_, _, _], _ => rfl),
    f_Game_worth_at := f30, d_Game_worth_at := _, F_Game_worth_at := F30,
    b_Game_worth_at := F30.binds (ps := ["self", "point", "s"]) (fun _ _ _ _ _ _ us hl => match us, hl with | [_, _, _], _ => rfl),
    f_Game_coins := f31, d_Game_coins := _, F_Game_coins := F31,
    b_Game_coins := F31.binds (ps := ["self"]) (fun _ _ _ _ _ _ us hl => match us, hl with | [_], _ => rfl),
    f_law_feed := f32, d_law_feed := _, F_law_feed := F32,
    b_law_feed := F32.binds (ps := ["_law_script", "_law_k"]) (fun _ _ _ _ _ _ us hl => match us, hl with | [_, _], _ => rfl),
    g_law_feed := PySem.W.mg_of X G a32,
    f_law_take := f33, d_law_take := _, F_law_take := F33,
    b_law_take := F33.binds (ps := ["_law_feed_here", "_law_many"]) (fun _ _ _ _ _ _ us hl => match us, hl with | [_, _], _ => rfl),
    g_law_take := PySem.W.mg_of X G a33,
    f_law_names := f34, d_law_names := _, F_law_names := F34,
    b_law_names := F34.binds (ps := ["_law_feed_here", "_law_many"]) (fun _ _ _ _ _ _ us hl => match us, hl with | [_, _], _ => rfl),
    g_law_names := PySem.W.mg_of X G a34,
    f_law_tree := f35, d_law_tree := _, F_law_tree := F35,
    b_law_tree := F35.binds (ps := ["_law_feed_here", "_law_names_here", "_law_room", "_law_deep"]) (fun _ _ _ _ _ _ us hl => match us, hl with | [_, _, _, _], _ => rfl),
    g_law_tree := PySem.W.mg_of X G a35,
    f_law_names_of := f36, d_law_names_of := _, F_law_names_of := F36,
    b_law_names_of := F36.binds (ps := ["_law_tree_here"]) (fun _ _ _ _ _ _ us hl => match us, hl with | [_], _ => rfl),
    g_law_names_of := PySem.W.mg_of X G a36,
    f_law_need := f37, d_law_need := _, F_law_need := F37,
    b_law_need := F37.binds (ps := ["_law_names_here", "_law_trees"]) (fun _ _ _ _ _ _ us hl => match us, hl with | [_, _], _ => rfl),
    g_law_need := PySem.W.mg_of X G a37,
    f_law_is_prime := f38, d_law_is_prime := _, F_law_is_prime := F38,
    b_law_is_prime := F38.binds (ps := ["_law_number"]) (fun _ _ _ _ _ _ us hl => match us, hl with | [_], _ => rfl),
    g_law_is_prime := PySem.W.mg_of X G a38,
    f_law_field := f39, d_law_field := _, F_law_field := F39,
    b_law_field := F39.binds (ps := ["_law_feed_here", "_law_need_here"]) (fun _ _ _ _ _ _ us hl => match us, hl with | [_, _], _ => rfl),
    g_law_field := PySem.W.mg_of X G a39,
    f_law_game := f40, d_law_game := _, F_law_game := F40,
    b_law_game := F40.binds (ps := ["_law_feed_here", "_law_most", "_law_room"]) (fun _ _ _ _ _ _ us hl => match us, hl with | [_, _, _], _ => rfl),
    g_law_game := PySem.W.mg_of X G a40,
    f_law_term := f41, d_law_term := _, F_law_term := F41,
    b_law_term := F41.binds (ps := ["_law_feed_here", "_law_boxes", "_law_room", "_law_deep"]) (fun _ _ _ _ _ _ us hl => match us, hl with | [_, _, _, _], _ => rfl),
    g_law_term := PySem.W.mg_of X G a41,
    f_law_helper := f42, d_law_helper := _, F_law_helper := F42,
    b_law_helper := F42.binds (ps := ["_law_feed_here", "_law_boxes", "_law_most"]) (fun _ _ _ _ _ _ us hl => match us, hl with | [_, _, _], _ => rfl),
    g_law_helper := PySem.W.mg_of X G a42,
    f_law_liar := f43, d_law_liar := _, F_law_liar := F43,
    b_law_liar := F43.binds (ps := ["_law_feed_here", "_law_box"]) (fun _ _ _ _ _ _ us hl => match us, hl with | [_, _], _ => rfl),
    g_law_liar := PySem.W.mg_of X G a43,
    f_law_degrees := f44, d_law_degrees := _, F_law_degrees := F44,
    b_law_degrees := F44.binds (ps := ["_law_game_here"]) (fun _ _ _ _ _ _ us hl => match us, hl with | [_], _ => rfl),
    g_law_degrees := PySem.W.mg_of X G a44,
    f_law_plan := f45, d_law_plan := _, F_law_plan := F45,
    b_law_plan := F45.binds (ps := ["_law_feed_here", "_law_game_here"]) (fun _ _ _ _ _ _ us hl => match us, hl with | [_, _], _ => rfl),
    g_law_plan := PySem.W.mg_of X G a45,
    f_law_turned := f46, d_law_turned := _, F_law_turned := F46,
    b_law_turned := F46.binds (ps := ["_law_old", "_law_new", "_law_number"]) (fun _ _ _ _ _ _ us hl => match us, hl with | [_, _, _], _ => rfl),
    g_law_turned := PySem.W.mg_of X G a46,
    f_law_rows := f47, d_law_rows := _, F_law_rows := F47,
    b_law_rows := F47.binds (ps := ["_law_plan_here", "_law_game_here"]) (fun _ _ _ _ _ _ us hl => match us, hl with | [_, _], _ => rfl),
    g_law_rows := PySem.W.mg_of X G a47,
    f_law_say := f48, d_law_say := _, F_law_say := F48,
    b_law_say := F48.binds (ps := ["_law_machine", "_law_row"]) (fun _ _ _ _ _ _ us hl => match us, hl with | [_, _], _ => rfl),
    g_law_say := PySem.W.mg_of X G a48,
    f_law_fresh := f49, d_law_fresh := _, F_law_fresh := F49,
    b_law_fresh := F49.binds (ps := ["_law_game_here", "_law_helper_here", "_law_rows_here"]) (fun _ _ _ _ _ _ us hl => match us, hl with | [_, _, _], _ => rfl),
    g_law_fresh := PySem.W.mg_of X G a49,
    f_law_same_boxes := f50, d_law_same_boxes := _, F_law_same_boxes := F50,
    b_law_same_boxes := F50.binds (ps := ["_law_one", "_law_other", "_law_names_here"]) (fun _ _ _ _ _ _ us hl => match us, hl with | [_, _, _], _ => rfl),
    g_law_same_boxes := PySem.W.mg_of X G a50,
    f_law_all_alike := f51, d_law_all_alike := _, F_law_all_alike := F51,
    b_law_all_alike := F51.binds (ps := ["_law_some", "_law_game_here", "_law_helper_here", "_law_names_here"]) (fun _ _ _ _ _ _ us hl => match us, hl with | [_, _, _, _], _ => rfl),
    g_law_all_alike := PySem.W.mg_of X G a51,
    f_law := _, d_law := _, F_law := F52,
    b_law := F52.binds (ps := ["_law_script"]) (fun _ _ _ _ _ _ us hl => match us, hl with | [_], _ => rfl),
    g_law := PySem.W.mg_of X G a52,
    C_Round := C_Round, gC_Round := PySem.W.mg_of X G aC_Round, cl_Round := ⟨pg_Round, hd_Round, po_Round, sa_Round⟩,
    mk_Round := ⟨mk_Round, a13, i13, kc_Round⟩,
    m_Round_all_tossed := ⟨a14, i14, k14⟩,
    m_Round_coin_at := ⟨a15, i15, k15⟩,
    m_Round_true_at := ⟨a16, i16, k16⟩,
    m_Round_worth := ⟨a17, i17, k17⟩,
    n_Round_game := n_Round_game,
    n_Round_number := n_Round_number,
    n_Round_many := n_Round_many,
    n_Round_held := n_Round_held,
    n_Round_mixed_by := n_Round_mixed_by,
    n_Round_tossed := n_Round_tossed,
    n_Round_truth := n_Round_truth,
    C_Machine := C_Machine, gC_Machine := PySem.W.mg_of X G aC_Machine, cl_Machine := ⟨pg_Machine, hd_Machine, po_Machine, sa_Machine⟩,
    mk_Machine := ⟨mk_Machine, a18, i18, kc_Machine⟩,
    m_Machine_box := ⟨a19, i19, k19⟩,
    m_Machine_twin := ⟨a20, i20, k20⟩,
    m_Machine_say := ⟨a21, i21, k21⟩,
    m_Machine_step := ⟨a22, i22, k22⟩,
    n_Machine_game := n_Machine_game,
    n_Machine_helper := n_Machine_helper,
    n_Machine_boxes := n_Machine_boxes,
    n_Machine_rounds := n_Machine_rounds,
    C_Game := C_Game, gC_Game := PySem.W.mg_of X G aC_Game, cl_Game := ⟨pg_Game, hd_Game, po_Game, sa_Game⟩,
    mk_Game := ⟨mk_Game, a28, i28, kc_Game⟩,
    m_Game_mix := ⟨a29, i29, k29⟩,
    m_Game_worth_at := ⟨a30, i30, k30⟩,
    m_Game_coins := ⟨a31, i31, k31⟩,
    n_Game_switches := n_Game_switches,
    n_Game_trees := n_Game_trees,
    n_Game_field := n_Game_field,
    n_Game_degrees := n_Game_degrees,
    c_MOST_STEPS := ⟨_, PySem.W.mg_of X G q_MOST_STEPS⟩,
    c_MOST_FIELD := ⟨_, PySem.W.mg_of X G q_MOST_FIELD⟩,
    z_range := PySem.W.mg_none_of X G z_range,
    z_len := PySem.W.mg_none_of X G z_len,
    z_list := PySem.W.mg_none_of X G z_list,
    z_sum := PySem.W.mg_none_of X G z_sum,
    z_tuple := PySem.W.mg_none_of X G z_tuple,
    z_int := PySem.W.mg_none_of X G z_int,
    z_dict := PySem.W.mg_none_of X G z_dict,
    z_enumerate := PySem.W.mg_none_of X G z_enumerate,
    z_max := PySem.W.mg_none_of X G z_max,
    z_reversed := PySem.W.mg_none_of X G z_reversed }
  exact ⟨_, fun s v => .of_eq rfl, fun base _ _ => ok_law T F52⟩
end My
open PySem PySem.W PyProof.Rows in
set_option maxRecDepth 100000 in
set_option maxHeartbeats 0 in
theorem PySem.Challenge.cw_asktally_k37_twins_go_on_by_themselves_holds : PySem.Challenge.rw_asktally_k37_twins_go_on_by_themselves.Holds := by
  w_on; o_law; k_head; (case hw => w_witness2)
  k_fill
  refine L2.walk_of (l := PySem.Challenge.rw_asktally_k37_twins_go_on_by_themselves) (n := 63) (k := 44) (x := "_law_script") (CX := fun _ => L2.CX0) (sp := fun w => My.spLaw _) rfl (by decide) rfl ⟨rfl, by decide, by decide⟩ (fun w h Y => PySem.W.kIn_of Y) ?F (fun _ _ a ns hl _ hS => ⟨a, ns, rfl, hS, hl, fun _ => rfl⟩) (fun _ _ _ _ _ h => h)
  case F =>
    intro w mg fa h KX G hmg
    refine' My.all_mk KX G hmg ?aC_Round ?aC_Machine ?aC_Game ?a0 ?l0 ?c0 ?k0 ?a1 ?l1 ?c1 ?k1 ?a2 ?l2 ?c2 ?k2 ?a3 ?l3 ?c3 ?k3 ?a4 ?l4 ?c4 ?k4 ?a5 ?l5 ?c5 ?k5 ?a6 ?l6 ?c6 ?k6 ?a7 ?l7 ?c7 ?k7 ?a8 ?l8 ?c8 ?k8 ?a9 ?l9 ?c9 ?k9 ?a10 ?l10 ?c10 ?k10 ?a11 ?l11 ?c11 ?k11 ?a12 ?l12 ?c12 ?k12 ?a13 ?i13 ?l13 ?c13 ?k13 ?a14 ?i14 ?l14 ?c14 ?k14 ?a15 ?i15 ?l15 ?c15 ?k15 ?a16 ?i16 ?l16 ?c16 ?k16 ?a17 ?i17 ?l17 ?c17 ?k17 ?a18 ?i18 ?l18 ?c18 ?k18 ?a19 ?i19 ?l19 ?c19 ?k19 ?a20 ?i20 ?l20 ?c20 ?k20 ?a21 ?i21 ?l21 ?c21 ?k21 ?a22 ?i22 ?l22 ?c22 ?k22 ?a23 ?l23 ?c23 ?k23 ?a24 ?l24 ?c24 ?k24 ?a25 ?l25 ?c25 ?k25 ?a26 ?l26 ?c26 ?k26 ?a27 ?l27 ?c27 ?k27 ?a28 ?i28 ?l28 ?c28 ?k28 ?a29 ?i29 ?l29 ?c29 ?k29 ?a30 ?i30 ?l30 ?c30 ?k30 ?a31 ?i31 ?l31 ?c31 ?k31 ?a32 ?l32 ?c32 ?k32 ?a33 ?l33 ?c33 ?k33 ?a34 ?l34 ?c34 ?k34 ?a35 ?l35 ?c35 ?k35 ?a36 ?l36 ?c36 ?k36 ?a37 ?l37 ?c37 ?k37 ?a38 ?l38 ?c38 ?k38 ?a39 ?l39 ?c39 ?k39 ?a40 ?l40 ?c40 ?k40 ?a41 ?l41 ?c41 ?k41 ?a42 ?l42 ?c42 ?k42 ?a43 ?l43 ?c43 ?k43 ?a44 ?l44 ?c44 ?k44 ?a45 ?l45 ?c45 ?k45 ?a46 ?l46 ?c46 ?k46 ?a47 ?l47 ?c47 ?k47 ?a48 ?l48 ?c48 ?k48 ?a49 ?l49 ?c49 ?k49 ?a50 ?l50 ?c50 ?k50 ?a51 ?l51 ?c51 ?k51 ?a52 ?l52 ?c52 ?k52 ?pg_Round ?hd_Round ?po_Round ?sa_Round ?mk_Round ?kc_Round ?n_Round_game ?n_Round_number ?n_Round_many ?n_Round_held ?n_Round_mixed_by ?n_Round_tossed ?n_Round_truth ?pg_Machine ?hd_Machine ?po_Machine ?sa_Machine ?mk_Machine ?kc_Machine ?n_Machine_game ?n_Machine_helper ?n_Machine_boxes ?n_Machine_rounds ?pg_Game ?hd_Game ?po_Game ?sa_Game ?mk_Game ?kc_Game ?n_Game_switches ?n_Game_trees ?n_Game_field ?n_Game_degrees ?q_MOST_STEPS ?q_MOST_FIELD ?z_range ?z_len ?z_list ?z_sum ?z_tuple ?z_int ?z_dict ?z_enumerate ?z_max ?z_reversed
    (case aC_Round => k_is)
    (case aC_Machine => k_is)
    (case aC_Game => k_is)
    (case a0 => k_is)
    (case l0 => k_is)
    (case c0 => k_is)
    (case k0 => k_is)
    (case a1 => k_is)
    (case l1 => k_is)
    (case c1 => k_is)
    (case k1 => k_is)
    (case a2 => k_is)
    (case l2 => k_is)
    (case c2 => k_is)
    (case k2 => k_is)
    (case a3 => k_is)
    (case l3 => k_is)
    (case c3 => k_is)
    (case k3 => k_is)
    (case a4 => k_is)
    (case l4 => k_is)
    (case c4 => k_is)
    (case k4 => k_is)
    (case a5 => k_is)
    (case l5 => k_is)
    (case c5 => k_is)
    (case k5 => k_is)
    (case a6 => k_is)
    (case l6 => k_is)
    (case c6 => k_is)
    (case k6 => k_is)
    (case a7 => k_is)
    (case l7 => k_is)
    (case c7 => k_is)
    (case k7 => k_is)
    (case a8 => k_is)
    (case l8 => k_is)
    (case c8 => k_is)
    (case k8 => k_is)
    (case a9 => k_is)
    (case l9 => k_is)
    (case c9 => k_is)
    (case k9 => k_is)
    (case a10 => k_is)
    (case l10 => k_is)
    (case c10 => k_is)
    (case k10 => k_is)
    (case a11 => k_is)
    (case l11 => k_is)
    (case c11 => k_is)
    (case k11 => k_is)
    (case a12 => k_is)
    (case l12 => k_is)
    (case c12 => k_is)
    (case k12 => k_is)
    (case a13 => k_is)
    (case i13 => k_is)
    (case l13 => k_is)
    (case c13 => k_is)
    (case k13 => k_is)
    (case a14 => k_is)
    (case i14 => k_is)
    (case l14 => k_is)
    (case c14 => k_is)
    (case k14 => k_is)
    (case a15 => k_is)
    (case i15 => k_is)
    (case l15 => k_is)
    (case c15 => k_is)
    (case k15 => k_is)
    (case a16 => k_is)
    (case i16 => k_is)
    (case l16 => k_is)
    (case c16 => k_is)
    (case k16 => k_is)
    (case a17 => k_is)
    (case i17 => k_is)
    (case l17 => k_is)
    (case c17 => k_is)
    (case k17 => k_is)
    (case a18 => k_is)
    (case i18 => k_is)
    (case l18 => k_is)
    (case c18 => k_is)
    (case k18 => k_is)
    (case a19 => k_is)
    (case i19 => k_is)
    (case l19 => k_is)
    (case c19 => k_is)
    (case k19 => k_is)
    (case a20 => k_is)
    (case i20 => k_is)
    (case l20 => k_is)
    (case c20 => k_is)
    (case k20 => k_is)
    (case a21 => k_is)
    (case i21 => k_is)
    (case l21 => k_is)
    (case c21 => k_is)
    (case k21 => k_is)
    (case a22 => k_is)
    (case i22 => k_is)
    (case l22 => k_is)
    (case c22 => k_is)
    (case k22 => k_is)
    (case a23 => k_is)
    (case l23 => k_is)
    (case c23 => k_is)
    (case k23 => k_is)
    (case a24 => k_is)
    (case l24 => k_is)
    (case c24 => k_is)
    (case k24 => k_is)
    (case a25 => k_is)
    (case l25 => k_is)
    (case c25 => k_is)
    (case k25 => k_is)
    (case a26 => k_is)
    (case l26 => k_is)
    (case c26 => k_is)
    (case k26 => k_is)
    (case a27 => k_is)
    (case l27 => k_is)
    (case c27 => k_is)
    (case k27 => k_is)
    (case a28 => k_is)
    (case i28 => k_is)
    (case l28 => k_is)
    (case c28 => k_is)
    (case k28 => k_is)
    (case a29 => k_is)
    (case i29 => k_is)
    (case l29 => k_is)
    (case c29 => k_is)
    (case k29 => k_is)
    (case a30 => k_is)
    (case i30 => k_is)
    (case l30 => k_is)
    (case c30 => k_is)
    (case k30 => k_is)
    (case a31 => k_is)
    (case i31 => k_is)
    (case l31 => k_is)
    (case c31 => k_is)
    (case k31 => k_is)
    (case a32 => k_is)
    (case l32 => k_is)
    (case c32 => k_is)
    (case k32 => k_is)
    (case a33 => k_is)
    (case l33 => k_is)
    (case c33 => k_is)
    (case k33 => k_is)
    (case a34 => k_is)
    (case l34 => k_is)
    (case c34 => k_is)
    (case k34 => k_is)
    (case a35 => k_is)
    (case l35 => k_is)
    (case c35 => k_is)
    (case k35 => k_is)
    (case a36 => k_is)
    (case l36 => k_is)
    (case c36 => k_is)
    (case k36 => k_is)
    (case a37 => k_is)
    (case l37 => k_is)
    (case c37 => k_is)
    (case k37 => k_is)
    (case a38 => k_is)
    (case l38 => k_is)
    (case c38 => k_is)
    (case k38 => k_is)
    (case a39 => k_is)
    (case l39 => k_is)
    (case c39 => k_is)
    (case k39 => k_is)
    (case a40 => k_is)
    (case l40 => k_is)
    (case c40 => k_is)
    (case k40 => k_is)
    (case a41 => k_is)
    (case l41 => k_is)
    (case c41 => k_is)
    (case k41 => k_is)
    (case a42 => k_is)
    (case l42 => k_is)
    (case c42 => k_is)
    (case k42 => k_is)
    (case a43 => k_is)
    (case l43 => k_is)
    (case c43 => k_is)
    (case k43 => k_is)
    (case a44 => k_is)
    (case l44 => k_is)
    (case c44 => k_is)
    (case k44 => k_is)
    (case a45 => k_is)
    (case l45 => k_is)
    (case c45 => k_is)
    (case k45 => k_is)
    (case a46 => k_is)
    (case l46 => k_is)
    (case c46 => k_is)
    (case k46 => k_is)
    (case a47 => k_is)
    (case l47 => k_is)
    (case c47 => k_is)
    (case k47 => k_is)
    (case a48 => k_is)
    (case l48 => k_is)
    (case c48 => k_is)
    (case k48 => k_is)
    (case a49 => k_is)
    (case l49 => k_is)
    (case c49 => k_is)
    (case k49 => k_is)
    (case a50 => k_is)
    (case l50 => k_is)
    (case c50 => k_is)
    (case k50 => k_is)
    (case a51 => k_is)
    (case l51 => k_is)
    (case c51 => k_is)
    (case k51 => k_is)
    (case a52 => k_is)
    (case l52 => k_is)
    (case c52 => k_is)
    (case k52 => k_is)
    (case pg_Round => k_is)
    (case hd_Round => k_is)
    (case po_Round => k_is)
    (case sa_Round => k_is)
    (case mk_Round => k_is)
    (case kc_Round => k_is)
    (case n_Round_game => k_is)
    (case n_Round_number => k_is)
    (case n_Round_many => k_is)
    (case n_Round_held => k_is)
    (case n_Round_mixed_by => k_is)
    (case n_Round_tossed => k_is)
    (case n_Round_truth => k_is)
    (case pg_Machine => k_is)
    (case hd_Machine => k_is)
    (case po_Machine => k_is)
    (case sa_Machine => k_is)
    (case mk_Machine => k_is)
    (case kc_Machine => k_is)
    (case n_Machine_game => k_is)
    (case n_Machine_helper => k_is)
    (case n_Machine_boxes => k_is)
    (case n_Machine_rounds => k_is)
    (case pg_Game => k_is)
    (case hd_Game => k_is)
    (case po_Game => k_is)
    (case sa_Game => k_is)
    (case mk_Game => k_is)
    (case kc_Game => k_is)
    (case n_Game_switches => k_is)
    (case n_Game_trees => k_is)
    (case n_Game_field => k_is)
    (case n_Game_degrees => k_is)
    (case q_MOST_STEPS => k_is)
    (case q_MOST_FIELD => k_is)
    (case z_range => k_is)
    (case z_len => k_is)
    (case z_list => k_is)
    (case z_sum => k_is)
    (case z_tuple => k_is)
    (case z_int => k_is)
    (case z_dict => k_is)
    (case z_enumerate => k_is)
    (case z_max => k_is)
    (case z_reversed => k_is)
