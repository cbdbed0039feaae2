import PyProof.Rows.All
import Wide.All
import OpenK.AllK
import Wide.FinOn
import KE.KStateDown
import Lean
import HandS.ForMost
import HandS.Defaults
import HandS.Head0
import HandS.Head1
import HandS.Head2
import HandS.HeadEnd
import HandS.HeadHook1
import HandS.HeadHook2
import HandS.HeadHook3
import HandS.HeadHook4
import HandS.HeadWalk
import HandS.Nested
import HandS.ForExc
import HandS.Walk
import HandS.Evl
import HandS.Wide
import HandS.IsInst
import HandS.Deep
import HandS.Conv
import HandS.More
import HandS.SortRule
import HandS.RevRange
import HandS.TupSets
import HandS.DictTup
import HandS.EndTab
import PySem.Challenge.RW_ringheaps_k96_whole_plays_of_players
set_option Elab.async false
set_option linter.all false
set_option maxRecDepth 100000
set_option maxHeartbeats 4000000
/-! K96T: the text by places, the facts that the walk asks of the top. Printed by gen_text.py. -/
namespace K96
open PySem PySem.Spec PyProof.Rows L2
def top (i : Nat) : Stmt := PySem.Challenge.pw_ringheaps_k96_whole_plays_of_players.main.body.getD i (.Pass ⟨0, 0, 0, 0⟩)

abbrev s_summed : Stmt := top 3
abbrev s_lacking : Stmt := top 4
abbrev s_set_of : Stmt := top 5
abbrev s_numbers_in : Stmt := top 6
abbrev s_set_turned : Stmt := top 7
abbrev s_is_whole : Stmt := top 22
abbrev s_is_name : Stmt := top 23
abbrev s_need_heap : Stmt := top 26
abbrev s_moves_of : Stmt := top 27
abbrev s_is_over : Stmt := top 28
abbrev s_is_move : Stmt := top 29
abbrev s_after : Stmt := top 30
abbrev s_Numbered_init : Stmt := inClass (top 34) 0
abbrev s_Numbered_plus : Stmt := inClass (top 34) 3
abbrev s_Numbered_outcome : Stmt := inClass (top 34) 4
abbrev s_Endless_init : Stmt := inClass (top 35) 0
abbrev s_Endless_plus : Stmt := inClass (top 35) 3
abbrev s_Endless_outcome : Stmt := inClass (top 35) 4
abbrev s_sum_of : Stmt := top 36
abbrev s_leads_back : Stmt := top 38
abbrev s_gets_it : Stmt := top 39
abbrev s_rounds_with_numbers : Stmt := top 40
abbrev s_numbers_beside : Stmt := top 41
abbrev s_labels_of : Stmt := top 42
abbrev s_open_road : Stmt := top 43
abbrev s_worth_by : Stmt := top 45
abbrev s_worth_in : Stmt := top 46
abbrev s_heap_worth : Stmt := top 47
abbrev s_outcome : Stmt := top 48
abbrev s_labels_for : Stmt := top 50
abbrev s_need_outcome : Stmt := top 51
abbrev s_moves_to_lost : Stmt := top 52
abbrev s_steps_of : Stmt := top 53
abbrev s_best_move : Stmt := top 54
abbrev s_most_moves : Stmt := top 55
abbrev s_endless_tokens : Stmt := top 57
abbrev s_numbered_sum : Stmt := top 58
abbrev s_to_endless : Stmt := top 59
abbrev s_to_sum : Stmt := top 60
abbrev s_drawn_move : Stmt := top 61
abbrev s_player : Stmt := top 62
abbrev s_is_row : Stmt := top 66
abbrev s_need_unlike : Stmt := top 67
abbrev s_need_places : Stmt := top 68
abbrev s_Ground_init : Stmt := inClass (top 69) 0
abbrev s_Ground_names : Stmt := inClass (top 69) 1
abbrev s_Ground_roads_from : Stmt := inClass (top 69) 2
abbrev s_row_in : Stmt := top 71
abbrev s_read_ground : Stmt := top 72
abbrev s_played : Stmt := top 74
abbrev s_walk : Stmt := top 75
abbrev s_made_so : Stmt := top 77
abbrev s_table_of : Stmt := top 78
abbrev s_best_moves : Stmt := top 79
abbrev s__law_cell_at : Stmt := top 81
abbrev s__law_source : Stmt := top 82
abbrev s__law_take : Stmt := top 83
abbrev s__law_names : Stmt := top 84
abbrev s__law_leads : Stmt := top 85
abbrev s__law_rows : Stmt := top 86
abbrev s__law_opponent : Stmt := top 88
abbrev s__law_walked : Stmt := top 89
abbrev s__law_drawn_right : Stmt := top 90
abbrev s__law_right : Stmt := top 91
abbrev s__law_single_right : Stmt := top 92
abbrev s_law : Stmt := top 93
/-! ### where each def stands -/
def d_summed : He.DefD := ⟨("summed", none), "summed", "summed", defArgs s_summed, defBody s_summed, defScope s_summed, [], []⟩
def d_lacking : He.DefD := ⟨("lacking", none), "lacking", "lacking", defArgs s_lacking, defBody s_lacking, defScope s_lacking, [], []⟩
def d_set_of : He.DefD := ⟨("set_of", none), "set_of", "set_of", defArgs s_set_of, defBody s_set_of, defScope s_set_of, [], []⟩
def d_numbers_in : He.DefD := ⟨("numbers_in", none), "numbers_in", "numbers_in", defArgs s_numbers_in, defBody s_numbers_in, defScope s_numbers_in, [], []⟩
def d_set_turned : He.DefD := ⟨("set_turned", none), "set_turned", "set_turned", defArgs s_set_turned, defBody s_set_turned, defScope s_set_turned, [], []⟩
def d_is_whole : He.DefD := ⟨("is_whole", none), "is_whole", "is_whole", defArgs s_is_whole, defBody s_is_whole, defScope s_is_whole, [], []⟩
def d_is_name : He.DefD := ⟨("is_name", none), "is_name", "is_name", defArgs s_is_name, defBody s_is_name, defScope s_is_name, [], []⟩
def d_need_heap : He.DefD := ⟨("need_heap", none), "need_heap", "need_heap", defArgs s_need_heap, defBody s_need_heap, defScope s_need_heap, [], []⟩
def d_moves_of : He.DefD := ⟨("moves_of", none), "moves_of", "moves_of", defArgs s_moves_of, defBody s_moves_of, defScope s_moves_of, [], []⟩
def d_is_over : He.DefD := ⟨("is_over", none), "is_over", "is_over", defArgs s_is_over, defBody s_is_over, defScope s_is_over, [], []⟩
def d_is_move : He.DefD := ⟨("is_move", none), "is_move", "is_move", defArgs s_is_move, defBody s_is_move, defScope s_is_move, [], []⟩
def d_after : He.DefD := ⟨("after", none), "after", "after", defArgs s_after, defBody s_after, defScope s_after, [], []⟩
def d_Numbered_init : He.DefD := ⟨("Numbered", some "__init__"), "__init__", "Numbered.__init__", defArgs s_Numbered_init, defBody s_Numbered_init, defScope s_Numbered_init, [], []⟩
def d_Numbered_plus : He.DefD := ⟨("Numbered", some "plus"), "plus", "Numbered.plus", defArgs s_Numbered_plus, defBody s_Numbered_plus, defScope s_Numbered_plus, [], []⟩
def d_Numbered_outcome : He.DefD := ⟨("Numbered", some "outcome"), "outcome", "Numbered.outcome", defArgs s_Numbered_outcome, defBody s_Numbered_outcome, defScope s_Numbered_outcome, [], []⟩
def d_Endless_init : He.DefD := ⟨("Endless", some "__init__"), "__init__", "Endless.__init__", defArgs s_Endless_init, defBody s_Endless_init, defScope s_Endless_init, [], []⟩
def d_Endless_plus : He.DefD := ⟨("Endless", some "plus"), "plus", "Endless.plus", defArgs s_Endless_plus, defBody s_Endless_plus, defScope s_Endless_plus, [], []⟩
def d_Endless_outcome : He.DefD := ⟨("Endless", some "outcome"), "outcome", "Endless.outcome", defArgs s_Endless_outcome, defBody s_Endless_outcome, defScope s_Endless_outcome, [], []⟩
def d_sum_of : He.DefD := ⟨("sum_of", none), "sum_of", "sum_of", defArgs s_sum_of, defBody s_sum_of, defScope s_sum_of, [], []⟩
def d_leads_back : He.DefD := ⟨("leads_back", none), "leads_back", "leads_back", defArgs s_leads_back, defBody s_leads_back, defScope s_leads_back, [], []⟩
def d_gets_it : He.DefD := ⟨("gets_it", none), "gets_it", "gets_it", defArgs s_gets_it, defBody s_gets_it, defScope s_gets_it, [], []⟩
def d_rounds_with_numbers : He.DefD := ⟨("rounds_with_numbers", none), "rounds_with_numbers", "rounds_with_numbers", defArgs s_rounds_with_numbers, defBody s_rounds_with_numbers, defScope s_rounds_with_numbers, [], []⟩
def d_numbers_beside : He.DefD := ⟨("numbers_beside", none), "numbers_beside", "numbers_beside", defArgs s_numbers_beside, defBody s_numbers_beside, defScope s_numbers_beside, [], []⟩
def d_labels_of : He.DefD := ⟨("labels_of", none), "labels_of", "labels_of", defArgs s_labels_of, defBody s_labels_of, defScope s_labels_of, [], []⟩
def d_open_road : He.DefD := ⟨("open_road", none), "open_road", "open_road", defArgs s_open_road, defBody s_open_road, defScope s_open_road, [], []⟩
def d_worth_by : He.DefD := ⟨("worth_by", none), "worth_by", "worth_by", defArgs s_worth_by, defBody s_worth_by, defScope s_worth_by, [], []⟩
def d_worth_in : He.DefD := ⟨("worth_in", none), "worth_in", "worth_in", defArgs s_worth_in, defBody s_worth_in, defScope s_worth_in, [], []⟩
def d_heap_worth : He.DefD := ⟨("heap_worth", none), "heap_worth", "heap_worth", defArgs s_heap_worth, defBody s_heap_worth, defScope s_heap_worth, [], []⟩
def d_outcome : He.DefD := ⟨("outcome", none), "outcome", "outcome", defArgs s_outcome, defBody s_outcome, defScope s_outcome, [], []⟩
def d_labels_for : He.DefD := ⟨("labels_for", none), "labels_for", "labels_for", defArgs s_labels_for, defBody s_labels_for, defScope s_labels_for, [], []⟩
def d_need_outcome : He.DefD := ⟨("need_outcome", none), "need_outcome", "need_outcome", defArgs s_need_outcome, defBody s_need_outcome, defScope s_need_outcome, [], []⟩
def d_moves_to_lost : He.DefD := ⟨("moves_to_lost", none), "moves_to_lost", "moves_to_lost", defArgs s_moves_to_lost, defBody s_moves_to_lost, defScope s_moves_to_lost, [], []⟩
def d_steps_of : He.DefD := ⟨("steps_of", none), "steps_of", "steps_of", defArgs s_steps_of, defBody s_steps_of, defScope s_steps_of, [], []⟩
def d_best_move : He.DefD := ⟨("best_move", none), "best_move", "best_move", defArgs s_best_move, defBody s_best_move, defScope s_best_move, [], []⟩
def d_most_moves : He.DefD := ⟨("most_moves", none), "most_moves", "most_moves", defArgs s_most_moves, defBody s_most_moves, defScope s_most_moves, [], []⟩
def d_endless_tokens : He.DefD := ⟨("endless_tokens", none), "endless_tokens", "endless_tokens", defArgs s_endless_tokens, defBody s_endless_tokens, defScope s_endless_tokens, [], []⟩
def d_numbered_sum : He.DefD := ⟨("numbered_sum", none), "numbered_sum", "numbered_sum", defArgs s_numbered_sum, defBody s_numbered_sum, defScope s_numbered_sum, [], []⟩
def d_to_endless : He.DefD := ⟨("to_endless", none), "to_endless", "to_endless", defArgs s_to_endless, defBody s_to_endless, defScope s_to_endless, [], []⟩
def d_to_sum : He.DefD := ⟨("to_sum", none), "to_sum", "to_sum", defArgs s_to_sum, defBody s_to_sum, defScope s_to_sum, [], []⟩
def d_drawn_move : He.DefD := ⟨("drawn_move", none), "drawn_move", "drawn_move", defArgs s_drawn_move, defBody s_drawn_move, defScope s_drawn_move, [], []⟩
def d_player : He.DefD := ⟨("player", none), "player", "player", defArgs s_player, defBody s_player, defScope s_player, [], []⟩
def d_is_row : He.DefD := ⟨("is_row", none), "is_row", "is_row", defArgs s_is_row, defBody s_is_row, defScope s_is_row, [], []⟩
def d_need_unlike : He.DefD := ⟨("need_unlike", none), "need_unlike", "need_unlike", defArgs s_need_unlike, defBody s_need_unlike, defScope s_need_unlike, [], []⟩
def d_need_places : He.DefD := ⟨("need_places", none), "need_places", "need_places", defArgs s_need_places, defBody s_need_places, defScope s_need_places, [], []⟩
def d_Ground_init : He.DefD := ⟨("Ground", some "__init__"), "__init__", "Ground.__init__", defArgs s_Ground_init, defBody s_Ground_init, defScope s_Ground_init, [], []⟩
def d_Ground_names : He.DefD := ⟨("Ground", some "names"), "names", "Ground.names", defArgs s_Ground_names, defBody s_Ground_names, defScope s_Ground_names, [], []⟩
def d_Ground_roads_from : He.DefD := ⟨("Ground", some "roads_from"), "roads_from", "Ground.roads_from", defArgs s_Ground_roads_from, defBody s_Ground_roads_from, defScope s_Ground_roads_from, [], []⟩
def d_row_in : He.DefD := ⟨("row_in", none), "row_in", "row_in", defArgs s_row_in, defBody s_row_in, defScope s_row_in, [], []⟩
def d_read_ground : He.DefD := ⟨("read_ground", none), "read_ground", "read_ground", defArgs s_read_ground, defBody s_read_ground, defScope s_read_ground, [], []⟩
def d_played : He.DefD := ⟨("played", none), "played", "played", defArgs s_played, defBody s_played, defScope s_played, [], []⟩
def d_walk : He.DefD := ⟨("walk", none), "walk", "walk", defArgs s_walk, defBody s_walk, defScope s_walk, [], []⟩
def d_made_so : He.DefD := ⟨("made_so", none), "made_so", "made_so", defArgs s_made_so, defBody s_made_so, defScope s_made_so, [], []⟩
def d_table_of : He.DefD := ⟨("table_of", none), "table_of", "table_of", defArgs s_table_of, defBody s_table_of, defScope s_table_of, [], []⟩
def d_best_moves : He.DefD := ⟨("best_moves", none), "best_moves", "best_moves", defArgs s_best_moves, defBody s_best_moves, defScope s_best_moves, [], []⟩
def d__law_cell_at : He.DefD := ⟨("_law_cell_at", none), "_law_cell_at", "_law_cell_at", defArgs s__law_cell_at, defBody s__law_cell_at, defScope s__law_cell_at, [], []⟩
def d__law_source : He.DefD := ⟨("_law_source", none), "_law_source", "_law_source", defArgs s__law_source, defBody s__law_source, defScope s__law_source, [], []⟩
def d__law_take : He.DefD := ⟨("_law_take", none), "_law_take", "_law_take", defArgs s__law_take, defBody s__law_take, defScope s__law_take, [], []⟩
def d__law_names : He.DefD := ⟨("_law_names", none), "_law_names", "_law_names", defArgs s__law_names, defBody s__law_names, defScope s__law_names, [], []⟩
def d__law_leads : He.DefD := ⟨("_law_leads", none), "_law_leads", "_law_leads", defArgs s__law_leads, defBody s__law_leads, defScope s__law_leads, [], []⟩
def d__law_rows : He.DefD := ⟨("_law_rows", none), "_law_rows", "_law_rows", defArgs s__law_rows, defBody s__law_rows, defScope s__law_rows, [], []⟩
def d__law_opponent : He.DefD := ⟨("_law_opponent", none), "_law_opponent", "_law_opponent", defArgs s__law_opponent, defBody s__law_opponent, defScope s__law_opponent, [], []⟩
def d__law_walked : He.DefD := ⟨("_law_walked", none), "_law_walked", "_law_walked", defArgs s__law_walked, defBody s__law_walked, defScope s__law_walked, [], []⟩
def d__law_drawn_right : He.DefD := ⟨("_law_drawn_right", none), "_law_drawn_right", "_law_drawn_right", defArgs s__law_drawn_right, defBody s__law_drawn_right, defScope s__law_drawn_right, [], []⟩
def d__law_right : He.DefD := ⟨("_law_right", none), "_law_right", "_law_right", defArgs s__law_right, defBody s__law_right, defScope s__law_right, [], []⟩
def d__law_single_right : He.DefD := ⟨("_law_single_right", none), "_law_single_right", "_law_single_right", defArgs s__law_single_right, defBody s__law_single_right, defScope s__law_single_right, [], []⟩
def d_law : He.DefD := ⟨("law", none), "law", "law", defArgs s_law, defBody s_law, defScope s_law, [], []⟩
def fn : List He.DefD := [d_summed, d_lacking, d_set_of, d_numbers_in, d_set_turned, d_is_whole, d_is_name, d_need_heap, d_moves_of, d_is_over, d_is_move, d_after, d_Numbered_init, d_Numbered_plus, d_Numbered_outcome, d_Endless_init, d_Endless_plus, d_Endless_outcome, d_sum_of, d_leads_back, d_gets_it, d_rounds_with_numbers, d_numbers_beside, d_labels_of, d_open_road, d_worth_by, d_worth_in, d_heap_worth, d_outcome, d_labels_for, d_need_outcome, d_moves_to_lost, d_steps_of] ++ [d_best_move, d_most_moves, d_endless_tokens, d_numbered_sum, d_to_endless, d_to_sum, d_drawn_move, d_player, d_is_row, d_need_unlike, d_need_places, d_Ground_init, d_Ground_names, d_Ground_roads_from, d_row_in, d_read_ground, d_played, d_walk, d_made_so, d_table_of, d_best_moves, d__law_cell_at, d__law_source, d__law_take, d__law_names, d__law_leads, d__law_rows, d__law_opponent, d__law_walked, d__law_drawn_right, d__law_right, d__law_single_right, d_law]
def fa0 : List He.Fa := [.glo "summed", .glo "lacking", .glo "set_of", .glo "numbers_in", .glo "set_turned", .glo "is_whole", .glo "is_name", .glo "need_heap", .glo "moves_of", .glo "is_over", .glo "is_move", .glo "after", .glo "sum_of", .glo "leads_back", .glo "gets_it", .glo "rounds_with_numbers", .glo "numbers_beside", .glo "labels_of", .glo "open_road", .glo "worth_by", .glo "worth_in", .glo "heap_worth", .glo "outcome", .glo "labels_for", .glo "need_outcome", .glo "moves_to_lost", .glo "steps_of", .glo "best_move", .glo "most_moves", .glo "endless_tokens"]
def fa1 : List He.Fa := [.glo "numbered_sum", .glo "to_endless", .glo "to_sum", .glo "drawn_move", .glo "player", .glo "is_row", .glo "need_unlike", .glo "need_places", .glo "row_in", .glo "read_ground", .glo "played", .glo "walk", .glo "made_so", .glo "table_of", .glo "best_moves", .glo "_law_cell_at", .glo "_law_source", .glo "_law_take", .glo "_law_names", .glo "_law_leads", .glo "_law_rows", .glo "_law_opponent", .glo "_law_walked", .glo "_law_drawn_right", .glo "_law_right", .glo "_law_single_right", .glo "law", .glo "Numbered", .cls "Numbered", .noat "Numbered" "number"]
def fa2 : List He.Fa := [.meth "Numbered" "__init__", .meth "Numbered" "plus", .meth "Numbered" "outcome", .mkr "Numbered", .glo "Endless", .cls "Endless", .noat "Endless" "bits", .meth "Endless" "__init__", .meth "Endless" "plus", .meth "Endless" "outcome", .mkr "Endless", .glo "Ground", .cls "Ground", .noat "Ground" "leading", .meth "Ground" "__init__", .meth "Ground" "names", .meth "Ground" "roads_from", .mkr "Ground", .free "range", .free "len", .free "isinstance", .free "int", .free "bool", .free "str", .free "tuple", .free "list", .free "all", .free "sum", .free "enumerate", .free "max"]
def fa3 : List He.Fa := [.free "min", .free "sorted", .free "reversed", .free "set", .free "dict", .int "MOST_NUMBER" 15, .int "MOST_LETTERS" 8, .int "MOST_TOKENS" 8, .int "MOST_BITS" 65535, .int "MOST_PLACES" 14, .int "MOST_ROADS" 40, .str "LETTERS" "abcdefghijklmnopqrstuvwxyz"]
def fa : List He.Fa := fa0 ++ fa1 ++ fa2 ++ fa3
/-- the two defs that make defs -/
def tf : List He.Defn := [("player", none), ("_law_opponent", none)]
/-- further looks: isinstance against Numbered, the classes' own kinds -/
def exC (K : PySem.W.Frag) (x : Str) : Bool := He.eqO (PySem.W.findIn K (.ref (He.ga K x)) "__class__") (some (some (.builtin "object.__class__"))) && decide (PySem.W.mroIn K (He.ga K x) (.type "object") = some true)
def ex (K : PySem.W.Frag) : Bool := decide (PySem.W.kitOne K (.ref (He.ga K "Numbered")) (.ref (He.ga K "Numbered")) = some true) && (decide (PySem.W.kitOne K (.ref (He.ga K "Endless")) (.ref (He.ga K "Numbered")) = some false) && (exC K "Numbered" && (exC K "Endless" && (He.eqO (PySem.W.specialIn K (.builtin "object.__class__") "__get__") (some (some (.builtin "getset_descriptor.__get__"))) && decide (PySem.W.takesIn K (.builtin "object.__class__") = some true)))))

/-- what the walk asks of the top -/
structure Tx (K : PySem.W.Frag) (mg : Str → Option Value) : Prop where
  says : He.SaysD fa fn K
  more : ex K = true
  inh : ∃ h : Heap, K.In h ∧ h.Ns mainGlobals mg
section
variable {K : PySem.W.Frag} {mg : Str → Option Value}
theorem Tx.g_summed (T : Tx K mg) : mg "summed" = some (.ref (He.ga K "summed")) := let ⟨_, X, G⟩ := T.inh; He.glo_ok X G (T.says.fact 0 (f := .glo "summed") rfl)
theorem Tx.g_lacking (T : Tx K mg) : mg "lacking" = some (.ref (He.ga K "lacking")) := let ⟨_, X, G⟩ := T.inh; He.glo_ok X G (T.says.fact 1 (f := .glo "lacking") rfl)
theorem Tx.g_set_of (T : Tx K mg) : mg "set_of" = some (.ref (He.ga K "set_of")) := let ⟨_, X, G⟩ := T.inh; He.glo_ok X G (T.says.fact 2 (f := .glo "set_of") rfl)
theorem Tx.g_numbers_in (T : Tx K mg) : mg "numbers_in" = some (.ref (He.ga K "numbers_in")) := let ⟨_, X, G⟩ := T.inh; He.glo_ok X G (T.says.fact 3 (f := .glo "numbers_in") rfl)
theorem Tx.g_set_turned (T : Tx K mg) : mg "set_turned" = some (.ref (He.ga K "set_turned")) := let ⟨_, X, G⟩ := T.inh; He.glo_ok X G (T.says.fact 4 (f := .glo "set_turned") rfl)
theorem Tx.g_is_whole (T : Tx K mg) : mg "is_whole" = some (.ref (He.ga K "is_whole")) := let ⟨_, X, G⟩ := T.inh; He.glo_ok X G (T.says.fact 5 (f := .glo "is_whole") rfl)
theorem Tx.g_is_name (T : Tx K mg) : mg "is_name" = some (.ref (He.ga K "is_name")) := let ⟨_, X, G⟩ := T.inh; He.glo_ok X G (T.says.fact 6 (f := .glo "is_name") rfl)
theorem Tx.g_need_heap (T : Tx K mg) : mg "need_heap" = some (.ref (He.ga K "need_heap")) := let ⟨_, X, G⟩ := T.inh; He.glo_ok X G (T.says.fact 7 (f := .glo "need_heap") rfl)
theorem Tx.g_moves_of (T : Tx K mg) : mg "moves_of" = some (.ref (He.ga K "moves_of")) := let ⟨_, X, G⟩ := T.inh; He.glo_ok X G (T.says.fact 8 (f := .glo "moves_of") rfl)
theorem Tx.g_is_over (T : Tx K mg) : mg "is_over" = some (.ref (He.ga K "is_over")) := let ⟨_, X, G⟩ := T.inh; He.glo_ok X G (T.says.fact 9 (f := .glo "is_over") rfl)
theorem Tx.g_is_move (T : Tx K mg) : mg "is_move" = some (.ref (He.ga K "is_move")) := let ⟨_, X, G⟩ := T.inh; He.glo_ok X G (T.says.fact 10 (f := .glo "is_move") rfl)
theorem Tx.g_after (T : Tx K mg) : mg "after" = some (.ref (He.ga K "after")) := let ⟨_, X, G⟩ := T.inh; He.glo_ok X G (T.says.fact 11 (f := .glo "after") rfl)
theorem Tx.g_sum_of (T : Tx K mg) : mg "sum_of" = some (.ref (He.ga K "sum_of")) := let ⟨_, X, G⟩ := T.inh; He.glo_ok X G (T.says.fact 12 (f := .glo "sum_of") rfl)
theorem Tx.g_leads_back (T : Tx K mg) : mg "leads_back" = some (.ref (He.ga K "leads_back")) := let ⟨_, X, G⟩ := T.inh; He.glo_ok X G (T.says.fact 13 (f := .glo "leads_back") rfl)
theorem Tx.g_gets_it (T : Tx K mg) : mg "gets_it" = some (.ref (He.ga K "gets_it")) := let ⟨_, X, G⟩ := T.inh; He.glo_ok X G (T.says.fact 14 (f := .glo "gets_it") rfl)
theorem Tx.g_rounds_with_numbers (T : Tx K mg) : mg "rounds_with_numbers" = some (.ref (He.ga K "rounds_with_numbers")) := let ⟨_, X, G⟩ := T.inh; He.glo_ok X G (T.says.fact 15 (f := .glo "rounds_with_numbers") rfl)
theorem Tx.g_numbers_beside (T : Tx K mg) : mg "numbers_beside" = some (.ref (He.ga K "numbers_beside")) := let ⟨_, X, G⟩ := T.inh; He.glo_ok X G (T.says.fact 16 (f := .glo "numbers_beside") rfl)
theorem Tx.g_labels_of (T : Tx K mg) : mg "labels_of" = some (.ref (He.ga K "labels_of")) := let ⟨_, X, G⟩ := T.inh; He.glo_ok X G (T.says.fact 17 (f := .glo "labels_of") rfl)
theorem Tx.g_open_road (T : Tx K mg) : mg "open_road" = some (.ref (He.ga K "open_road")) := let ⟨_, X, G⟩ := T.inh; He.glo_ok X G (T.says.fact 18 (f := .glo "open_road") rfl)
theorem Tx.g_worth_by (T : Tx K mg) : mg "worth_by" = some (.ref (He.ga K "worth_by")) := let ⟨_, X, G⟩ := T.inh; He.glo_ok X G (T.says.fact 19 (f := .glo "worth_by") rfl)
theorem Tx.g_worth_in (T : Tx K mg) : mg "worth_in" = some (.ref (He.ga K "worth_in")) := let ⟨_, X, G⟩ := T.inh; He.glo_ok X G (T.says.fact 20 (f := .glo "worth_in") rfl)
theorem Tx.g_heap_worth (T : Tx K mg) : mg "heap_worth" = some (.ref (He.ga K "heap_worth")) := let ⟨_, X, G⟩ := T.inh; He.glo_ok X G (T.says.fact 21 (f := .glo "heap_worth") rfl)
theorem Tx.g_outcome (T : Tx K mg) : mg "outcome" = some (.ref (He.ga K "outcome")) := let ⟨_, X, G⟩ := T.inh; He.glo_ok X G (T.says.fact 22 (f := .glo "outcome") rfl)
theorem Tx.g_labels_for (T : Tx K mg) : mg "labels_for" = some (.ref (He.ga K "labels_for")) := let ⟨_, X, G⟩ := T.inh; He.glo_ok X G (T.says.fact 23 (f := .glo "labels_for") rfl)
theorem Tx.g_need_outcome (T : Tx K mg) : mg "need_outcome" = some (.ref (He.ga K "need_outcome")) := let ⟨_, X, G⟩ := T.inh; He.glo_ok X G (T.says.fact 24 (f := .glo "need_outcome") rfl)
theorem Tx.g_moves_to_lost (T : Tx K mg) : mg "moves_to_lost" = some (.ref (He.ga K "moves_to_lost")) := let ⟨_, X, G⟩ := T.inh; He.glo_ok X G (T.says.fact 25 (f := .glo "moves_to_lost") rfl)
theorem Tx.g_steps_of (T : Tx K mg) : mg "steps_of" = some (.ref (He.ga K "steps_of")) := let ⟨_, X, G⟩ := T.inh; He.glo_ok X G (T.says.fact 26 (f := .glo "steps_of") rfl)
theorem Tx.g_best_move (T : Tx K mg) : mg "best_move" = some (.ref (He.ga K "best_move")) := let ⟨_, X, G⟩ := T.inh; He.glo_ok X G (T.says.fact 27 (f := .glo "best_move") rfl)
theorem Tx.g_most_moves (T : Tx K mg) : mg "most_moves" = some (.ref (He.ga K "most_moves")) := let ⟨_, X, G⟩ := T.inh; He.glo_ok X G (T.says.fact 28 (f := .glo "most_moves") rfl)
theorem Tx.g_endless_tokens (T : Tx K mg) : mg "endless_tokens" = some (.ref (He.ga K "endless_tokens")) := let ⟨_, X, G⟩ := T.inh; He.glo_ok X G (T.says.fact 29 (f := .glo "endless_tokens") rfl)
theorem Tx.g_numbered_sum (T : Tx K mg) : mg "numbered_sum" = some (.ref (He.ga K "numbered_sum")) := let ⟨_, X, G⟩ := T.inh; He.glo_ok X G (T.says.fact 30 (f := .glo "numbered_sum") rfl)
theorem Tx.g_to_endless (T : Tx K mg) : mg "to_endless" = some (.ref (He.ga K "to_endless")) := let ⟨_, X, G⟩ := T.inh; He.glo_ok X G (T.says.fact 31 (f := .glo "to_endless") rfl)
theorem Tx.g_to_sum (T : Tx K mg) : mg "to_sum" = some (.ref (He.ga K "to_sum")) := let ⟨_, X, G⟩ := T.inh; He.glo_ok X G (T.says.fact 32 (f := .glo "to_sum") rfl)
theorem Tx.g_drawn_move (T : Tx K mg) : mg "drawn_move" = some (.ref (He.ga K "drawn_move")) := let ⟨_, X, G⟩ := T.inh; He.glo_ok X G (T.says.fact 33 (f := .glo "drawn_move") rfl)
theorem Tx.g_player (T : Tx K mg) : mg "player" = some (.ref (He.ga K "player")) := let ⟨_, X, G⟩ := T.inh; He.glo_ok X G (T.says.fact 34 (f := .glo "player") rfl)
theorem Tx.g_is_row (T : Tx K mg) : mg "is_row" = some (.ref (He.ga K "is_row")) := let ⟨_, X, G⟩ := T.inh; He.glo_ok X G (T.says.fact 35 (f := .glo "is_row") rfl)
theorem Tx.g_need_unlike (T : Tx K mg) : mg "need_unlike" = some (.ref (He.ga K "need_unlike")) := let ⟨_, X, G⟩ := T.inh; He.glo_ok X G (T.says.fact 36 (f := .glo "need_unlike") rfl)
theorem Tx.g_need_places (T : Tx K mg) : mg "need_places" = some (.ref (He.ga K "need_places")) := let ⟨_, X, G⟩ := T.inh; He.glo_ok X G (T.says.fact 37 (f := .glo "need_places") rfl)
theorem Tx.g_row_in (T : Tx K mg) : mg "row_in" = some (.ref (He.ga K "row_in")) := let ⟨_, X, G⟩ := T.inh; He.glo_ok X G (T.says.fact 38 (f := .glo "row_in") rfl)
theorem Tx.g_read_ground (T : Tx K mg) : mg "read_ground" = some (.ref (He.ga K "read_ground")) := let ⟨_, X, G⟩ := T.inh; He.glo_ok X G (T.says.fact 39 (f := .glo "read_ground") rfl)
theorem Tx.g_played (T : Tx K mg) : mg "played" = some (.ref (He.ga K "played")) := let ⟨_, X, G⟩ := T.inh; He.glo_ok X G (T.says.fact 40 (f := .glo "played") rfl)
theorem Tx.g_walk (T : Tx K mg) : mg "walk" = some (.ref (He.ga K "walk")) := let ⟨_, X, G⟩ := T.inh; He.glo_ok X G (T.says.fact 41 (f := .glo "walk") rfl)
theorem Tx.g_made_so (T : Tx K mg) : mg "made_so" = some (.ref (He.ga K "made_so")) := let ⟨_, X, G⟩ := T.inh; He.glo_ok X G (T.says.fact 42 (f := .glo "made_so") rfl)
theorem Tx.g_table_of (T : Tx K mg) : mg "table_of" = some (.ref (He.ga K "table_of")) := let ⟨_, X, G⟩ := T.inh; He.glo_ok X G (T.says.fact 43 (f := .glo "table_of") rfl)
theorem Tx.g_best_moves (T : Tx K mg) : mg "best_moves" = some (.ref (He.ga K "best_moves")) := let ⟨_, X, G⟩ := T.inh; He.glo_ok X G (T.says.fact 44 (f := .glo "best_moves") rfl)
theorem Tx.g__law_cell_at (T : Tx K mg) : mg "_law_cell_at" = some (.ref (He.ga K "_law_cell_at")) := let ⟨_, X, G⟩ := T.inh; He.glo_ok X G (T.says.fact 45 (f := .glo "_law_cell_at") rfl)
theorem Tx.g__law_source (T : Tx K mg) : mg "_law_source" = some (.ref (He.ga K "_law_source")) := let ⟨_, X, G⟩ := T.inh; He.glo_ok X G (T.says.fact 46 (f := .glo "_law_source") rfl)
theorem Tx.g__law_take (T : Tx K mg) : mg "_law_take" = some (.ref (He.ga K "_law_take")) := let ⟨_, X, G⟩ := T.inh; He.glo_ok X G (T.says.fact 47 (f := .glo "_law_take") rfl)
theorem Tx.g__law_names (T : Tx K mg) : mg "_law_names" = some (.ref (He.ga K "_law_names")) := let ⟨_, X, G⟩ := T.inh; He.glo_ok X G (T.says.fact 48 (f := .glo "_law_names") rfl)
theorem Tx.g__law_leads (T : Tx K mg) : mg "_law_leads" = some (.ref (He.ga K "_law_leads")) := let ⟨_, X, G⟩ := T.inh; He.glo_ok X G (T.says.fact 49 (f := .glo "_law_leads") rfl)
theorem Tx.g__law_rows (T : Tx K mg) : mg "_law_rows" = some (.ref (He.ga K "_law_rows")) := let ⟨_, X, G⟩ := T.inh; He.glo_ok X G (T.says.fact 50 (f := .glo "_law_rows") rfl)
theorem Tx.g__law_opponent (T : Tx K mg) : mg "_law_opponent" = some (.ref (He.ga K "_law_opponent")) := let ⟨_, X, G⟩ := T.inh; He.glo_ok X G (T.says.fact 51 (f := .glo "_law_opponent") rfl)
theorem Tx.g__law_walked (T : Tx K mg) : mg "_law_walked" = some (.ref (He.ga K "_law_walked")) := let ⟨_, X, G⟩ := T.inh; He.glo_ok X G (T.says.fact 52 (f := .glo "_law_walked") rfl)
theorem Tx.g__law_drawn_right (T : Tx K mg) : mg "_law_drawn_right" = some (.ref (He.ga K "_law_drawn_right")) := let ⟨_, X, G⟩ := T.inh; He.glo_ok X G (T.says.fact 53 (f := .glo "_law_drawn_right") rfl)
theorem Tx.g__law_right (T : Tx K mg) : mg "_law_right" = some (.ref (He.ga K "_law_right")) := let ⟨_, X, G⟩ := T.inh; He.glo_ok X G (T.says.fact 54 (f := .glo "_law_right") rfl)
theorem Tx.g__law_single_right (T : Tx K mg) : mg "_law_single_right" = some (.ref (He.ga K "_law_single_right")) := let ⟨_, X, G⟩ := T.inh; He.glo_ok X G (T.says.fact 55 (f := .glo "_law_single_right") rfl)
theorem Tx.g_law (T : Tx K mg) : mg "law" = some (.ref (He.ga K "law")) := let ⟨_, X, G⟩ := T.inh; He.glo_ok X G (T.says.fact 56 (f := .glo "law") rfl)
theorem Tx.g_Numbered (T : Tx K mg) : mg "Numbered" = some (.ref (He.ga K "Numbered")) := let ⟨_, X, G⟩ := T.inh; He.glo_ok X G (T.says.fact 57 (f := .glo "Numbered") rfl)
theorem Tx.c_Numbered (T : Tx K mg) : Cls K (He.ga K "Numbered") := He.cls_ok (T.says.fact 58 (f := .cls "Numbered") rfl)
theorem Tx.na_Numbered_number (T : Tx K mg) : NoAttr K (He.ga K "Numbered") "number" := He.noat_ok (T.says.fact 59 (f := .noat "Numbered" "number") rfl)
theorem Tx.m_Numbered_init (T : Tx K mg) : Meth K (He.ga K "Numbered") "__init__" (He.ma K (He.ga K "Numbered") "__init__") := He.meth_ok (T.says.fact 60 (f := .meth "Numbered" "__init__") rfl)
theorem Tx.m_Numbered_plus (T : Tx K mg) : Meth K (He.ga K "Numbered") "plus" (He.ma K (He.ga K "Numbered") "plus") := He.meth_ok (T.says.fact 61 (f := .meth "Numbered" "plus") rfl)
theorem Tx.m_Numbered_outcome (T : Tx K mg) : Meth K (He.ga K "Numbered") "outcome" (He.ma K (He.ga K "Numbered") "outcome") := He.meth_ok (T.says.fact 62 (f := .meth "Numbered" "outcome") rfl)
theorem Tx.k_Numbered (T : Tx K mg) : Mk K (He.ga K "Numbered") (He.ma K (He.ga K "Numbered") "__init__") := He.mkr_ok (T.says.fact 63 (f := .mkr "Numbered") rfl)
theorem Tx.g_Endless (T : Tx K mg) : mg "Endless" = some (.ref (He.ga K "Endless")) := let ⟨_, X, G⟩ := T.inh; He.glo_ok X G (T.says.fact 64 (f := .glo "Endless") rfl)
theorem Tx.c_Endless (T : Tx K mg) : Cls K (He.ga K "Endless") := He.cls_ok (T.says.fact 65 (f := .cls "Endless") rfl)
theorem Tx.na_Endless_bits (T : Tx K mg) : NoAttr K (He.ga K "Endless") "bits" := He.noat_ok (T.says.fact 66 (f := .noat "Endless" "bits") rfl)
theorem Tx.m_Endless_init (T : Tx K mg) : Meth K (He.ga K "Endless") "__init__" (He.ma K (He.ga K "Endless") "__init__") := He.meth_ok (T.says.fact 67 (f := .meth "Endless" "__init__") rfl)
theorem Tx.m_Endless_plus (T : Tx K mg) : Meth K (He.ga K "Endless") "plus" (He.ma K (He.ga K "Endless") "plus") := He.meth_ok (T.says.fact 68 (f := .meth "Endless" "plus") rfl)
theorem Tx.m_Endless_outcome (T : Tx K mg) : Meth K (He.ga K "Endless") "outcome" (He.ma K (He.ga K "Endless") "outcome") := He.meth_ok (T.says.fact 69 (f := .meth "Endless" "outcome") rfl)
theorem Tx.k_Endless (T : Tx K mg) : Mk K (He.ga K "Endless") (He.ma K (He.ga K "Endless") "__init__") := He.mkr_ok (T.says.fact 70 (f := .mkr "Endless") rfl)
theorem Tx.g_Ground (T : Tx K mg) : mg "Ground" = some (.ref (He.ga K "Ground")) := let ⟨_, X, G⟩ := T.inh; He.glo_ok X G (T.says.fact 71 (f := .glo "Ground") rfl)
theorem Tx.c_Ground (T : Tx K mg) : Cls K (He.ga K "Ground") := He.cls_ok (T.says.fact 72 (f := .cls "Ground") rfl)
theorem Tx.na_Ground_leading (T : Tx K mg) : NoAttr K (He.ga K "Ground") "leading" := He.noat_ok (T.says.fact 73 (f := .noat "Ground" "leading") rfl)
theorem Tx.m_Ground_init (T : Tx K mg) : Meth K (He.ga K "Ground") "__init__" (He.ma K (He.ga K "Ground") "__init__") := He.meth_ok (T.says.fact 74 (f := .meth "Ground" "__init__") rfl)
theorem Tx.m_Ground_names (T : Tx K mg) : Meth K (He.ga K "Ground") "names" (He.ma K (He.ga K "Ground") "names") := He.meth_ok (T.says.fact 75 (f := .meth "Ground" "names") rfl)
theorem Tx.m_Ground_roads_from (T : Tx K mg) : Meth K (He.ga K "Ground") "roads_from" (He.ma K (He.ga K "Ground") "roads_from") := He.meth_ok (T.says.fact 76 (f := .meth "Ground" "roads_from") rfl)
theorem Tx.k_Ground (T : Tx K mg) : Mk K (He.ga K "Ground") (He.ma K (He.ga K "Ground") "__init__") := He.mkr_ok (T.says.fact 77 (f := .mkr "Ground") rfl)
theorem Tx.f_range (T : Tx K mg) : mg "range" = none := let ⟨_, X, G⟩ := T.inh; He.free_ok X G (T.says.fact 78 (f := .free "range") rfl)
theorem Tx.f_len (T : Tx K mg) : mg "len" = none := let ⟨_, X, G⟩ := T.inh; He.free_ok X G (T.says.fact 79 (f := .free "len") rfl)
theorem Tx.f_isinstance (T : Tx K mg) : mg "isinstance" = none := let ⟨_, X, G⟩ := T.inh; He.free_ok X G (T.says.fact 80 (f := .free "isinstance") rfl)
theorem Tx.f_int (T : Tx K mg) : mg "int" = none := let ⟨_, X, G⟩ := T.inh; He.free_ok X G (T.says.fact 81 (f := .free "int") rfl)
theorem Tx.f_bool (T : Tx K mg) : mg "bool" = none := let ⟨_, X, G⟩ := T.inh; He.free_ok X G (T.says.fact 82 (f := .free "bool") rfl)
theorem Tx.f_str (T : Tx K mg) : mg "str" = none := let ⟨_, X, G⟩ := T.inh; He.free_ok X G (T.says.fact 83 (f := .free "str") rfl)
theorem Tx.f_tuple (T : Tx K mg) : mg "tuple" = none := let ⟨_, X, G⟩ := T.inh; He.free_ok X G (T.says.fact 84 (f := .free "tuple") rfl)
theorem Tx.f_list (T : Tx K mg) : mg "list" = none := let ⟨_, X, G⟩ := T.inh; He.free_ok X G (T.says.fact 85 (f := .free "list") rfl)
theorem Tx.f_all (T : Tx K mg) : mg "all" = none := let ⟨_, X, G⟩ := T.inh; He.free_ok X G (T.says.fact 86 (f := .free "all") rfl)
theorem Tx.f_sum (T : Tx K mg) : mg "sum" = none := let ⟨_, X, G⟩ := T.inh; He.free_ok X G (T.says.fact 87 (f := .free "sum") rfl)
theorem Tx.f_enumerate (T : Tx K mg) : mg "enumerate" = none := let ⟨_, X, G⟩ := T.inh; He.free_ok X G (T.says.fact 88 (f := .free "enumerate") rfl)
theorem Tx.f_max (T : Tx K mg) : mg "max" = none := let ⟨_, X, G⟩ := T.inh; He.free_ok X G (T.says.fact 89 (f := .free "max") rfl)
theorem Tx.f_min (T : Tx K mg) : mg "min" = none := let ⟨_, X, G⟩ := T.inh; He.free_ok X G (T.says.fact 90 (f := .free "min") rfl)
theorem Tx.f_sorted (T : Tx K mg) : mg "sorted" = none := let ⟨_, X, G⟩ := T.inh; He.free_ok X G (T.says.fact 91 (f := .free "sorted") rfl)
theorem Tx.f_reversed (T : Tx K mg) : mg "reversed" = none := let ⟨_, X, G⟩ := T.inh; He.free_ok X G (T.says.fact 92 (f := .free "reversed") rfl)
theorem Tx.f_set (T : Tx K mg) : mg "set" = none := let ⟨_, X, G⟩ := T.inh; He.free_ok X G (T.says.fact 93 (f := .free "set") rfl)
theorem Tx.f_dict (T : Tx K mg) : mg "dict" = none := let ⟨_, X, G⟩ := T.inh; He.free_ok X G (T.says.fact 94 (f := .free "dict") rfl)
theorem Tx.i_MOST_NUMBER (T : Tx K mg) : ∃ t, mg "MOST_NUMBER" = some (.int 15 t) := let ⟨_, X, G⟩ := T.inh; He.int_ok X G (T.says.fact 95 (f := .int "MOST_NUMBER" 15) rfl)
theorem Tx.i_MOST_LETTERS (T : Tx K mg) : ∃ t, mg "MOST_LETTERS" = some (.int 8 t) := let ⟨_, X, G⟩ := T.inh; He.int_ok X G (T.says.fact 96 (f := .int "MOST_LETTERS" 8) rfl)
theorem Tx.i_MOST_TOKENS (T : Tx K mg) : ∃ t, mg "MOST_TOKENS" = some (.int 8 t) := let ⟨_, X, G⟩ := T.inh; He.int_ok X G (T.says.fact 97 (f := .int "MOST_TOKENS" 8) rfl)
theorem Tx.i_MOST_BITS (T : Tx K mg) : ∃ t, mg "MOST_BITS" = some (.int 65535 t) := let ⟨_, X, G⟩ := T.inh; He.int_ok X G (T.says.fact 98 (f := .int "MOST_BITS" 65535) rfl)
theorem Tx.i_MOST_PLACES (T : Tx K mg) : ∃ t, mg "MOST_PLACES" = some (.int 14 t) := let ⟨_, X, G⟩ := T.inh; He.int_ok X G (T.says.fact 99 (f := .int "MOST_PLACES" 14) rfl)
theorem Tx.i_MOST_ROADS (T : Tx K mg) : ∃ t, mg "MOST_ROADS" = some (.int 40 t) := let ⟨_, X, G⟩ := T.inh; He.int_ok X G (T.says.fact 100 (f := .int "MOST_ROADS" 40) rfl)
theorem Tx.z_LETTERS (T : Tx K mg) : ∃ t, mg "LETTERS" = some (.str "abcdefghijklmnopqrstuvwxyz" t) := let ⟨_, X, G⟩ := T.inh; He.str_ok X G (T.says.fact 101 (f := .str "LETTERS" "abcdefghijklmnopqrstuvwxyz") rfl)
end
end K96

set_option Elab.async false
set_option linter.all false
set_option maxRecDepth 100000
set_option maxHeartbeats 4000000
/-! K96Hook: the head's facts over a part of the heap that is taken level by level. -/
namespace K96
open PySem PySem.Spec PyProof.Rows L2 He
def refV1 : Value → List Addr
  | .ref a => [a]
  | _ => []
/-- what a class or a function or a namespace names -/
def refs1 (g : Addr → Option Obj) (a : Addr) : List Addr := match g a with
  | some ⟨_, _, .func fd, _⟩ => refV1 fd.code
  | some ⟨_, _, .cls cd, _⟩ => cd.ns :: cd.mro.flatMap refV1
  | some ⟨_, _, .dict es _, _⟩ => es.toList.flatMap fun e => refV1 e.val
  | _ => []
def isFC (g : Addr → Option Obj) (a : Addr) : Bool := match g a with
  | some ⟨_, _, .func _, _⟩ => true
  | some ⟨_, _, .cls _, _⟩ => true
  | _ => false
def clsNs (g : Addr → Option Obj) (a : Addr) : List Addr := match g a with
  | some ⟨_, _, .cls cd, _⟩ => [cd.ns]
  | _ => []
/-- the globals' functions and classes; their codes, namespaces; the methods; their codes -/
def asY (g : Addr → Option Obj) : List Addr :=
  let l1 := (refs1 g mainGlobals).filter (isFC g)
  let l2 := l1.flatMap (refs1 g)
  let l3 := (l1.flatMap (clsNs g)).flatMap (refs1 g)
  let l4 := l3.flatMap (refs1 g)
  mainGlobals :: (l1 ++ (l2 ++ (l3 ++ l4)))
structure SaysY (fa : List Fa) (fn : List DefD) (tf : List Defn) (ex : PySem.W.Frag → Bool) (h : Heap) (K : PySem.W.Frag) : Prop where
  d : SaysD fa fn K
  more : ex K = true
  hd : ∀ p ∈ tf, PySem.W.codeHdIn K (cT K p).1 (cT K p).2 = true
  out : ∀ p ∈ tf, K.lookup (cT K p).2 = none
  empty : ∀ p ∈ tf, h.get? (cT K p).2 = some { cls := .none, data := .fields #[] }
abbrev AlY : Type := AlD × Bool
def obsY (fa : List Fa) (fn : List DefD) (tf : List Defn) (ex : PySem.W.Frag → Bool) (g : Addr → Option Obj) : AlY := (obsD fa fn (frT g (asY g)), ex (frT g (asY g)) && tabsB g tf (frT g (asY g)))
def valY (fn : List DefD) : AlY := (valD fn, true)
theorem saysY_of {fa : List Fa} {fn : List DefD} {tf : List Defn} {ex : PySem.W.Frag → Bool} {h : Heap} (e : obsY fa fn tf ex h.get? = valY fn) : SaysY fa fn tf ex h (frT h.get? (asY h.get?)) := by
  have e1 : obsD fa fn (frT h.get? (asY h.get?)) = valD fn := congrArg (fun z : AlY => z.1) e
  have e2 : (ex (frT h.get? (asY h.get?)) && tabsB h.get? tf (frT h.get? (asY h.get?))) = true := congrArg (fun z : AlY => z.2) e
  obtain ⟨h1, h2⟩ := ba e2
  have key : ∀ p ∈ tf, PySem.W.codeHdIn (frT h.get? (asY h.get?)) (cT (frT h.get? (asY h.get?)) p).1 (cT (frT h.get? (asY h.get?)) p).2 = true ∧ ∃ o, h.get? (cT (frT h.get? (asY h.get?)) p).2 = some o ∧ emptyTab o = true := fun p hp => by
    obtain ⟨h3, h4⟩ := ba (List.all_eq_true.mp h2 p hp)
    refine ⟨h3, ?_⟩
    cases q : h.get? (cT (frT h.get? (asY h.get?)) p).2 with
    | none =>
      rw [q] at h4
      cases h4
    | some o =>
      rw [q] at h4
      exact ⟨o, rfl, h4⟩
  exact ⟨e1, h1, fun p hp => (key p hp).1, fun p hp => by
    obtain ⟨_, o, q, z⟩ := key p hp
    exact frT_none q z, fun p hp => by
    obtain ⟨_, o, q, z⟩ := key p hp
    rw [q, emptyTab_eq z]⟩
def hookY (fa : List Fa) (fn : List DefD) (tf : List Defn) (ex : PySem.W.Frag → Bool) : PySem.W.Hook where
  α := AlY
  obs := fun s => obsY fa fn tf ex s.heap.get?
  val := fun _ => valY fn
  says := fun _ h => ∃ K : PySem.W.Frag, K.In h ∧ SaysY fa fn tf ex h K
  of := fun _ _ e => ⟨_, frT_in, saysY_of e⟩
  keeps := fun _ _ _ ⟨K, hK, c⟩ k => ⟨K, PySem.W.Frag.In.keeps hK k, ⟨c.d, c.more, c.hd, c.out, fun p hp => k _ _ (c.empty p hp)⟩⟩
theorem obsY_eq {fa : List Fa} {fn : List DefD} {tf : List Defn} {ex : PySem.W.Frag → Bool} {g : Addr → Option Obj} {s : Shared} (h : ∀ a, g a = s.heap.get? a) : obsY fa fn tf ex g = (hookY fa fn tf ex).obs s := by
  have e : g = s.heap.get? := funext h
  rw [e] <;> rfl
end K96

set_option Elab.async false
set_option linter.all false
set_option maxRecDepth 100000
set_option maxHeartbeats 0
namespace K96
open PySem PySem.Spec PyProof.Rows L2
abbrev R : PySem.W.OpenRow := PySem.W.OpenLaw.row PySem.Challenge.rw_ringheaps_k96_whole_plays_of_players
abbrev hk : PySem.W.Hook := hookY fa fn tf ex
def ob (s : PySem.W.SharedT) : AlY := obsY fa fn tf ex (HandSHeadRun.getT s)
theorem ob_eq (s : PySem.W.SharedT) : ob s = hk.obs s.abs := obsY_eq (HandSHeadRun.getT_eq s)
def loose0 : List PySem.Str := ["_wall", "__name__", "MOST_NUMBER", "summed", "lacking", "set_of", "numbers_in", "set_turned", "HeapError", "NoGround", "NoPlace", "Twice", "TooMany", "NoText", "NoHeap"]
def loose1 : List PySem.Str := ["NoMove", "NotSo", "NoWorth", "LETTERS", "MOST_LETTERS", "is_whole", "is_name", "MOST_TOKENS", "need_heap", "moves_of", "is_over", "is_move", "after", "MOST_BITS", "Worth"]
def loose2 : List PySem.Str := ["Numbered", "Endless", "sum_of", "leads_back", "gets_it", "rounds_with_numbers", "numbers_beside", "labels_of", "open_road", "worth_by", "worth_in", "heap_worth", "outcome", "labels_for", "need_outcome"]
def loose3 : List PySem.Str := ["moves_to_lost", "steps_of", "best_move", "most_moves", "endless_tokens", "numbered_sum", "to_endless", "to_sum", "drawn_move", "player", "MOST_PLACES", "MOST_ROADS", "is_row", "need_unlike", "need_places"]
def loose4 : List PySem.Str := ["Ground", "row_in", "read_ground", "played", "walk", "made_so", "table_of", "best_moves", "_law_cell_at", "_law_source", "_law_take", "_law_names", "_law_leads", "_law_rows", "_law_heap"]
def loose5 : List PySem.Str := ["_law_opponent", "_law_walked", "_law_drawn_right", "_law_right", "_law_single_right"]
def loose : List PySem.Str := loose0 ++ loose1 ++ loose2 ++ loose3 ++ loose4 ++ loose5
theorem run (w : World) : HandSHeadRun.RunEq R (PySem.W.view R.prog [93]) hk ob 6000 loose w := by
  intro os
  kernel_rfl
end K96

set_option Elab.async false
set_option linter.all false
set_option maxRecDepth 100000
set_option maxHeartbeats 4000000
/-! K96L: the promise of a def as a datum, calls by it, steps of a reading. -/
namespace K96
open PySem PySem.Spec PyProof.Rows L2
open Evl (Ex)
/-! ### a def that keeps a promise -/
structure Def (P : Program) (w : World) (K : PySem.W.Frag) (mg : Str → Option Value) (base : Heap) (k : Nat) (f : Addr) (ps : List Str) (sp : Sp) : Prop where
  ex : ∃ fd, FnOk P w K mg base CX0 k f fd ps sp ∧ Binds K fd ps []
  kp : PySem.W.keepIn K (.ref f) = true
section
variable {P : Program} {w : World} {K : PySem.W.Frag} {mg : Str → Option Value} {base : Heap}
theorem Def.make (T : Tx K mg) {d : He.DefD} (i : Nat) (hi : fn[i]? = some d) (e1 : d.dfl = []) (e2 : d.kwd = []) {N ps : List Str} {k : Nat} {sp : Sp} (S : FnScope N ps d.scope)
    (hb : ∀ (kV doc pm : Value) (an : Option Addr) (cdv ct : Value) (us : List Value), us.length = ps.length → bindArgs (PySem.W.fnOf d.name d.qual d.params d.body d.scope .none kV doc pm an cdv ct) ⟨us, []⟩ = pure (ps.zip us))
    (len : ∀ vs H Q E, sp vs H Q E → vs.length = ps.length)
    (hbody : ∀ (cdv : Value) (A : Around) (outer : List Env) (s : Shared) (H : Hp) (vs : List V) (Q : VK) (E : XK), Room k (A.deeper (envOfC d.qual d.scope s.heap.objs.size (He.fAd K d.at_) cdv)) → sp vs H Q E →
      ∃ t, PSs (cxOf CX0 P w K mg base N d.qual d.scope (He.fAd K d.at_) cdv A outer s H E).nox d.body t ∧ t { nx := fun _ H' => Q .non H', rt := Q } (start N vs) H) : Def P w K mg base (k + 1) (He.fAd K d.at_) ps sp := by
  obtain ⟨fd, F⟩ := T.says.def_ i hi
  have F' : FunD K d.name d.qual d.params d.body d.scope [] [] (He.fAd K d.at_) fd := by
    have q1 : d.dvs K = [] := by unfold He.DefD.dvs; rw [e1]; rfl
    have q2 : d.kws K = [] := by unfold He.DefD.kws; rw [e2]; rfl
    rw [q1, q2] at F
    exact F
  exact ⟨⟨fd, F'.ok S len fun cdv A outer s H vs Q E hr h => let ⟨t, a, b⟩ := hbody cdv A outer s H vs Q E hr h; ⟨t, a.nox, b⟩, F'.bindsN hb⟩, F.kp⟩
theorem Def.mono {j k : Nat} {f : Addr} {ps : List Str} {sp : Sp} (D : Def P w K mg base j f ps sp) (h : j ≤ k) : Def P w K mg base k f ps sp := let ⟨⟨fd, F, b⟩, kp⟩ := D; ⟨⟨fd, F.mono h, b⟩, kp⟩
end
section
variable {X : Cx} {k j : Nat} {f C : Addr} {ps : List Str} {sp : Sp} {x m : Str} {p pos apos : Pos} {e o : Expr} {es : List Expr} {t : TA} {to : TE}
theorem pe_callX (D : Def X.prog X.w X.K X.mg X.base k f ps sp) (hr : Room k X.A) (hg : Gl X x) (hm : X.mg x = some (.ref f)) (ha : PA X (e :: es) t) (hdb : (x == ("__debug__" : Str)) = false := by decide)
    (he : starEach (e :: es) X.env = (false, eval e X.env) :: starEach es X.env := by rfl) (hpl : (backTo pos (starEach es X.env)).any (·.1) = false := by rfl) : PE X (.Call (.Name x p) (e :: es) [] pos) (tCall sp [] E0 t) := by
  obtain ⟨⟨fd, F, b⟩, kp⟩ := D
  exact pe_call F hr hg hm kp b .nil pass0 ha hdb he hpl
theorem pe_makeX (D : Def X.prog X.w X.K X.mg X.base k f ps sp) (hr : Room (k + 1) X.A) (M : Mk X.K C f) (hg : Gl X x) (hm : X.mg x = some (.ref C)) (ha : PA X (e :: es) t) (hdb : (x == ("__debug__" : Str)) = false := by decide)
    (he : starEach (e :: es) X.env = (false, eval e X.env) :: starEach es X.env := by rfl) (hpl : (backTo pos (starEach es X.env)).any (·.1) = false := by rfl) : PE X (.Call (.Name x p) (e :: es) [] pos) (tMake C sp [] E0 t) := by
  obtain ⟨⟨fd, F, b⟩, kp⟩ := D
  exact pe_make M F hr hg hm b .nil pass0 ha hdb he hpl
theorem pe_methX {pl : Sem Bool} (D : Def X.prog X.w X.K X.mg X.base k f ps sp) (hr : Room k X.A) (c : Cls X.K C) (hm : Meth X.K C m f) (ho : PE X o to) (ha : PA X (e :: es) t)
    (hst : starEach (e :: es) X.env = (false, eval e X.env) :: starEach es X.env := by rfl) (hpl : (backTo pos (starEach es X.env)).any (·.1) = false := by rfl)
    (ht : eval (.Call (.Attribute o m apos) (e :: es) [] pos) X.env = (do
      let ov ← eval o X.env
      standAt apos.atName
      let (f, first) ← holding [ov] (getMethod ov m pl)
      callWith pos f first (backTo pos (starEach (e :: es) X.env)) (backToKw pos (keywordEach [] X.env))) := by rfl) :
    PE X (.Call (.Attribute o m apos) (e :: es) [] pos) (tMeth C m sp [] E0 to t) := by
  obtain ⟨⟨fd, F, b⟩, kp⟩ := D
  exact pe_meth ho c hm F hr b .nil pass0 ha hst hpl ht
theorem pe_methX0 {pl : Sem Bool} (D : Def X.prog X.w X.K X.mg X.base k f ps sp) (hr : Room k X.A) (c : Cls X.K C) (hm : Meth X.K C m f) (ho : PE X o to)
    (ht : eval (.Call (.Attribute o m apos) [] [] pos) X.env = (do
      let ov ← eval o X.env
      standAt apos.atName
      let (f, first) ← holding [ov] (getMethod ov m pl)
      callWith pos f first (backTo pos (starEach [] X.env)) (backToKw pos (keywordEach [] X.env))) := by rfl) :
    PE X (.Call (.Attribute o m apos) [] [] pos) (tMeth C m sp [] E0 to tNil) := by
  obtain ⟨⟨fd, F, b⟩, kp⟩ := D
  exact pe_meth0 ho c hm F hr b .nil pass0 ht
theorem pe_gI {i : Int} (hg : Gl X x) (hm : ∃ u, X.mg x = some (.int i u)) (hd : (x == ("__debug__" : Str)) = false := by decide) : PE X (.Name x pos) (tC (.int i)) := by
  obtain ⟨u, hu⟩ := hm
  exact pe_glob hg hu ⟨u, rfl⟩ hd
theorem pe_gS {z : Str} (hg : Gl X x) (hm : ∃ u, X.mg x = some (.str z u)) (hd : (x == ("__debug__" : Str)) = false := by decide) : PE X (.Name x pos) (tC (.str z)) := by
  obtain ⟨u, hu⟩ := hm
  exact pe_glob hg hu ⟨u, rfl⟩ hd
/-- one of two readings -/
def tAlt (t u : TE) : TE := fun σ H Q => t σ H Q ∨ u σ H Q
theorem PE.alt {t u : TE} (h : PE X e t) (h2 : PE X e u) : PE X e (tAlt t u) := ⟨fun pins s σ H Q I q => q.elim (fun q => h.run pins s σ H Q I q) fun q => h2.run pins s σ H Q I q⟩
/-- the heap behind it by a name of its own -/
def tNm (t : TE) : TE := fun σ H Q => t σ H fun v H2 => ∀ H3, H3 = H2 → Q v H3
theorem PE.nm {t : TE} (h : PE X e t) : PE X e (tNm t) := ⟨fun pins s σ H Q I q => thn (h.run pins s σ H _ I q) fun u s1 ⟨v, H1, I1, r, q1⟩ => ⟨v, H1, I1, r, q1 H1 rfl⟩⟩
theorem Room.units1 {k : Nat} {A : Around} (r : Room k A) : A.units + 65 < cLine := by have := r.un; omega
end
/-! ### heaps -/
theorem mv {H H' : Hp} {p : Addr} {o : HO} (h : H p = some o) (e : Ex H H') : H' p = some o := e _ _ h
theorem Ex.upd {H H' : Hp} {p : Addr} {o : HO} (e : Ex H H') (h : H p = none) : Ex H (upd H' p o) := Ex.mut e h
/-- all tuples stand -/
def Tm (H H' : Hp) : Prop := ∀ a xs, H a = some (.tup xs) → H' a = some (.tup xs)
theorem Tm.of {H H' : Hp} (e : Ex H H') : Tm H H' := fun a xs h => e a _ h
theorem Tm.trans {H H1 H2 : Hp} (a : Tm H H1) (b : Tm H1 H2) : Tm H H2 := fun x xs h => b x xs (a x xs h)
theorem Tm.upd {H : Hp} {p : Addr} {o : HO} (h : ∀ xs, H p ≠ some (.tup xs)) : Tm H (upd H p o) := fun a xs e => by
  rw [upd_ne (fun z => h xs (by rw [← z]; exact e))]
  exact e
theorem Tm.updL {H : Hp} {p : Addr} {o : HO} {ys : List V} (h : H p = some (.lst ys)) : Tm H (L2.upd H p o) := Tm.upd fun xs z => by rw [h] at z; cases z
theorem szs {n : Nat} (h : n ≤ 100000) : n ≤ sizeLine := Nat.le_trans h (by decide)
theorem szl {n : Nat} (h : n ≤ 100000) : n < sizeLine := Nat.lt_of_le_of_lt h (by decide)
/-! ### steps: each is its own premise -/
section
variable {K : PySem.W.Frag} {σ : L2.St} {H : Hp} {Q : VK} {ta tb te to tc : TE} {t u : TS} {D : Ends} {r r2 : R2} {v x y : V} {i : Nat} {tt tu : TT} {tr : TA}
theorem w_seq (h : t { D with nx := u D } σ H) : tSeq t u D σ H := h
theorem w_asg {g : TG} (h : te σ H fun x H1 => g x σ H1 D.nx) : tAsg te g D σ H := h
theorem w_name {R : L2.St → Hp → Prop} (h : R (σ.set i (some v)) H) : gName i v σ H R := h
theorem w_var (hv : σ[i]? = some (some v)) (h : Q v H) : tVar i σ H Q := ⟨v, hv, h⟩
theorem w_c (h : Q v H) : tC v σ H Q := h
theorem w_op (h : ta σ H fun x H1 => tb σ H1 fun y H2 => r x y H2 Q) : tOp r ta tb σ H Q := h
theorem w_I0 {g : Int → Int → V} {a b : Int} (h : Q (g a b) H) : rI0 g (.int a) (.int b) H Q := ⟨a, b, rfl, rfl, h⟩
theorem w_I {C : Int → Int → Prop} {g : Int → Int → V} {a b : Int} (hc : C a b) (h : Q (g a b) H) : rI C g (.int a) (.int b) H Q := ⟨a, b, rfl, rfl, hc, h⟩
theorem w_eq (hs : scal x y = true) (h : Q (.bl (decide (x = y))) H) : rEq x y H Q := ⟨hs, h⟩
theorem w_ne (hs : scal x y = true) (h : Q (.bl (!decide (x = y))) H) : rNe x y H Q := ⟨hs, h⟩
theorem w_drop (h : te σ H fun _ H1 => D.nx σ H1) : tDrop te D σ H := h
theorem w_ret (h : te σ H D.rt) : tRet te D σ H := h
theorem w_if (h : tt σ H fun b H1 => if b = true then t D σ H1 else u D σ H1) : tIfS tt t u D σ H := h
theorem w_next (h : D.nx σ H) : tNext D σ H := h
theorem w_test {R : Bool → Hp → Prop} (h : te σ H fun x H' => ∃ k, x = .bl k ∧ R k H') : tTest te σ H R := h
theorem w_B {R : Bool → Hp → Prop} (h : te σ H fun x H' => ∃ k, x = .bl k ∧ R k H') : tB te σ H R := h
theorem w_bl {R : Bool → Prop} {b : Bool} (h : R b) : ∃ k, V.bl b = .bl k ∧ R k := ⟨b, rfl, h⟩
theorem w_yes {R : Bool → Hp → Prop} (h : R true H) : tYes σ H R := h
theorem w_not {R : Bool → Hp → Prop} (h : tt σ H fun c H1 => R (!c) H1) : tNot tt σ H R := h
theorem w_and {R : Bool → Hp → Prop} (h : tt σ H fun c H1 => if c = true then tu σ H1 R else R false H1) : tAnd tt tu σ H R := h
theorem w_or {R : Bool → Hp → Prop} (h : tt σ H fun c H1 => if c = true then R true H1 else tu σ H1 R) : tOr tt tu σ H R := h
theorem w_andV (h : ta σ H fun x H1 => ∃ c, x = .bl c ∧ if c = true then tb σ H1 Q else Q (.bl false) H1) : tAndV ta tb σ H Q := h
theorem w_orV (h : ta σ H fun x H1 => ∃ c, x = .bl c ∧ if c = true then Q (.bl true) H1 else tb σ H1 Q) : tOrV ta tb σ H Q := h
theorem w_notV (h : ta σ H fun x H1 => ∃ c, x = .bl c ∧ Q (.bl (!c)) H1) : tNotV ta σ H Q := h
theorem w_cons {R : List V → Hp → Prop} (h : ta σ H fun x H1 => tr σ H1 fun xs H2 => R (x :: xs) H2) : tCons ta tr σ H R := h
theorem w_nil {R : List V → Hp → Prop} (h : R [] H) : tNil σ H R := h
theorem w_cb {rc : List V → Hp → VK → Prop} (h : tr σ H fun vs H1 => rc vs H1 Q) : tCB rc tr σ H Q := h
theorem w_call {sp : Sp} (h : tr σ H fun vs H1 => sp vs H1 Q E0) : tCall sp [] E0 tr σ H Q := by
  have e : (fun (vs : List V) (H1 : Hp) => sp (vs ++ []) H1 Q E0) = fun vs H1 => sp vs H1 Q E0 := by
    funext vs H1
    rw [List.append_nil]
  show tr σ H (fun vs H1 => sp (vs ++ []) H1 Q E0)
  rw [e]
  exact h
theorem w_isN (h : ta σ H fun x H1 => Q (.bl (decide (x = .non))) H1) : tIsN ta σ H Q := h
theorem w_notN (h : ta σ H fun x H1 => Q (.bl (!decide (x = .non))) H1) : tNotN ta σ H Q := h
/-- a new tuple, a new list: the heap has a name again -/
theorem w_nm {t : TE} (h : t σ H fun v H2 => ∀ H3, H3 = H2 → Q v H3) : tNm t σ H Q := h
/-- a new object -/
theorem w_new {o : HO} {R : Addr → Hp → Prop} (h : ∀ p H3, H p = none → Ex H H3 → H3 p = some o → R p H3) : ∀ p, H p = none → ∀ H3, H3 = L2.upd H p o → R p H3 := fun p hp H3 e => h p H3 hp (by rw [e]; exact Ex.new hp) (by rw [e]; exact upd_same)
theorem w_din {tt : TE} {td : TE} (h : tt σ H fun y H1 => td σ H1 fun x H2 => ∃ a o, x = .ref a ∧ DGet H2 a y o ∧ Q (.bl o.isSome) H2) : tDIn tt td σ H Q := h
theorem w_dnotin {tt : TE} {td : TE} (h : tt σ H fun y H1 => td σ H1 fun x H2 => ∃ a o, x = .ref a ∧ DGet H2 a y o ∧ Q (.bl (!o.isSome)) H2) : tDNotIn tt td σ H Q := h
theorem w_dput {tt td tv : TE} (h : tv σ H fun v H1 => td σ H1 fun x H2 => tt σ H2 fun y H3 => ∃ a H4, x = .ref a ∧ DPut H3 a y v H4 ∧ D.nx σ H4) : sDPut td tt tv D σ H := h
theorem w_dget1 {td ty : TE} (h : td σ H fun x H1 => ∃ a, x = .ref a ∧ IsD H1 a ∧ ty σ H1 fun y H2 => ∃ o, DGet H2 a y o ∧ Q (o.getD .non) H2) : tDGet1 td ty σ H Q := h
theorem w_dget2 {td ty tx : TE} (h : td σ H fun x H1 => ∃ a, x = .ref a ∧ IsD H1 a ∧ ty σ H1 fun y H2 => tx σ H2 fun z H3 => ∃ o, DGet H3 a y o ∧ Q (o.getD z) H3) : tDGet2 td ty tx σ H Q := h
theorem w_bm {T : String} {rm : V → List V → Hp → VK → Prop} (h : to σ H fun x H1 => tyV K T x H1 ∧ tr σ H1 fun xs H2 => rm x xs H2 Q) : tBM K T rm to tr σ H Q := h
theorem w_bm0 {T : String} {rm : V → List V → Hp → VK → Prop} (h : to σ H fun x H1 => tyV K T x H1 ∧ rm x [] H1 Q) : tBM0 K T rm to σ H Q := h
theorem w_sfld {tv : TE} {f : Str} (h : tv σ H fun y H1 => ta σ H1 fun x H2 => ∃ a C dx fs, x = .ref a ∧ H2 a = some (.ins C dx fs) ∧ Cls K C ∧ NoAttr K C f ∧ fs.length < 1000 ∧ D.nx σ (L2.upd H2 a (.ins C dx (putF f y fs)))) : sFld K ta tv f D σ H := h
theorem w_make {C : Addr} {sp : Sp} (h : tr σ H fun vs H1 => ∀ x dx, H1 x = none → H1 dx = none → dx ≠ x → sp (.ref x :: vs) (L2.upd (L2.upd H1 dx (.own x)) x (.ins C dx [])) (fun v H2 => v = .non ∧ Q (.ref x) H2) E0) : tMake C sp [] E0 tr σ H Q := by
  have e : (fun (vs : List V) (H1 : Hp) => ∀ x dx, H1 x = none → H1 dx = none → dx ≠ x → sp (.ref x :: (vs ++ [])) (L2.upd (L2.upd H1 dx (.own x)) x (.ins C dx [])) (fun v H2 => v = .non ∧ Q (.ref x) H2) E0) = fun vs H1 => ∀ x dx, H1 x = none → H1 dx = none → dx ≠ x → sp (.ref x :: vs) (L2.upd (L2.upd H1 dx (.own x)) x (.ins C dx [])) (fun v H2 => v = .non ∧ Q (.ref x) H2) E0 := by
    funext vs H1
    rw [List.append_nil]
  unfold tMake
  rw [e]
  exact h
theorem w_part {R : Option Int → Hp → Prop} (h : te σ H fun x H1 => ∃ i, x = .int i ∧ R (some i) H1) : tPart te σ H R := h
theorem w_tupT (h : tr σ H fun xs H1 => xs.length ≤ sizeLine ∧ ∀ p, H1 p = none → Q (.ref p) (L2.upd H1 p (.tup xs))) : tTup tr σ H Q := h
theorem w_lstT (h : tr σ H fun xs H1 => xs.length ≤ sizeLine ∧ ∀ p, H1 p = none → Q (.ref p) (L2.upd H1 p (.lst xs))) : tLst tr σ H Q := h
theorem w_dnewK (h : ∀ p H2, H p = none → Ex H H2 → H2 p = some (.dK []) → Q (.ref p) H2) : tDNewK σ H Q := fun p hp => h p _ hp (Ex.new hp) upd_same
theorem w_dnewT (h : ∀ p H2, H p = none → Ex H H2 → H2 p = some (.dT []) → Q (.ref p) H2) : tDNewT σ H Q := fun p hp => h p _ hp (Ex.new hp) upd_same
theorem w_dget (h : to σ H fun x H1 => te σ H1 fun y H2 => ∃ a v, x = .ref a ∧ DGet H2 a y (some v) ∧ Q v H2) : tDGet to te σ H Q := h
theorem w_fld {f : Str} (h : ta σ H fun x H1 => ∃ a C dx fs v, x = .ref a ∧ H1 a = some (.ins C dx fs) ∧ Cls K C ∧ NoAttr K C f ∧ fs.lookup f = some v ∧ Q v H1) : tFld K ta f σ H Q := h
theorem w_meth {C : Addr} {m : Str} {sp : Sp} (h : ta σ H fun x H1 => ∃ a dx fs, x = .ref a ∧ H1 a = some (.ins C dx fs) ∧ fs.lookup m = none ∧ tr σ H1 fun vs H2 => sp (x :: vs) H2 Q E0) : tMeth C m sp [] E0 ta tr σ H Q := by
  unfold tMeth
  have e : (fun (x : V) (H1 : Hp) => ∃ a dx fs, x = .ref a ∧ H1 a = some (.ins C dx fs) ∧ fs.lookup m = none ∧ tr σ H1 fun vs H2 => sp (x :: (vs ++ [])) H2 Q E0) = fun x H1 => ∃ a dx fs, x = .ref a ∧ H1 a = some (.ins C dx fs) ∧ fs.lookup m = none ∧ tr σ H1 fun vs H2 => sp (x :: vs) H2 Q E0 := by
    funext x H1
    congr 1
    funext a
    congr 1
    funext dx
    congr 1
    funext fs
    have : (fun (vs : List V) (H2 : Hp) => sp (x :: (vs ++ [])) H2 Q E0) = fun vs H2 => sp (x :: vs) H2 Q E0 := by
      funext vs H2
      rw [List.append_nil]
    rw [this]
  rw [e]
  exact h
theorem w_ixL {a : Addr} {xs : List V} {z : Int} (hs : SqL K H a xs) (hx : atI xs z = some v) (h : Q v H) : rIxL K (.ref a) (.int z) H Q := ⟨a, xs, z, v, rfl, rfl, hs, hx, h⟩
theorem w_ixT {a : Addr} {xs : List V} {z : Int} (hs : SqT K H a xs) (hx : atI xs z = some v) (h : Q v H) : rIxT K (.ref a) (.int z) H Q := ⟨a, xs, z, v, rfl, rfl, hs, hx, h⟩
theorem w_asgG {g : TG} {R : L2.St → Hp → Prop} {n : Nat} {tg : TGs} {a : Addr} {xs : List V} (hs : SqT K H a xs) (hl : xs.length = n) (h : tg xs σ H R) : gTup K n tg (.ref a) σ H R := ⟨a, xs, rfl, hs, hl, h⟩
theorem w_gcons {g : TG} {gs : TGs} {vs : List V} {R : L2.St → Hp → Prop} (h : g v σ H fun σ' H' => gs vs σ' H' R) : gCons g gs (v :: vs) σ H R := ⟨v, vs, rfl, h⟩
theorem w_gnil {R : L2.St → Hp → Prop} (h : R σ H) : gNil [] σ H R := ⟨rfl, h⟩
theorem w_chain (h : ta σ H fun x H1 => tb σ H1 fun y H2 => r x y H2 fun z H3 => ∃ k, z = .bl k ∧ (if k = true then tc σ H3 fun w' H4 => r2 y w' H4 Q else Q (.bl false) H3)) : tChain r r2 ta tb tc σ H Q := h
theorem w_sl {r : V → Option Int → Option Int → Hp → VK → Prop} {tl th : TO} (h : te σ H fun x H1 => tl σ H1 fun lo H2 => th σ H2 fun hi H3 => r x lo hi H3 Q) : tSl r te tl th σ H Q := h
theorem w_nopart {R : Option Int → Hp → Prop} (h : R none H) : tNoPart σ H R := h
theorem w_altL (h : ta σ H Q) : tAlt ta tb σ H Q := .inl h
theorem w_altR (h : tb σ H Q) : tAlt ta tb σ H Q := .inr h
theorem w_for {wi : TI} {g : TG} (h : wi σ H fun J H1 => ∃ W : Nat → Nat → L2.St → Hp → Prop, (∃ m, W 0 m σ H1) ∧ ∀ i m σ H, W i m σ H →
    (J.stop i H ∧ D.nx σ H) ∨ (J.go i H ∧ ∃ N : L2.St → Hp → Prop, (∀ σ' H', N σ' H' → ∃ m', m' < m ∧ W (i + 1) m' σ' H') ∧ ∀ x H', J.yld i H x H' → g x σ H' fun σ2 H2 => t { D with nx := N, ct := N, bk := D.nx } σ2 H2)) : tFor wi g t D σ H := h
theorem w_iL {R : It → Hp → Prop} (h : te σ H fun x H1 => ∃ a, x = .ref a ∧ (∃ xs, SqL K H1 a xs) ∧ R (Itl K a) H1) : iList K te σ H R := h
theorem w_iT {R : It → Hp → Prop} (h : te σ H fun x H1 => ∃ a, x = .ref a ∧ (∃ xs, SqT K H1 a xs) ∧ R (Itt K a) H1) : iTup K te σ H R := h
theorem w_iR1 {R : It → Hp → Prop} (h : tr σ H fun vs H1 => ∃ j : Int, vs = [.int j] ∧ -(2 ^ 62) ≤ j ∧ j < 2 ^ 62 ∧ R (Itr 0 j.toNat) H1) : iRng1 tr σ H R := h
theorem w_iR2 {R : It → Hp → Prop} (h : tr σ H fun vs H1 => ∃ i j : Int, vs = [.int i, .int j] ∧ (-(2 ^ 62) ≤ i ∧ i < 2 ^ 62 ∧ -(2 ^ 62) ≤ j ∧ j < 2 ^ 62) ∧ R (Itr i (j - i).toNat) H1) : iRng2 tr σ H R := h
theorem w_iE {R : It → Hp → Prop} (h : tr σ H fun vs H1 => ∃ a xs, vs = [.ref a] ∧ SqL K H1 a xs ∧ R (Ite K a) H1) : iEnum K tr σ H R := h
theorem w_iS {R : It → Hp → Prop} (h : te σ H fun v H1 => ∃ x, v = .str x ∧ R (Its x) H1) : iStr te σ H R := h
theorem w_lc {wi : TI} {g : TG} {vs : List Nat} (h : wi σ H fun J H1 => ∀ D, H1 D = none → ∃ W : Nat → Nat → Hp → Prop, (∃ m, W 0 m (L2.upd H1 D (.lst []))) ∧ ∀ i m H, W i m H →
      (J.stop i H ∧ Q (.ref D) H) ∨ (J.go i H ∧ ∃ Nx : Hp → Prop, (∀ H', Nx H' → ∃ m', m' < m ∧ W (i + 1) m' H') ∧ ∀ x H', J.yld i H x H' → g x (wipe σ vs) H' fun σ2 H2 => wipe σ2 vs = wipe σ vs ∧ tt σ2 H2 fun b H3 =>
        if b = true then te σ2 H3 fun y H4 => ∃ acc, H4 D = some (.lst acc) ∧ acc.length < sizeLine ∧ Nx (L2.upd H4 D (.lst (acc ++ [y]))) else Nx H3)) : tLc wi g tt te vs σ H Q := h
theorem w_gtup {n : Nat} {tg : TGs} {R : L2.St → Hp → Prop} {v : V} (h : ∃ a xs, v = .ref a ∧ SqT K H a xs ∧ xs.length = n ∧ tg xs σ H R) : gTup K n tg v σ H R := h
theorem w_gcs {g : TG} {gs : TGs} {v : V} {vs : List V} {R : L2.St → Hp → Prop} (h : g v σ H fun σ' H' => gs vs σ' H' R) : gCons g gs (v :: vs) σ H R := ⟨v, vs, rfl, h⟩
theorem w_aug {ti : TIp} (hv : σ[i]? = some (some x)) (h : te σ H fun y H1 => ti x y H1 fun z H2 => D.nx (σ.set i (some z)) H2) : tAug i te ti D σ H := ⟨x, hv, h⟩
theorem w_ip {f : Int → Int → Int} {a b : Int} (h : Q (.int (f a b)) H) : ipI f (.int a) (.int b) H Q := ⟨a, b, rfl, rfl, h⟩
/-- branches -/
theorem br {b : Bool} {A B : Prop} (h1 : b = true → A) (h2 : b = false → B) : if b = true then A else B := by
  cases b with
  | true => exact h1 rfl
  | false => exact h2 rfl
theorem brT {b : Bool} {A B : Prop} (h : b = true) (h1 : A) : if b = true then A else B := by rw [if_pos h]; exact h1
theorem brF {b : Bool} {A B : Prop} (h : b = false) (h1 : B) : if b = true then A else B := by rw [if_neg (by rw [h]; exact Bool.false_ne_true)]; exact h1
end
/-! ### comprehensions -/
theorem lc_gen {J : It} {n : Nat} {G : Hp → Prop} {Y : Nat → Hp → V → Hp → Prop} (wk : Walk J n G Y) {g : TG} {tt : TT} {te : TE} {vs : List Nat} {σ : L2.St} {H1 : Hp} {Q : Addr → Hp → Prop} (P : Nat → List V → Hp → Prop)
    (mono : ∀ i ys H H', Tm H H' → P i ys H → P i ys H') (hG : ∀ H', Ex H1 H' → G H') (hY : ∀ i H x H', Y i H x H' → Ex H H') (h0 : P 0 [] H1) (hn : n ≤ 100000)
    (step : ∀ i x ys H' H'', i < n → Ex H1 H' → P i ys H' → Y i H' x H'' → ∀ (N : V → Hp → Prop) (M : Hp → Prop), (∀ y H4, Ex H'' H4 → P (i + 1) (ys ++ [y]) H4 → N y H4) → (∀ H3, Ex H'' H3 → P (i + 1) ys H3 → M H3) →
      g x (wipe σ vs) H'' fun σ2 H2 => wipe σ2 vs = wipe σ vs ∧ tt σ2 H2 fun b H3 => if b = true then te σ2 H3 N else M H3)
    (done : ∀ D ys H', H1 D = none → Ex H1 H' → H' D = some (.lst ys) → ys.length ≤ n → P n ys H' → Q D H') :
    ∀ D, H1 D = none → ∃ W : Nat → Nat → Hp → Prop, (∃ m, W 0 m (upd H1 D (.lst []))) ∧ ∀ i m H, W i m H →
      (J.stop i H ∧ Q D H) ∨ (J.go i H ∧ ∃ Nx : Hp → Prop, (∀ H', Nx H' → ∃ m', m' < m ∧ W (i + 1) m' H') ∧ ∀ x H', J.yld i H x H' → g x (wipe σ vs) H' fun σ2 H2 => wipe σ2 vs = wipe σ vs ∧ tt σ2 H2 fun b H3 =>
        if b = true then te σ2 H3 fun y H4 => ∃ acc, H4 D = some (.lst acc) ∧ acc.length < sizeLine ∧ Nx (upd H4 D (.lst (acc ++ [y]))) else Nx H3) := by
  intro D hD
  refine lc_it wk (fun i H' => Ex H1 H' ∧ ∃ ys, H' D = some (.lst ys) ∧ ys.length ≤ i ∧ P i ys H') ?_ (fun i H' _ ⟨e, _⟩ => hG H' e) ?_ ?_
  · exact ⟨Ex.new hD, [], upd_same, Nat.le_refl _, mono _ _ _ _ (Tm.of (Ex.new hD)) h0⟩
  · rintro i x H' H'' hi ⟨e, ys, hys, hl, hP⟩ hy
    have eY := hY i H' x H'' hy
    refine step i x ys H' H'' hi e hP hy _ _ (fun y H4 e4 p4 => ?_) (fun H3 e3 p3 => ?_)
    · have hD4 : H4 D = some (.lst ys) := e4 _ _ (eY _ _ hys)
      refine ⟨ys, hD4, szl (by omega), Ex.mut ((e.trans eY).trans e4) hD, ys ++ [y], upd_same, ?_, mono _ _ _ _ (Tm.updL hD4) p4⟩
      rw [List.length_append]
      exact Nat.succ_le_succ hl
    · exact ⟨(e.trans eY).trans e3, ys, e3 _ _ (eY _ _ hys), Nat.le_succ_of_le hl, p3⟩
  · rintro H' ⟨e, ys, hys, hl, hP⟩
    exact done D ys H' hD e hys hl hP
/-- over a list -/
theorem lc_L {K : PySem.W.Frag} {a : Addr} {xs : List V} {g : TG} {tt : TT} {te : TE} {vs : List Nat} {σ : L2.St} {H1 : Hp} {Q : Addr → Hp → Prop} (hS : SqL K H1 a xs) (P : Nat → List V → Hp → Prop)
    (mono : ∀ i ys H H', Tm H H' → P i ys H → P i ys H') (h0 : P 0 [] H1) (hn : xs.length ≤ 100000)
    (step : ∀ i x ys H', xs[i]? = some x → Ex H1 H' → P i ys H' → ∀ (N : V → Hp → Prop) (M : Hp → Prop), (∀ y H4, Ex H' H4 → P (i + 1) (ys ++ [y]) H4 → N y H4) → (∀ H3, Ex H' H3 → P (i + 1) ys H3 → M H3) →
      g x (wipe σ vs) H' fun σ2 H2 => wipe σ2 vs = wipe σ vs ∧ tt σ2 H2 fun b H3 => if b = true then te σ2 H3 N else M H3)
    (done : ∀ D ys H', H1 D = none → Ex H1 H' → H' D = some (.lst ys) → ys.length ≤ xs.length → P xs.length ys H' → Q D H') :
    ∀ D, H1 D = none → ∃ W : Nat → Nat → Hp → Prop, (∃ m, W 0 m (upd H1 D (.lst []))) ∧ ∀ i m H, W i m H →
      ((Itl K a).stop i H ∧ Q D H) ∨ ((Itl K a).go i H ∧ ∃ Nx : Hp → Prop, (∀ H', Nx H' → ∃ m', m' < m ∧ W (i + 1) m' H') ∧ ∀ x H', (Itl K a).yld i H x H' → g x (wipe σ vs) H' fun σ2 H2 => wipe σ2 vs = wipe σ vs ∧ tt σ2 H2 fun b H3 =>
        if b = true then te σ2 H3 fun y H4 => ∃ acc, H4 D = some (.lst acc) ∧ acc.length < sizeLine ∧ Nx (upd H4 D (.lst (acc ++ [y]))) else Nx H3) :=
  lc_gen (walk_list (K := K) (a := a) (xs := xs)) P mono (fun H' e => Evl.ex_l e hS) (fun i H x H' y => by rw [y.1]; exact Ex.refl H) h0 hn
    (fun i x ys H' H'' _ e p y N M => by obtain ⟨rfl, y⟩ := y; exact step i x ys H'' y e p N M) done
/-- over a tuple -/
theorem lc_T {K : PySem.W.Frag} {a : Addr} {xs : List V} {g : TG} {tt : TT} {te : TE} {vs : List Nat} {σ : L2.St} {H1 : Hp} {Q : Addr → Hp → Prop} (hS : SqT K H1 a xs) (P : Nat → List V → Hp → Prop)
    (mono : ∀ i ys H H', Tm H H' → P i ys H → P i ys H') (h0 : P 0 [] H1) (hn : xs.length ≤ 100000)
    (step : ∀ i x ys H', xs[i]? = some x → Ex H1 H' → P i ys H' → ∀ (N : V → Hp → Prop) (M : Hp → Prop), (∀ y H4, Ex H' H4 → P (i + 1) (ys ++ [y]) H4 → N y H4) → (∀ H3, Ex H' H3 → P (i + 1) ys H3 → M H3) →
      g x (wipe σ vs) H' fun σ2 H2 => wipe σ2 vs = wipe σ vs ∧ tt σ2 H2 fun b H3 => if b = true then te σ2 H3 N else M H3)
    (done : ∀ D ys H', H1 D = none → Ex H1 H' → H' D = some (.lst ys) → ys.length ≤ xs.length → P xs.length ys H' → Q D H') :
    ∀ D, H1 D = none → ∃ W : Nat → Nat → Hp → Prop, (∃ m, W 0 m (upd H1 D (.lst []))) ∧ ∀ i m H, W i m H →
      ((Itt K a).stop i H ∧ Q D H) ∨ ((Itt K a).go i H ∧ ∃ Nx : Hp → Prop, (∀ H', Nx H' → ∃ m', m' < m ∧ W (i + 1) m' H') ∧ ∀ x H', (Itt K a).yld i H x H' → g x (wipe σ vs) H' fun σ2 H2 => wipe σ2 vs = wipe σ vs ∧ tt σ2 H2 fun b H3 =>
        if b = true then te σ2 H3 fun y H4 => ∃ acc, H4 D = some (.lst acc) ∧ acc.length < sizeLine ∧ Nx (upd H4 D (.lst (acc ++ [y]))) else Nx H3) :=
  lc_gen (walk_tup (K := K) (a := a) (xs := xs)) P mono (fun H' e => Evl.ex_t e hS) (fun i H x H' y => by rw [y.1]; exact Ex.refl H) h0 hn
    (fun i x ys H' H'' _ e p y N M => by obtain ⟨rfl, y⟩ := y; exact step i x ys H'' y e p N M) done
/-- over range(lo, ..) -/
theorem lc_R {lo : Int} {n : Nat} {g : TG} {tt : TT} {te : TE} {vs : List Nat} {σ : L2.St} {H1 : Hp} {Q : Addr → Hp → Prop} (P : Nat → List V → Hp → Prop)
    (mono : ∀ i ys H H', Tm H H' → P i ys H → P i ys H') (h0 : P 0 [] H1) (hn : n ≤ 100000)
    (step : ∀ i ys H', i < n → Ex H1 H' → P i ys H' → ∀ (N : V → Hp → Prop) (M : Hp → Prop), (∀ y H4, Ex H' H4 → P (i + 1) (ys ++ [y]) H4 → N y H4) → (∀ H3, Ex H' H3 → P (i + 1) ys H3 → M H3) →
      g (.int (lo + i)) (wipe σ vs) H' fun σ2 H2 => wipe σ2 vs = wipe σ vs ∧ tt σ2 H2 fun b H3 => if b = true then te σ2 H3 N else M H3)
    (done : ∀ D ys H', H1 D = none → Ex H1 H' → H' D = some (.lst ys) → ys.length ≤ n → P n ys H' → Q D H') :
    ∀ D, H1 D = none → ∃ W : Nat → Nat → Hp → Prop, (∃ m, W 0 m (upd H1 D (.lst []))) ∧ ∀ i m H, W i m H →
      ((Itr lo n).stop i H ∧ Q D H) ∨ ((Itr lo n).go i H ∧ ∃ Nx : Hp → Prop, (∀ H', Nx H' → ∃ m', m' < m ∧ W (i + 1) m' H') ∧ ∀ x H', (Itr lo n).yld i H x H' → g x (wipe σ vs) H' fun σ2 H2 => wipe σ2 vs = wipe σ vs ∧ tt σ2 H2 fun b H3 =>
        if b = true then te σ2 H3 fun y H4 => ∃ acc, H4 D = some (.lst acc) ∧ acc.length < sizeLine ∧ Nx (upd H4 D (.lst (acc ++ [y]))) else Nx H3) :=
  lc_gen (walk_range (lo := lo) (n := n)) P mono (fun H' e => trivial) (fun i H x H' y => by rw [y.1]; exact Ex.refl H) h0 hn
    (fun i x ys H' H'' hi e p y N M => by obtain ⟨rfl, y⟩ := y; rw [y]; exact step i ys H'' hi e p N M) done
/-- over enumerate(list): the pair is a new tuple -/
theorem lc_E {K : PySem.W.Frag} {a : Addr} {xs : List V} {g : TG} {tt : TT} {te : TE} {vs : List Nat} {σ : L2.St} {H1 : Hp} {Q : Addr → Hp → Prop} (hS : SqL K H1 a xs) (P : Nat → List V → Hp → Prop)
    (mono : ∀ i ys H H', Tm H H' → P i ys H → P i ys H') (h0 : P 0 [] H1) (hn : xs.length ≤ 100000)
    (step : ∀ i x T ys H' H'', xs[i]? = some x → Ex H1 H' → P i ys H' → Ex H' H'' → H'' T = some (.tup [.int (i : Nat), x]) → ∀ (N : V → Hp → Prop) (M : Hp → Prop), (∀ y H4, Ex H'' H4 → P (i + 1) (ys ++ [y]) H4 → N y H4) → (∀ H3, Ex H'' H3 → P (i + 1) ys H3 → M H3) →
      g (.ref T) (wipe σ vs) H'' fun σ2 H2 => wipe σ2 vs = wipe σ vs ∧ tt σ2 H2 fun b H3 => if b = true then te σ2 H3 N else M H3)
    (done : ∀ D ys H', H1 D = none → Ex H1 H' → H' D = some (.lst ys) → ys.length ≤ xs.length → P xs.length ys H' → Q D H') :
    ∀ D, H1 D = none → ∃ W : Nat → Nat → Hp → Prop, (∃ m, W 0 m (upd H1 D (.lst []))) ∧ ∀ i m H, W i m H →
      ((Ite K a).stop i H ∧ Q D H) ∨ ((Ite K a).go i H ∧ ∃ Nx : Hp → Prop, (∀ H', Nx H' → ∃ m', m' < m ∧ W (i + 1) m' H') ∧ ∀ x H', (Ite K a).yld i H x H' → g x (wipe σ vs) H' fun σ2 H2 => wipe σ2 vs = wipe σ vs ∧ tt σ2 H2 fun b H3 =>
        if b = true then te σ2 H3 fun y H4 => ∃ acc, H4 D = some (.lst acc) ∧ acc.length < sizeLine ∧ Nx (upd H4 D (.lst (acc ++ [y]))) else Nx H3) :=
  lc_gen (walk_enum (K := K) (a := a) (xs := xs)) P mono (fun H' e => Evl.ex_l e hS) (fun i H x H' y => by obtain ⟨T, x, z, _, hT, rfl, _⟩ := y; exact Ex.new hT) h0 hn
    (fun i x ys H' H'' _ e p y N M => by
      obtain ⟨T, x, z, rfl, hT, rfl, h1, h2⟩ := y
      rw [← Option.some.inj h1]
      exact step i z T ys H' _ h2 e p (Ex.new hT) upd_same N M) done
/-- over a text -/
theorem lc_S {z : Str} {g : TG} {tt : TT} {te : TE} {vs : List Nat} {σ : L2.St} {H1 : Hp} {Q : Addr → Hp → Prop} (P : Nat → List V → Hp → Prop)
    (mono : ∀ i ys H H', Tm H H' → P i ys H → P i ys H') (h0 : P 0 [] H1) (hn : z.cps.size ≤ 100000)
    (step : ∀ i c ys H', z.cps[i]? = some c → Ex H1 H' → P i ys H' → ∀ (N : V → Hp → Prop) (M : Hp → Prop), (∀ y H4, Ex H' H4 → P (i + 1) (ys ++ [y]) H4 → N y H4) → (∀ H3, Ex H' H3 → P (i + 1) ys H3 → M H3) →
      g (.str ⟨#[c]⟩) (wipe σ vs) H' fun σ2 H2 => wipe σ2 vs = wipe σ vs ∧ tt σ2 H2 fun b H3 => if b = true then te σ2 H3 N else M H3)
    (done : ∀ D ys H', H1 D = none → Ex H1 H' → H' D = some (.lst ys) → ys.length ≤ z.cps.size → P z.cps.size ys H' → Q D H') :
    ∀ D, H1 D = none → ∃ W : Nat → Nat → Hp → Prop, (∃ m, W 0 m (upd H1 D (.lst []))) ∧ ∀ i m H, W i m H →
      ((Its z).stop i H ∧ Q D H) ∨ ((Its z).go i H ∧ ∃ Nx : Hp → Prop, (∀ H', Nx H' → ∃ m', m' < m ∧ W (i + 1) m' H') ∧ ∀ x H', (Its z).yld i H x H' → g x (wipe σ vs) H' fun σ2 H2 => wipe σ2 vs = wipe σ vs ∧ tt σ2 H2 fun b H3 =>
        if b = true then te σ2 H3 fun y H4 => ∃ acc, H4 D = some (.lst acc) ∧ acc.length < sizeLine ∧ Nx (upd H4 D (.lst (acc ++ [y]))) else Nx H3) :=
  lc_gen (walk_str (z := z)) P mono (fun H' e => trivial) (fun i H x H' y => by rw [y.1]; exact Ex.refl H) h0 hn
    (fun i x ys H' H'' _ e p y N M => by obtain ⟨rfl, c, hc, rfl⟩ := y; exact step i c ys H'' hc e p N M) done
/-! ### lists -/
theorem tk {A : Type} {xs : List A} {i : Nat} {x : A} (h : xs[i]? = some x) : xs.take (i + 1) = xs.take i ++ [x] := by
  rw [List.take_succ, h]; rfl
theorem map_at {A : Type} {f : A → V} {xs : List A} {i : Nat} {y : V} (h : (xs.map f)[i]? = some y) : ∃ x, xs[i]? = some x ∧ y = f x := by
  rw [List.getElem?_map] at h
  cases e : xs[i]? with
  | none => rw [e] at h; cases h
  | some x => rw [e] at h; exact ⟨x, rfl, (Option.some.inj h).symm⟩
theorem lt_of_at {A : Type} {xs : List A} {i : Nat} {x : A} (h : xs[i]? = some x) : i < xs.length := (List.getElem?_eq_some_iff.mp h).1
end K96

set_option Elab.async false
set_option linter.all false
set_option maxRecDepth 100000
set_option maxHeartbeats 4000000
/-! K96M: the plain law, first part: the rounds and what their labels are. No program here. -/
namespace K96M
variable {A : Type} [DecidableEq A]
/-- a ground: the places, where roads lead -/
structure Gr (A : Type) where
  ns : List A
  rd : A → List A
structure Gr.Ok (g : Gr A) : Prop where
  nd : g.ns.Nodup
  cl : ∀ a ∈ g.ns, ∀ b ∈ g.rd a, b ∈ g.ns
/-- whether a place gets the number n by what is known -/
def gets (g : Gr A) (f : A → Option Nat) (a : A) (n : Nat) : Bool :=
  (List.range n).all (fun l => (g.rd a).any (fun b => f b == some l)) && !(g.rd a).any (fun b => f b == some n) && (g.rd a).all (fun b => (f b).isSome || (g.rd b).any (fun c => f c == some n))
def coming (g : Gr A) (f : A → Option Nat) (n : Nat) : List A := g.ns.filter (fun a => (f a).isNone && gets g f a n)
/-- the places of c get n -/
def put (f : A → Option Nat) (c : List A) (n : Nat) : A → Option Nat := fun a => if a ∈ c then some n else f a
def loop (g : Gr A) : Nat → (A → Option Nat) → List (Nat × List A) → Nat → Bool → List (Nat × List A)
  | 0, _, rs, _, _ => rs
  | k + 1, f, rs, n, sm => if (coming g f n).isEmpty then (if sm then loop g k f rs (n + 1) false else rs) else loop g k (put f (coming g f n) n) (rs ++ [(n, coming g f n)]) n true
def left (g : Gr A) (f : A → Option Nat) : Nat := (g.ns.filter (fun a => (f a).isNone)).length
def meas (g : Gr A) (f : A → Option Nat) (sm : Bool) : Nat := 2 * left g f + if sm then 1 else 0
def rounds (g : Gr A) : List (Nat × List A) := loop g (2 * g.ns.length + 1) (fun _ => none) [] 0 false
theorem coming_mem {g : Gr A} {f : A → Option Nat} {n : Nat} {a : A} : a ∈ coming g f n ↔ a ∈ g.ns ∧ f a = none ∧ gets g f a n = true := by
  unfold coming
  rw [List.mem_filter, Bool.and_eq_true, Option.isNone_iff_eq_none]
theorem filter_lt {l : List A} {p q : A → Bool} (h : ∀ a ∈ l, q a = true → p a = true) {x : A} (hx : x ∈ l) (h1 : p x = true) (h2 : q x = false) : (l.filter q).length < (l.filter p).length := by
  induction l with
  | nil => simp at hx
  | cons a r ih =>
    have hr : ∀ r : List A, (∀ a ∈ r, q a = true → p a = true) → (r.filter q).length ≤ (r.filter p).length := by
      intro r
      induction r with
      | nil => intro _; simp
      | cons b s ihs =>
        intro hh
        have hb := hh b (by simp)
        have hs := ihs (fun a ha => hh a (by simp [ha]))
        rw [List.filter_cons, List.filter_cons]
        cases eq : q b with
        | true => rw [hb eq]; simp; omega
        | false =>
          cases ep : p b with
          | true => simp; omega
          | false => simp; omega
    rcases List.mem_cons.mp hx with e | hx'
    · subst e
      rw [List.filter_cons, List.filter_cons, h1, h2]
      have := hr r (fun a ha => h a (by simp [ha]))
      simp
      omega
    · have h3 := ih (fun a ha => h a (by simp [ha])) hx'
      have hb := h a (by simp)
      rw [List.filter_cons, List.filter_cons]
      cases eq : q a with
      | true => rw [hb eq]; simp; omega
      | false =>
        cases ep : p a with
        | true => simp; omega
        | false => simp; omega
theorem left_put {g : Gr A} {f : A → Option Nat} {n : Nat} (h : (coming g f n).isEmpty = false) : left g (put f (coming g f n) n) < left g f := by
  obtain ⟨x, hx⟩ : ∃ x, x ∈ coming g f n := by
    cases e : coming g f n with
    | nil => rw [e] at h; simp at h
    | cons x r => exact ⟨x, by simp⟩
  obtain ⟨h1, h2, _⟩ := coming_mem.mp hx
  refine filter_lt (fun a _ q => ?_) h1 (by rw [h2]; rfl) (by unfold put; rw [if_pos hx]; rfl)
  unfold put at q
  by_cases ha : a ∈ coming g f n
  · rw [if_pos ha] at q; simp at q
  · rw [if_neg ha] at q; exact q
theorem meas_put {g : Gr A} {f : A → Option Nat} {n : Nat} {sm : Bool} (h : (coming g f n).isEmpty = false) : meas g (put f (coming g f n) n) true < meas g f sm := by
  have := left_put h
  unfold meas
  simp only [if_true]
  omega
theorem meas_next {g : Gr A} {f : A → Option Nat} : meas g f false < meas g f true := by
  unfold meas
  simp
theorem meas_start (g : Gr A) : meas g (fun _ => none) false < 2 * g.ns.length + 1 := by
  have h : left g (fun _ => none) ≤ g.ns.length := List.length_filter_le _ _
  unfold meas
  simp only [Bool.false_eq_true, if_false]
  omega
/-- the number and the step of a place, as the rows of rounds tell them, from the i-th on -/
def numd (rs : List (Nat × List A)) (i : Nat) (f : A → Option (Nat × Nat)) : A → Option (Nat × Nat) := match rs with
  | [] => f
  | r :: rest => numd rest (i + 1) (fun a => if a ∈ r.2 then some (r.1, i) else f a)
theorem numd_snoc (rs : List (Nat × List A)) (r : Nat × List A) : ∀ (i : Nat) (f : A → Option (Nat × Nat)) (a : A), numd (rs ++ [r]) i f a = if a ∈ r.2 then some (r.1, i + rs.length) else numd rs i f a := by
  induction rs with
  | nil => intro i f a; simp [numd]
  | cons q rest ih =>
    intro i f a
    show numd (rest ++ [r]) (i + 1) _ a = _
    rw [ih, List.length_cons]
    rw [show i + 1 + rest.length = i + (rest.length + 1) by omega]
    rfl
def lab0 (g : Gr A) : A → Option (Nat × Nat) := numd (rounds g) 0 (fun _ => none)
/-- what holds between two turns of the loop -/
structure Inv (g : Gr A) (f : A → Option Nat) (rs : List (Nat × List A)) (n : Nat) (sm : Bool) : Prop where
  num : ∀ a, (numd rs 0 (fun _ => none) a).map (·.1) = f a
  ins : ∀ a k, f a = some k → a ∈ g.ns
  le : ∀ a k, f a = some k → k ≤ n
  lt : sm = false → ∀ a k, f a = some k → k < n
  some_ : ∀ k, k < n → ∃ a, f a = some k
  stp : ∀ a k s, numd rs 0 (fun _ => none) a = some (k, s) → s < rs.length
  /-- each numbered place -/
  good : ∀ a k s, numd rs 0 (fun _ => none) a = some (k, s) →
    (∀ l, l < k → ∃ b ∈ g.rd a, ∃ t, numd rs 0 (fun _ => none) b = some (l, t) ∧ t < s) ∧
    (∀ b ∈ g.rd a, f b ≠ some k) ∧
    (∀ b ∈ g.rd a, (∃ l t, numd rs 0 (fun _ => none) b = some (l, t) ∧ l < k ∧ t < s) ∨ ∃ c ∈ g.rd b, ∃ t, numd rs 0 (fun _ => none) c = some (k, t) ∧ t < s)
  /-- each number that is done with -/
  done : ∀ m, m < n → ∀ a ∈ g.ns, (∀ k, f a = some k → m < k) → (∀ l, l < m → ∃ b ∈ g.rd a, f b = some l) → (∀ b ∈ g.rd a, f b ≠ some m) → ∃ b ∈ g.rd a, (∀ k, f b = some k → m < k) ∧ ∀ c ∈ g.rd b, f c ≠ some m
theorem gets_iff {g : Gr A} {f : A → Option Nat} {a : A} {n : Nat} : gets g f a n = true ↔ (∀ l, l < n → ∃ b ∈ g.rd a, f b = some l) ∧ (∀ b ∈ g.rd a, f b ≠ some n) ∧ ∀ b ∈ g.rd a, f b = none → ∃ c ∈ g.rd b, f c = some n := by
  unfold gets
  simp only [Bool.and_eq_true, List.all_eq_true, List.mem_range, List.any_eq_true, beq_iff_eq, Bool.not_eq_true', Bool.or_eq_true]
  constructor
  · rintro ⟨⟨h1, h2⟩, h3⟩
    refine ⟨h1, fun b hb e => ?_, fun b hb e => ?_⟩
    · have : (g.rd a).any (fun b => f b == some n) = true := List.any_eq_true.mpr ⟨b, hb, by simp [e]⟩
      rw [h2] at this
      cases this
    · rcases h3 b hb with h | h
      · rw [e] at h; cases h
      · exact h
  · rintro ⟨h1, h2, h3⟩
    refine ⟨⟨h1, ?_⟩, fun b hb => ?_⟩
    · cases e : (g.rd a).any (fun b => f b == some n) with
      | false => rfl
      | true =>
        obtain ⟨b, hb, q⟩ := List.any_eq_true.mp e
        exact absurd (by simpa using q) (h2 b hb)
    · cases e : f b with
      | some k => exact Or.inl rfl
      | none => exact Or.inr (h3 b hb e)
theorem Inv.start (g : Gr A) : Inv g (fun _ => none) [] 0 false where
  num := fun a => rfl
  ins := fun a k h => by cases h
  le := fun a k h => by cases h
  lt := fun _ a k h => by cases h
  some_ := fun k h => absurd h (Nat.not_lt_zero _)
  stp := fun a k s h => by cases h
  good := fun a k s h => by cases h
  done := fun m h => absurd h (Nat.not_lt_zero _)
/-- no place got it, but some did before: the next number -/
theorem Inv.next {g : Gr A} {f : A → Option Nat} {rs : List (Nat × List A)} {n : Nat} (I : Inv g f rs n true) (he : (coming g f n).isEmpty = true) (hs : ∃ a, f a = some n) : Inv g f rs (n + 1) false where
  num := I.num
  ins := I.ins
  le := fun a k h => Nat.le_succ_of_le (I.le a k h)
  lt := fun _ a k h => Nat.lt_succ_of_le (I.le a k h)
  some_ := fun k h => by
    rcases Nat.lt_or_eq_of_le (Nat.le_of_lt_succ h) with q | q
    · exact I.some_ k q
    · rw [q]; exact hs
  stp := I.stp
  good := I.good
  done := fun m hm a ha h1 h2 h3 => by
    rcases Nat.lt_or_eq_of_le (Nat.le_of_lt_succ hm) with q | q
    · exact I.done m q a ha h1 h2 h3
    · subst q
      have ha0 : f a = none := by
        cases e : f a with
        | none => rfl
        | some k => exact absurd (h1 k e) (Nat.not_lt.mpr (I.le a k e))
      have hng : ¬ gets g f a m = true := fun q => by
        have : a ∈ coming g f m := coming_mem.mpr ⟨ha, ha0, q⟩
        rw [List.isEmpty_iff.mp he] at this
        cases this
      rw [gets_iff] at hng
      apply Classical.byContradiction
      intro hc
      refine hng ⟨h2, h3, fun b hb e => ?_⟩
      apply Classical.byContradiction
      intro hd
      refine hc ⟨b, hb, fun k hk => ?_, fun c hcb q => hd ⟨c, hcb, q⟩⟩
      rw [e] at hk
      cases hk
theorem Inv.turn {g : Gr A} {f : A → Option Nat} {rs : List (Nat × List A)} {n : Nat} {sm : Bool} (I : Inv g f rs n sm) (he : (coming g f n).isEmpty = false) : Inv g (put f (coming g f n) n) (rs ++ [(n, coming g f n)]) n true := by
  have hn : ∀ a, numd (rs ++ [(n, coming g f n)]) 0 (fun _ => none) a = if a ∈ coming g f n then some (n, rs.length) else numd rs 0 (fun _ => none) a := fun a => by
    rw [numd_snoc, Nat.zero_add]
  have keep : ∀ a k s, numd rs 0 (fun _ => none) a = some (k, s) → numd (rs ++ [(n, coming g f n)]) 0 (fun _ => none) a = some (k, s) := fun a k s h => by
    rw [hn, if_neg (fun q => by
      have := (coming_mem.mp q).2.1
      rw [← I.num, h] at this
      cases this)]
    exact h
  have old : ∀ a k, f a = some k → put f (coming g f n) n a = some k := fun a k h => by
    unfold put
    rw [if_neg (fun q => by
      have := (coming_mem.mp q).2.1
      rw [h] at this
      cases this)]
    exact h
  have inv : ∀ a k, put f (coming g f n) n a = some k → f a = some k ∨ (a ∈ coming g f n ∧ k = n) := fun a k h => by
    unfold put at h
    by_cases q : a ∈ coming g f n
    · rw [if_pos q] at h
      exact Or.inr ⟨q, (Option.some.inj h).symm⟩
    · rw [if_neg q] at h
      exact Or.inl h
  have ndof : ∀ a k, f a = some k → ∃ s, numd rs 0 (fun _ => none) a = some (k, s) := fun a k h => by
    rw [← I.num] at h
    cases e : numd rs 0 (fun _ => none) a with
    | none => rw [e] at h; cases h
    | some p =>
      rw [e] at h
      obtain ⟨p1, p2⟩ := p
      have h' : p1 = k := Option.some.inj h
      exact ⟨p2, by rw [h']⟩
  refine ⟨fun a => ?_, fun a k h => ?_, fun a k h => ?_, fun z => (by cases z), fun k h => ?_, fun a k s h => ?_, fun a k s h => ?_, fun m hm a ha h1 h2 h3 => ?_⟩
  · rw [hn]
    unfold put
    by_cases q : a ∈ coming g f n
    · rw [if_pos q, if_pos q]; rfl
    · rw [if_neg q, if_neg q]; exact I.num a
  · rcases inv a k h with q | ⟨q, _⟩
    · exact I.ins a k q
    · exact (coming_mem.mp q).1
  · rcases inv a k h with q | ⟨_, q⟩
    · exact I.le a k q
    · omega
  · obtain ⟨a, ha⟩ := I.some_ k h
    exact ⟨a, old a k ha⟩
  · rw [hn] at h
    rw [List.length_append]
    by_cases q : a ∈ coming g f n
    · rw [if_pos q] at h
      have := congrArg Prod.snd (Option.some.inj h)
      simp at this
      simp
      omega
    · rw [if_neg q] at h
      have := I.stp a k s h
      omega
  · rw [hn] at h
    by_cases q : a ∈ coming g f n
    · rw [if_pos q] at h
      have e1 : n = k := congrArg Prod.fst (Option.some.inj h)
      have e2 : rs.length = s := congrArg Prod.snd (Option.some.inj h)
      subst e1 e2
      obtain ⟨g1, g2, g3⟩ := coming_mem.mp q
      obtain ⟨h1, h2, h3⟩ := gets_iff.mp g3
      refine ⟨fun l hl => ?_, fun b hb e => ?_, fun b hb => ?_⟩
      · obtain ⟨b, hb, e⟩ := h1 l hl
        obtain ⟨t, ht⟩ := ndof b l e
        exact ⟨b, hb, t, keep _ _ _ ht, I.stp _ _ _ ht⟩
      · rcases inv b _ e with z | ⟨z, _⟩
        · exact h2 b hb z
        · obtain ⟨c, hc, ec⟩ := h3 b hb (coming_mem.mp z).2.1
          exact (gets_iff.mp (coming_mem.mp z).2.2).2.1 c hc ec
      · cases e : f b with
        | none =>
          obtain ⟨c, hc, ec⟩ := h3 b hb e
          obtain ⟨t, ht⟩ := ndof c _ ec
          exact Or.inr ⟨c, hc, t, keep _ _ _ ht, I.stp _ _ _ ht⟩
        | some l =>
          obtain ⟨t, ht⟩ := ndof b _ e
          have hl := I.le b l e
          have hne : l ≠ n := fun z => h2 b hb (by rw [e, z])
          exact Or.inl ⟨l, t, keep _ _ _ ht, by omega, I.stp _ _ _ ht⟩
    · rw [if_neg q] at h
      obtain ⟨h1, h2, h3⟩ := I.good a k s h
      refine ⟨fun l hl => ?_, fun b hb e => ?_, fun b hb => ?_⟩
      · obtain ⟨b, hb, t, ht, hs⟩ := h1 l hl
        exact ⟨b, hb, t, keep _ _ _ ht, hs⟩
      · rcases inv b _ e with z | ⟨z, z2⟩
        · exact h2 b hb z
        · -- b gets k = n now; a has it already: b's road to a's .. by a's answer
          rcases h3 b hb with ⟨l, t, ht, hl, _⟩ | ⟨c, hc, t, ht, _⟩
          · have := (coming_mem.mp z).2.1
            rw [← I.num, ht] at this
            cases this
          · have ec : f c = some k := by rw [← I.num, ht]; rfl
            exact (gets_iff.mp (coming_mem.mp z).2.2).2.1 c hc (by rw [← z2]; exact ec)
      · rcases h3 b hb with ⟨l, t, ht, hl, hs⟩ | ⟨c, hc, t, ht, hs⟩
        · exact Or.inl ⟨l, t, keep _ _ _ ht, hl, hs⟩
        · exact Or.inr ⟨c, hc, t, keep _ _ _ ht, hs⟩
  · -- the numbers done with are done with
    have back : ∀ b l, l < n → put f (coming g f n) n b = some l → f b = some l := fun b l hl e => by
      rcases inv b l e with z | ⟨_, z⟩
      · exact z
      · omega
    obtain ⟨b, hb, k1, k2⟩ := I.done m hm a ha (fun k hk => h1 k (old a k hk)) (fun l hl => by
      obtain ⟨b, hb, e⟩ := h2 l hl
      exact ⟨b, hb, back b l (by omega) e⟩) (fun b hb e => h3 b hb (old b m e))
    refine ⟨b, hb, fun k hk => ?_, fun c hc e => k2 c hc (back c m hm e)⟩
    rcases inv b k hk with z | ⟨_, z⟩
    · exact k1 k z
    · omega
/-- the loop's end: there is a last state, and what holds of it -/
theorem loop_end {g : Gr A} : ∀ (k : Nat) (f : A → Option Nat) (rs : List (Nat × List A)) (n : Nat) (sm : Bool), Inv g f rs n sm → (sm = true → ∃ a, f a = some n) → meas g f sm < k →
    ∃ f' n', Inv g f' (loop g k f rs n sm) n' false ∧ (coming g f' n').isEmpty = true
  | 0, _, _, _, _, _, _, h => absurd h (Nat.not_lt_zero _)
  | k + 1, f, rs, n, sm, I, hs, h => by
    unfold loop
    cases e : (coming g f n).isEmpty with
    | true =>
      simp only [if_true]
      cases sm with
      | true =>
        simp only [if_true]
        exact loop_end k f rs (n + 1) false (I.next e (hs rfl)) (fun z => by cases z) (by have := @meas_next A _ g f; omega)
      | false =>
        simp only [Bool.false_eq_true, if_false]
        exact ⟨f, n, I, e⟩
    | false =>
      simp only [Bool.false_eq_true, if_false]
      refine loop_end k _ _ n true (I.turn e) (fun _ => ?_) (by have := meas_put (g := g) (f := f) (n := n) (sm := sm) e; omega)
      cases e2 : coming g f n with
      | nil => rw [e2] at e; simp at e
      | cons x r => exact ⟨x, by unfold put; rw [if_pos (by simp)]⟩
/-- what the labels show -/
structure Good (g : Gr A) (lab : A → Option (Nat × Nat)) : Prop where
  ins : ∀ a k s, lab a = some (k, s) → a ∈ g.ns
  down : ∀ a k s, lab a = some (k, s) → ∀ l, l < k → ∃ b ∈ g.rd a, ∃ t, lab b = some (l, t) ∧ t < s
  unlike : ∀ a k s, lab a = some (k, s) → ∀ b ∈ g.rd a, ∀ t, lab b ≠ some (k, t)
  back : ∀ a k s, lab a = some (k, s) → ∀ b ∈ g.rd a, (∃ l t, lab b = some (l, t) ∧ l < k ∧ t < s) ∨ ∃ c ∈ g.rd b, ∃ t, lab c = some (k, t) ∧ t < s
  open_ : ∀ a ∈ g.ns, lab a = none → ∃ m, (∀ l, l < m → ∃ b ∈ g.rd a, ∃ t, lab b = some (l, t)) ∧ (∀ b ∈ g.rd a, ∀ t, lab b ≠ some (m, t)) ∧ ∃ b ∈ g.rd a, lab b = none ∧ ∀ c ∈ g.rd b, ∀ t, lab c ≠ some (m, t)
  most : ∀ a k s, lab a = some (k, s) → k < g.ns.length
theorem exists_mex (p : Nat → Prop) (N : Nat) (h : ¬ p N) : ∃ m, m ≤ N ∧ (∀ l, l < m → p l) ∧ ¬ p m := by
  induction N with
  | zero => exact ⟨0, Nat.le_refl _, fun l hl => absurd hl (Nat.not_lt_zero _), h⟩
  | succ N ih =>
    by_cases q : p N
    · by_cases r : ∃ j, j ≤ N ∧ ¬ p j
      · obtain ⟨j, hj, hp⟩ := r
        -- the least such
        have : ∃ m, m ≤ j ∧ (∀ l, l < m → p l) ∧ ¬ p m := by
          clear ih
          induction j using Nat.strongRecOn with
          | ind j ihj =>
            by_cases z : ∀ l, l < j → p l
            · exact ⟨j, Nat.le_refl _, z, hp⟩
            · obtain ⟨l, hl⟩ := Classical.not_forall.mp z
              obtain ⟨hl1, hl2⟩ := Classical.not_imp.mp hl
              obtain ⟨m, h1, h2, h3⟩ := ihj l hl1 (by omega) hl2
              exact ⟨m, by omega, h2, h3⟩
        obtain ⟨m, h1, h2, h3⟩ := this
        exact ⟨m, by omega, h2, h3⟩
      · refine ⟨N + 1, Nat.le_refl _, fun l hl => ?_, h⟩
        apply Classical.byContradiction
        intro z
        exact r ⟨l, by omega, z⟩
    · obtain ⟨m, h1, h2, h3⟩ := ih q
      exact ⟨m, by omega, h2, h3⟩
/-- places of all numbers below k: k is below the number of places -/
theorem many_of {g : Gr A} (hn : g.ns.Nodup) {f : A → Option Nat} {k : Nat} (h : ∀ l, l < k → ∃ b ∈ g.ns, f b = some l) : k ≤ g.ns.length := by
  have key : ∀ k, (∀ l, l < k → ∃ b ∈ g.ns, f b = some l) → ∃ bs : List A, bs.length = k ∧ bs.Nodup ∧ ∀ b ∈ bs, b ∈ g.ns ∧ ∃ l, l < k ∧ f b = some l := by
    intro k
    induction k with
    | zero => intro _; exact ⟨[], rfl, List.nodup_nil, fun b hb => by cases hb⟩
    | succ k ih =>
      intro hk
      obtain ⟨bs, h1, h2, h3⟩ := ih fun l hl => hk l (by omega)
      obtain ⟨b, hb, eb⟩ := hk k (by omega)
      refine ⟨b :: bs, by simp [h1], List.nodup_cons.mpr ⟨fun q => ?_, h2⟩, fun c hc => ?_⟩
      · obtain ⟨_, l, hl, e⟩ := h3 b q
        rw [eb] at e
        have := Option.some.inj e
        omega
      · rcases List.mem_cons.mp hc with e | hc
        · subst e
          exact ⟨hb, k, by omega, eb⟩
        · obtain ⟨q1, l, hl, e⟩ := h3 c hc
          exact ⟨q1, l, by omega, e⟩
  obtain ⟨bs, h1, h2, h3⟩ := key k h
  rw [← h1]
  -- a list without repetition inside another is not longer
  have sub : ∀ (bs l : List A), bs.Nodup → (∀ b ∈ bs, b ∈ l) → bs.length ≤ l.length := by
    intro bs
    induction bs with
    | nil => intro l _ _; simp
    | cons b r ih =>
      intro l hd hm
      obtain ⟨d1, d2⟩ := List.nodup_cons.mp hd
      have hb : b ∈ l := hm b (by simp)
      have := ih (l.erase b) d2 fun c hc => (List.mem_erase_of_ne (fun e => d1 (by rw [← e]; exact hc))).mpr (hm c (by simp [hc]))
      rw [List.length_erase_of_mem hb] at this
      have hp : 0 < l.length := List.length_pos_of_mem hb
      simp
      omega
  exact sub bs g.ns h2 fun b hb => (h3 b hb).1
theorem good_of {g : Gr A} (ok : g.Ok) : Good g (lab0 g) := by
  obtain ⟨f, N, I, he⟩ := loop_end (g := g) (2 * g.ns.length + 1) (fun _ => none) [] 0 false (Inv.start g) (fun z => by cases z) (meas_start g)
  have hf : ∀ a, f a = (lab0 g a).map (·.1) := fun a => (I.num a).symm
  have fs : ∀ a k t, lab0 g a = some (k, t) → f a = some k := fun a k t h => by rw [hf, h]; rfl
  have sf : ∀ a k, f a = some k → ∃ t, lab0 g a = some (k, t) := fun a k h => by
    rw [hf] at h
    cases e : lab0 g a with
    | none => rw [e] at h; cases h
    | some p =>
      rw [e] at h
      obtain ⟨p1, p2⟩ := p
      have h' : p1 = k := Option.some.inj h
      exact ⟨p2, by rw [h']⟩
  have nf : ∀ a, lab0 g a = none → f a = none := fun a h => by rw [hf, h]; rfl
  have down : ∀ a k s, lab0 g a = some (k, s) → ∀ l, l < k → ∃ b ∈ g.rd a, ∃ t, lab0 g b = some (l, t) ∧ t < s := fun a k s h => (I.good a k s h).1
  refine ⟨fun a k s h => I.ins a k (fs a k s h), down, fun a k s h b hb t e => (I.good a k s h).2.1 b hb (fs b k t e), fun a k s h => (I.good a k s h).2.2, fun a ha h => ?_, fun a k s h => ?_⟩
  · -- the least number that a lacks
    obtain ⟨m, hm, h1, h2⟩ := exists_mex (fun l => ∃ b ∈ g.rd a, f b = some l) N (fun ⟨b, _, e⟩ => absurd (I.lt rfl b N e) (Nat.lt_irrefl _))
    have h2' : ∀ b ∈ g.rd a, f b ≠ some m := fun b hb e => h2 ⟨b, hb, e⟩
    have key : ∃ b ∈ g.rd a, (∀ k, f b = some k → m < k) ∧ ∀ c ∈ g.rd b, f c ≠ some m := by
      rcases Nat.lt_or_eq_of_le hm with q | q
      · exact I.done m q a ha (fun k hk => by rw [nf a h] at hk; cases hk) h1 h2'
      · subst q
        have hng : ¬ gets g f a m = true := fun z => by
          have : a ∈ coming g f m := coming_mem.mpr ⟨ha, nf a h, z⟩
          rw [List.isEmpty_iff.mp he] at this
          cases this
        rw [gets_iff] at hng
        apply Classical.byContradiction
        intro hc
        refine hng ⟨h1, h2', fun b hb e => ?_⟩
        apply Classical.byContradiction
        intro hd
        refine hc ⟨b, hb, fun k hk => ?_, fun c hcb z => hd ⟨c, hcb, z⟩⟩
        rw [e] at hk
        cases hk
    obtain ⟨b, hb, k1, k2⟩ := key
    refine ⟨m, fun l hl => ?_, fun b hb t e => h2' b hb (fs b m t e), b, hb, ?_, fun c hc t e => k2 c hc (fs c m t e)⟩
    · obtain ⟨b, hb, e⟩ := h1 l hl
      obtain ⟨t, ht⟩ := sf b l e
      exact ⟨b, hb, t, ht⟩
    · cases e : lab0 g b with
      | none => rfl
      | some p =>
        obtain ⟨k, t⟩ := p
        obtain ⟨c, hc, t', ht, _⟩ := down b k t e m (k1 k (fs b k t e))
        exact absurd (fs c m t' ht) (k2 c hc)
  · have hm : k + 1 ≤ g.ns.length := many_of ok.nd (f := f) fun l hl => by
      rcases Nat.lt_or_eq_of_le (Nat.le_of_lt_succ hl) with q | q
      · obtain ⟨b, hb, t, ht, _⟩ := down a k s h l q
        exact ⟨b, I.ins b l (fs b l t ht), fs b l t ht⟩
      · rw [q]
        exact ⟨a, I.ins a k (fs a k s h), fs a k s h⟩
    omega
end K96M

set_option Elab.async false
set_option linter.all false
set_option maxRecDepth 100000
set_option maxHeartbeats 4000000
/-! K96A: bits, words. -/
namespace K96
open PySem PySem.Spec PyProof.Rows L2
open Evl (Ex)
local macro_rules | `(tactic| walk_at "go") => `(tactic| repeat (first
  | with_reducible refine w_seq ?_
  | with_reducible refine w_asg ?_
  | with_reducible refine w_name ?_
  | with_reducible refine w_var rfl ?_
  | with_reducible refine w_c ?_
  | with_reducible refine w_op ?_
  | with_reducible refine w_I0 ?_
  | with_reducible refine w_drop ?_
  | with_reducible refine w_ret ?_
  | with_reducible refine w_if ?_
  | with_reducible refine w_next ?_
  | with_reducible refine w_test ?_
  | with_reducible refine w_B ?_
  | with_reducible refine w_bl ?_
  | with_reducible refine w_not ?_
  | with_reducible refine w_and ?_
  | with_reducible refine w_or ?_
  | with_reducible refine w_andV ?_
  | with_reducible refine w_orV ?_
  | with_reducible refine w_notV ?_
  | with_reducible refine w_cons ?_
  | with_reducible refine w_nil ?_
  | with_reducible refine w_cb ?_
  | with_reducible refine w_call ?_
  | with_reducible refine w_isN ?_
  | with_reducible refine w_notN ?_
  | with_reducible refine w_chain ?_
  | with_reducible refine w_sl ?_
  | with_reducible refine w_nopart ?_
  | with_reducible refine w_tupT ?_
  | with_reducible refine w_lstT ?_
  | with_reducible refine w_eq rfl ?_
  | with_reducible refine w_ne rfl ?_
  | with_reducible refine w_for ?_
  | with_reducible refine w_iL ?_
  | with_reducible refine w_iT ?_
  | with_reducible refine w_iR1 ?_
  | with_reducible refine w_iR2 ?_
  | with_reducible refine w_iE ?_
  | with_reducible refine w_iS ?_
  | with_reducible refine w_lc ?_
  | with_reducible refine w_nm ?_
  | with_reducible refine w_din ?_
  | with_reducible refine w_dnotin ?_
  | with_reducible refine w_dput ?_
  | with_reducible refine w_dget1 ?_
  | with_reducible refine w_dget2 ?_
  | with_reducible refine w_bm ?_
  | with_reducible refine w_bm0 ?_
  | with_reducible refine w_sfld ?_
  | with_reducible refine w_make ?_
  | with_reducible refine w_part ?_
  | with_reducible refine w_aug rfl ?_
  | with_reducible refine w_ip ?_
  | with_reducible refine w_yes ?_
  | with_reducible refine w_gcs ?_
  | with_reducible refine w_gnil ?_
  | with_reducible refine w_dget ?_
  | with_reducible refine w_fld ?_
  | with_reducible refine w_meth ?_))
local macro_rules | `(tactic| walk_at "ex") => `(tactic| repeat (first | assumption | exact Ex.refl _ | refine Ex.trans ?_ (by assumption)))
abbrev nV (n : Nat) : V := V.int (n : Int)
section
variable {P : Program} {w : World} {K : PySem.W.Frag} {mg : Str → Option Value} {base : Heap}
/-! ### summed -/
def xorL (ns : List Nat) : Nat := ns.foldl (fun a b => a ^^^ b) 0
theorem bxor (a b : Nat) : Builtin.bitXor (a : Int) (b : Int) = ((a ^^^ b : Nat) : Int) := by
  rw [Bits.bitXor_pp (Int.natCast_nonneg _) (Int.natCast_nonneg _)]; rfl
theorem bor (a b : Nat) : Builtin.bitOr (a : Int) (b : Int) = ((a ||| b : Nat) : Int) := by
  rw [Bits.bitOr_pp (Int.natCast_nonneg _) (Int.natCast_nonneg _)]; rfl
theorem band (a b : Nat) : Builtin.bitAnd (a : Int) (b : Int) = ((a &&& b : Nat) : Int) := by
  rw [bitAnd_pp (Int.natCast_nonneg _) (Int.natCast_nonneg _)]; rfl
theorem xorL_snoc (ns : List Nat) (n : Nat) : xorL (ns ++ [n]) = xorL ns ^^^ n := by
  unfold xorL; rw [List.foldl_append]; rfl
def sp_summed (K : PySem.W.Frag) : Sp := fun vs H Q _ => ∃ (a : Addr) (ns : List Nat), vs = [.ref a] ∧ SqL K H a (ns.map nV) ∧ Q (nV (xorL ns)) H
theorem sc_summed : FnScope ["numbers", "total", "number"] ["numbers"] (defScope s_summed) := ⟨rfl, rfl, rfl, by decide +kernel, rfl, by decide +kernel, by decide +kernel⟩
theorem D_summed (T : Tx K mg) : Def P w K mg base 1 (He.ga K "summed") ["numbers"] (sp_summed K) := by
  refine Def.make T (d := d_summed) 0 rfl rfl rfl sc_summed (fun _ _ _ _ _ _ us hl => match us, hl with | [_], _ => rfl) (fun vs H Q E h => ?_) (fun cdv A outer s H vs Q E hr h => ?_)
  · obtain ⟨a, ns, rfl, _⟩ := h
    rfl
  · obtain ⟨a, ns, rfl, hS, k⟩ := h
    have nd := sc_summed.nd
    refine ⟨_, (pss_cons (ps_set (i := 1) nd rfl (Or.inl rfl) pe_int)
    (pss_cons (ps_for PassesOwn.never rfl (pi_list (pv 0)) (pg_name (i := 2) nd rfl (Or.inl rfl))
    (pss_one (ps_set (i := 1) nd rfl (Or.inl rfl) (pe_op op_xor (pv 1) (pv 2)))))
    (pss_one (ps_ret (pv 1))))), ?_⟩
    walk_at "go"
    refine ⟨a, rfl, ⟨_, hS⟩, for_list (K := K) (a := a) (xs := ns.map nV) (fun i σ H2 => H2 = H ∧ ∃ v, σ = [some (.ref a), some (nV (xorL (ns.take i))), v]) ⟨rfl, none, rfl⟩ (fun i σ H2 _ ⟨e, _⟩ => by rw [e]; exact hS) ?_ ?_⟩
    · rintro i y σ H2 hi ⟨rfl, v, rfl⟩
      obtain ⟨n, hn, rfl⟩ := map_at hi
      walk_at "go"
      refine ⟨rfl, some (nV n), ?_⟩
      rw [tk hn, xorL_snoc, bxor]
      rfl
    · rintro σ H2 ⟨rfl, v, rfl⟩
      walk_at "go"
      rw [List.length_map, List.take_length]
      exact k
/-! ### lacking -/
/-- the least number that is none of them -/
def lackF (ns : List Nat) : Nat → Nat → Nat
  | 0, n => n
  | k + 1, n => if n ∈ ns then lackF ns k (n + 1) else n
def mex (ns : List Nat) : Nat := lackF ns (ns.length + 1) 0
theorem mem_nV {ns : List Nat} {n : Nat} : inV (nV n) (ns.map nV) = decide (n ∈ ns) := by
  unfold inV
  induction ns with
  | nil => rfl
  | cons m r ih =>
    rw [List.map_cons, List.any_cons, ih]
    have e : eqV (nV m) (nV n) = decide (m = n) := by
      show (decide _ : Bool) = _
      by_cases z : m = n
      · subst z; simp
      · simp [z]
        omega
    rw [e]
    by_cases z : m = n
    · subst z; simp
    · have z' : ¬ n = m := fun q => z q.symm
      simp [z, z']
/-- all below are there, this one is not -/
theorem lackF_spec (ns : List Nat) : ∀ (k n : Nat), (∀ l, l < n → l ∈ ns) → ns.length < n + k → (∀ l, l < lackF ns k n → l ∈ ns) ∧ lackF ns k n ∉ ns
  | 0, n, h, hk => by
    -- n numbers in a list of fewer
    exfalso
    have sub : ∀ (m : Nat) (l : List Nat), (∀ j, j < m → j ∈ l) → m ≤ l.length := by
      intro m
      induction m with
      | zero => intro l _; exact Nat.zero_le _
      | succ m ih =>
        intro l hl
        have hm := hl m (Nat.lt_succ_self m)
        have q := ih (l.erase m) fun j hj => (List.mem_erase_of_ne (by omega)).mpr (hl j (by omega))
        rw [List.length_erase_of_mem hm] at q
        have := List.length_pos_of_mem hm
        omega
    have := sub n ns h
    omega
  | k + 1, n, h, hk => by
    unfold lackF
    by_cases e : n ∈ ns
    · rw [if_pos e]
      exact lackF_spec ns k (n + 1) (fun l hl => by
        rcases Nat.lt_or_eq_of_le (Nat.le_of_lt_succ hl) with q | q
        · exact h l q
        · rw [q]; exact e) (by omega)
    · rw [if_neg e]
      exact ⟨h, e⟩
theorem mex_spec (ns : List Nat) : (∀ l, l < mex ns → l ∈ ns) ∧ mex ns ∉ ns := lackF_spec ns (ns.length + 1) 0 (fun l hl => absurd hl (Nat.not_lt_zero _)) (by omega)
theorem mex_uniq {ns : List Nat} {m : Nat} (h1 : ∀ l, l < m → l ∈ ns) (h2 : m ∉ ns) : mex ns = m := by
  obtain ⟨a, b⟩ := mex_spec ns
  rcases Nat.lt_trichotomy (mex ns) m with q | q | q
  · exact absurd (h1 _ q) b
  · exact q
  · exact absurd (a _ q) h2
def sp_lacking (K : PySem.W.Frag) : Sp := fun vs H Q _ => ∃ (a : Addr) (ns : List Nat), vs = [.ref a] ∧ SqL K H a (ns.map nV) ∧ Q (nV (mex ns)) H
theorem flat_nV (ns : List Nat) : (ns.map nV).all flatV = true := by
  rw [List.all_eq_true]
  intro x hx
  obtain ⟨n, _, rfl⟩ := List.mem_map.mp hx
  rfl
theorem sc_lacking : FnScope ["numbers", "found"] ["numbers"] (defScope s_lacking) := ⟨rfl, rfl, rfl, by decide +kernel, rfl, by decide +kernel, by decide +kernel⟩
theorem D_lacking (T : Tx K mg) : Def P w K mg base 1 (He.ga K "lacking") ["numbers"] (sp_lacking K) := by
  refine Def.make T (d := d_lacking) 1 rfl rfl rfl sc_lacking (fun _ _ _ _ _ _ us hl => match us, hl with | [_], _ => rfl) (fun vs H Q E h => ?_) (fun cdv A outer s H vs Q E hr h => ?_)
  · obtain ⟨a, ns, rfl, _⟩ := h
    rfl
  · obtain ⟨a, ns, rfl, hS, k⟩ := h
    have nd := sc_lacking.nd
    refine ⟨_, (pss_cons (ps_set (i := 1) nd rfl (Or.inl rfl) pe_int)
    (pss_cons (ps_while PassesOwn.never (pt_cmpR op_in_seq (pv 1) (pv 0) rfl) (pss_one (ps_aug (i := 1) nd rfl (Or.inl rfl) pe_int ip_add)))
    (pss_one (ps_ret (pv 1))))), ?_⟩
    walk_at "go"
    refine ⟨fun m σ H2 => H2 = H ∧ ∃ n : Nat, σ = [some (.ref a), some (nV n)] ∧ (∀ l, l < n → l ∈ ns) ∧ n ≤ mex ns ∧ m = mex ns - n, ⟨mex ns, rfl, 0, rfl, fun l hl => absurd hl (Nat.not_lt_zero _), Nat.zero_le _, rfl⟩, ?_⟩
    rintro m σ H2 ⟨rfl, n, rfl, h1, h2, rfl⟩
    walk_at "go"
    refine ⟨a, _, rfl, .inl hS, rfl, flat_nV ns, ?_⟩
    simp only [Bool.false_eq_true, if_false]
    rw [mem_nV]
    walk_at "go"
    by_cases e : n ∈ ns
    · refine brT (decide_eq_true e) ⟨fun σ' H' => H' = H2 ∧ σ' = [some (.ref a), some (nV (n + 1))], fun σ' H' ⟨e1, e2⟩ => ⟨mex ns - (n + 1), ?_, e1, n + 1, e2, ?_, ?_, rfl⟩, ?_⟩
      · have : n ≠ mex ns := fun z => (mex_spec ns).2 (by rw [← z]; exact e)
        omega
      · intro l hl
        rcases Nat.lt_or_eq_of_le (Nat.le_of_lt_succ hl) with q | q
        · exact h1 l q
        · rw [q]; exact e
      · have : n ≠ mex ns := fun z => (mex_spec ns).2 (by rw [← z]; exact e)
        omega
      · walk_at "go"
        exact ⟨rfl, rfl⟩
    · refine brF (decide_eq_false e) ?_
      walk_at "go"
      rw [← mex_uniq h1 e]
      exact k
/-! ### sets -/
def setOf (ns : List Nat) : Nat := ns.foldl (fun a b => a ||| 2 ^ b) 0
theorem setOf_snoc (ns : List Nat) (n : Nat) : setOf (ns ++ [n]) = setOf ns ||| 2 ^ n := by
  unfold setOf; rw [List.foldl_append]; rfl
theorem setOf_bit (ns : List Nat) (k : Nat) : (setOf ns).testBit k = decide (k ∈ ns) := by
  have key : ∀ (ns : List Nat) (a : Nat), (ns.foldl (fun a b => a ||| 2 ^ b) a).testBit k = (a.testBit k || decide (k ∈ ns)) := by
    intro ns
    induction ns with
    | nil => intro a; simp
    | cons n r ih =>
      intro a
      rw [List.foldl_cons, ih, Nat.testBit_or, Nat.testBit_two_pow]
      by_cases e : n = k
      · subst e; simp
      · have e' : ¬ k = n := fun q => e q.symm
        simp [e, e']
  unfold setOf
  rw [key]
  simp
theorem setOf_lt {ns : List Nat} {b : Nat} (h : ∀ n ∈ ns, n < b) : setOf ns < 2 ^ b := by
  refine Nat.lt_pow_two_of_testBit _ fun i hi => ?_
  rw [setOf_bit]
  exact decide_eq_false fun m => absurd (h i m) (by omega)
def sp_set_of (K : PySem.W.Frag) : Sp := fun vs H Q _ => ∃ (a : Addr) (ns : List Nat), vs = [.ref a] ∧ SqL K H a (ns.map nV) ∧ (∀ n ∈ ns, n ≤ 1000) ∧ Q (nV (setOf ns)) H
theorem sc_set_of : FnScope ["numbers", "bits", "number"] ["numbers"] (defScope s_set_of) := ⟨rfl, rfl, rfl, by decide +kernel, rfl, by decide +kernel, by decide +kernel⟩
theorem D_set_of (T : Tx K mg) : Def P w K mg base 1 (He.ga K "set_of") ["numbers"] (sp_set_of K) := by
  refine Def.make T (d := d_set_of) 2 rfl rfl rfl sc_set_of (fun _ _ _ _ _ _ us hl => match us, hl with | [_], _ => rfl) (fun vs H Q E h => ?_) (fun cdv A outer s H vs Q E hr h => ?_)
  · obtain ⟨a, ns, rfl, _⟩ := h
    rfl
  · obtain ⟨a, ns, rfl, hS, hb, k⟩ := h
    have nd := sc_set_of.nd
    refine ⟨_, (pss_cons (ps_set (i := 1) nd rfl (Or.inl rfl) pe_int)
    (pss_cons (ps_for PassesOwn.never rfl (pi_list (pv 0)) (pg_name (i := 2) nd rfl (Or.inl rfl))
    (pss_one (ps_set (i := 1) nd rfl (Or.inl rfl) (pe_op op_or (pv 1) (pe_op op_shl pe_int (pv 2))))))
    (pss_one (ps_ret (pv 1))))), ?_⟩
    walk_at "go"
    refine ⟨a, rfl, ⟨_, hS⟩, for_list (K := K) (a := a) (xs := ns.map nV) (fun i σ H2 => H2 = H ∧ ∃ v, σ = [some (.ref a), some (nV (setOf (ns.take i))), v]) ⟨rfl, none, rfl⟩ (fun i σ H2 _ ⟨e, _⟩ => by rw [e]; exact hS) ?_ ?_⟩
    · rintro i y σ H2 hi ⟨rfl, v, rfl⟩
      obtain ⟨n, hn, rfl⟩ := map_at hi
      have hn1 := hb n (List.mem_of_getElem? hn)
      walk_at "go"
      refine w_I ⟨by omega, by omega, by decide⟩ ?_
      walk_at "go"
      refine ⟨rfl, some (nV n), ?_⟩
      have e : (1 : Int) * 2 ^ (n : Int).toNat = ((2 ^ n : Nat) : Int) := by simp
      rw [tk hn, setOf_snoc, e, bor]
      rfl
    · rintro σ H2 ⟨rfl, v, rfl⟩
      walk_at "go"
      rw [List.length_map, List.take_length]
      exact k
def numsIn (b : Nat) : List Nat := (List.range 16).filter b.testBit
def sp_numbers_in : Sp := fun vs H Q _ => ∃ (b : Nat), vs = [nV b] ∧ ∀ p H2, H p = none → Ex H H2 → H2 p = some (.lst ((numsIn b).map nV)) → Q (.ref p) H2
theorem sc_numbers_in : FnScope ["bits", "number"] ["bits"] (defScope s_numbers_in) := ⟨rfl, rfl, rfl, by decide +kernel, rfl, by decide +kernel, by decide +kernel⟩
theorem D_numbers_in (T : Tx K mg) : Def P w K mg base 1 (He.ga K "numbers_in") ["bits"] sp_numbers_in := by
  refine Def.make T (d := d_numbers_in) 3 rfl rfl rfl sc_numbers_in (fun _ _ _ _ _ _ us hl => match us, hl with | [_], _ => rfl) (fun vs H Q E h => ?_) (fun cdv A outer s H vs Q E hr h => ?_)
  · obtain ⟨b, rfl, _⟩ := h
    rfl
  · obtain ⟨b, rfl, k⟩ := h
    have nd := sc_numbers_in.nd
    refine ⟨_, (pss_one (ps_ret (pe_lc (own := [("number", 1)]) rfl nd (pi_range1 rfl T.f_range (pa_cons (pe_op op_add (pe_gI rfl T.i_MOST_NUMBER) pe_int) pa_nil)) (blkOk_by (N := ["bits", "number"]) (sc := defScope s_numbers_in) (by decide +kernel)) (fun _ _ _ _ _ => (pg_name (i := 1) nd rfl (Or.inl rfl))) (fun _ _ _ _ _ => (pts_one (pt_cmpR op_eq (pe_op op_and (pe_op op_shr (pv 0) (pv 1)) pe_int) pe_int (nomark _)))) (fun _ _ _ _ _ => (pv 1))))), ?_⟩
    walk_at "go"
    refine ⟨16, rfl, by decide, by decide, lc_R (fun i ys _ => ys = ((List.range i).filter b.testBit).map nV) (fun _ _ _ _ _ h => h) rfl (by decide) ?_ ?_⟩
    · rintro i ys H' hi e rfl N M hN hM
      walk_at "go"
      have ei : (0 : Int) + (i : Int) = (i : Nat) := Int.zero_add _
      rw [ei]
      refine ⟨rfl, ?_⟩
      walk_at "go"
      refine w_I (Int.natCast_nonneg i) ?_
      walk_at "go"
      have e1 : (b : Int) / 2 ^ ((i : Nat) : Int).toNat = ((b / 2 ^ i : Nat) : Int) := by simp
      have e2 : decide (V.int (Builtin.bitAnd ((b : Int) / 2 ^ ((i : Nat) : Int).toNat) 1) = V.int 1) = b.testBit i := by
        rw [e1, bitAnd_m1, Nat.testBit_eq_decide_div_mod_eq]
        by_cases z : b / 2 ^ i % 2 = 1
        · rw [decide_eq_true z]
          refine decide_eq_true (congrArg V.int ?_)
          omega
        · rw [decide_eq_false z]
          refine decide_eq_false fun q => z ?_
          have := V.int.inj q
          omega
      rw [e2]
      have e3 : (List.range (i + 1)).filter b.testBit = (List.range i).filter b.testBit ++ (if b.testBit i = true then [i] else []) := by
        rw [List.range_succ, List.filter_append, List.filter_cons]
        rfl
      refine br (fun z => ?_) (fun z => ?_)
      · walk_at "go"
        refine hN _ _ (Ex.refl _) ?_
        rw [e3, if_pos z, List.map_append]
        rfl
      · refine hM _ (Ex.refl _) ?_
        rw [e3, if_neg (by rw [z]; decide), List.append_nil]
    · rintro D ys H' hD e hys _ rfl
      exact k D H' hD e hys
/-! ### set_turned -/
def turn (b n : Nat) : Nat := setOf ((numsIn b).map (· ^^^ n))
theorem numsIn_lt {b n : Nat} (h : n ∈ numsIn b) : n < 16 := by
  unfold numsIn at h
  exact List.mem_range.mp (List.mem_filter.mp h).1
theorem numsIn_bit {b n : Nat} : n ∈ numsIn b ↔ n < 16 ∧ b.testBit n = true := by
  unfold numsIn
  rw [List.mem_filter, List.mem_range]
theorem turn_lt {b n : Nat} (h : n < 16) : turn b n < 65536 := by
  refine setOf_lt (b := 16) fun k hk => ?_
  obtain ⟨m, hm, rfl⟩ := List.mem_map.mp hk
  exact Nat.xor_lt_two_pow (n := 4) (numsIn_lt hm) h
theorem turn_bit {b n k : Nat} (hn : n < 16) (hk : k < 16) : (turn b n).testBit k = b.testBit (k ^^^ n) := by
  unfold turn
  rw [setOf_bit, Bool.eq_iff_iff, decide_eq_true_eq, List.mem_map]
  constructor
  · rintro ⟨m, hm, rfl⟩
    show b.testBit (m ^^^ n ^^^ n) = true
    rw [Nat.xor_assoc, Nat.xor_self, Nat.xor_zero]
    exact (numsIn_bit.mp hm).2
  · intro h
    refine ⟨k ^^^ n, numsIn_bit.mpr ⟨Nat.xor_lt_two_pow (n := 4) hk hn, h⟩, ?_⟩
    show k ^^^ n ^^^ n = k
    rw [Nat.xor_assoc, Nat.xor_self, Nat.xor_zero]
def sp_set_turned : Sp := fun vs H Q _ => ∃ (b n : Nat), vs = [nV b, nV n] ∧ n < 16 ∧ ∀ H2, Ex H H2 → Q (nV (turn b n)) H2
theorem sc_set_turned : FnScope ["bits", "number", "one"] ["bits", "number"] (defScope s_set_turned) := ⟨rfl, rfl, rfl, by decide +kernel, rfl, by decide +kernel, by decide +kernel⟩
theorem D_set_turned (T : Tx K mg) : Def P w K mg base 2 (He.ga K "set_turned") ["bits", "number"] sp_set_turned := by
  refine Def.make T (d := d_set_turned) 4 rfl rfl rfl sc_set_turned (fun _ _ _ _ _ _ us hl => match us, hl with | [_, _], _ => rfl) (fun vs H Q E h => ?_) (fun cdv A outer s H vs Q E hr h => ?_)
  · obtain ⟨b, n, rfl, _⟩ := h
    rfl
  · obtain ⟨b, n, rfl, hn, k⟩ := h
    have nd := sc_set_turned.nd
    refine ⟨_, (pss_one (ps_ret (pe_callX (D_set_of T) (hr.mono (by decide)) rfl T.g_set_of (pa_cons (pe_lc (own := [("one", 2)]) rfl nd (pi_list (pe_callX (D_numbers_in T) (hr.mono (by decide)) rfl T.g_numbers_in (pa_cons (pv 0) pa_nil))) (blkOk_by (N := ["bits", "number", "one"]) (sc := defScope s_set_turned) (by decide +kernel)) (fun _ _ _ _ _ => (pg_name (i := 2) nd rfl (Or.inl rfl))) (fun _ _ _ _ _ => pts_nil) (fun _ _ _ _ _ => (pe_op op_xor (pv 2) (pv 1)))) pa_nil)))), ?_⟩
    walk_at "go"
    refine ⟨b, rfl, fun p H1 hp e1 h1 => ?_⟩
    refine ⟨p, rfl, ⟨_, SqL.of h1⟩, lc_L (SqL.of h1) (fun i ys _ => ys = (((numsIn b).take i).map (· ^^^ n)).map nV) (fun _ _ _ _ _ h => h) rfl (by rw [List.length_map]; exact Nat.le_trans (List.length_filter_le _ _) (by decide)) ?_ ?_⟩
    · rintro i y ys H' hi e rfl N M hN hM
      obtain ⟨m, hm, rfl⟩ := map_at hi
      walk_at "go"
      refine ⟨rfl, ?_⟩
      walk_at "go"
      refine brT rfl ?_
      walk_at "go"
      refine hN _ _ (Ex.refl _) ?_
      rw [tk hm, List.map_append, List.map_append, bxor]
      rfl
    · rintro D ys H' hD e hys _ rfl
      walk_at "go"
      rw [List.length_map, List.take_length] at hys
      refine ⟨D, _, rfl, SqL.of hys, fun z hz => ?_, k _ (e1.trans e)⟩
      obtain ⟨m, hm, rfl⟩ := List.mem_map.mp hz
      have := Nat.xor_lt_two_pow (n := 4) (numsIn_lt hm) hn
      omega
/-! ### kinds -/
def sp_is_whole : Sp := fun vs H Q _ => ∃ (i : Int), vs = [.int i] ∧ Q (.bl true) H
theorem sc_is_whole : FnScope ["thing"] ["thing"] (defScope s_is_whole) := ⟨rfl, rfl, rfl, by decide +kernel, rfl, by decide +kernel, by decide +kernel⟩
theorem D_is_whole (T : Tx K mg) : Def P w K mg base 1 (He.ga K "is_whole") ["thing"] sp_is_whole := by
  refine Def.make T (d := d_is_whole) 5 rfl rfl rfl sc_is_whole (fun _ _ _ _ _ _ us hl => match us, hl with | [_], _ => rfl) (fun vs H Q E h => ?_) (fun cdv A outer s H vs Q E hr h => ?_)
  · obtain ⟨i, rfl, _⟩ := h
    rfl
  · obtain ⟨i, rfl, k⟩ := h
    have nd := sc_is_whole.nd
    refine ⟨_, (pss_one (ps_ret (pe_and (pe_callB call_isi (by rfl) T.f_isinstance (by decide +kernel) (pa_cons (pv 0) (pa_cons (pe_bltn (v := .ty "int") (by rfl) T.f_int (by decide +kernel) rfl) pa_nil))) (pe_one (pe_not (pe_callB call_isi (by rfl) T.f_isinstance (by decide +kernel) (pa_cons (pv 0) (pa_cons (pe_bltn (v := .ty "bool") (by rfl) T.f_bool (by decide +kernel) rfl) pa_nil)))))))), ?_⟩
    walk_at "go"
    refine ⟨_, _, _, _, true, rfl, .ty "int", .base (.int i), kit_ty (by decide +kernel), ?_⟩
    walk_at "go"
    refine brT rfl ?_
    walk_at "go"
    refine ⟨_, _, _, _, false, rfl, .ty "bool", .base (.int i), kit_ty (by decide +kernel), ?_⟩
    walk_at "go"
    exact k
def LET : List Nat := ("abcdefghijklmnopqrstuvwxyz" : Str).cps.toList
/-- what a name is -/
def nameB (z : Str) : Bool := decide (1 ≤ z.length) && (decide (z.length ≤ 8) && z.cps.toList.all fun c => decide (c ∈ LET))
def sp_is_name : Sp := fun vs H Q _ => ∃ (z : Str), vs = [.str z] ∧ z.length ≤ 1000 ∧ ∀ H2, Ex H H2 → Q (.bl (nameB z)) H2
theorem sc_is_name : FnScope ["thing", "sign"] ["thing"] (defScope s_is_name) := ⟨rfl, rfl, rfl, by decide +kernel, rfl, by decide +kernel, by decide +kernel⟩
theorem D_is_name (T : Tx K mg) : Def P w K mg base 1 (He.ga K "is_name") ["thing"] sp_is_name := by
  refine Def.make T (d := d_is_name) 6 rfl rfl rfl sc_is_name (fun _ _ _ _ _ _ us hl => match us, hl with | [_], _ => rfl) (fun vs H Q E h => ?_) (fun cdv A outer s H vs Q E hr h => ?_)
  · obtain ⟨z, rfl, _⟩ := h
    rfl
  · obtain ⟨z, rfl, hz, k⟩ := h
    have nd := sc_is_name.nd
    refine ⟨_, (pss_cons (ps_if (PW.pt (pw_or (pt_not (pt_val (pe_callB call_isi (by rfl) T.f_isinstance (by decide +kernel) (pa_cons (pv 0) (pa_cons (pe_bltn (v := .ty "str") (by rfl) T.f_str (by decide +kernel) rfl) pa_nil))))) (pw_or1 (pt_not (pt_chain op_le op_le pe_int (pe_callB call_len_str (by rfl) T.f_len (by decide +kernel) (pa_cons (pv 0) pa_nil)) (pe_gI rfl T.i_MOST_LETTERS)))))) (pss_one (ps_ret pe_bl)) pss_nil)
    (pss_one (ps_ret (pe_callB (cr_all rfl) (by rfl) T.f_all (by decide +kernel) (pa_cons (pe_lc (own := [("sign", 1)]) rfl nd (pi_str (pv 0)) (blkOk_by (N := ["thing", "sign"]) (sc := defScope s_is_name) (by decide +kernel)) (fun _ _ _ _ _ => (pg_name (i := 1) nd rfl (Or.inl rfl))) (fun _ _ _ _ _ => pts_nil) (fun _ _ _ _ _ => (pe_cmpR op_in_sign (pv 1) (pe_gS rfl T.z_LETTERS) rfl))) pa_nil))))), ?_⟩
    walk_at "go"
    refine ⟨_, _, _, _, true, rfl, .ty "str", .base (.str z), kit_ty (by decide +kernel), ?_⟩
    walk_at "go"
    refine brF rfl ?_
    walk_at "go"
    refine ⟨z, rfl, szs (by omega), ?_⟩
    walk_at "go"
    refine br (fun h1 => ?_) (fun h1 => ?_)
    · walk_at "go"
      refine br (fun h2 => ?_) (fun h2 => ?_)
      · -- longer than eight signs
        walk_at "go"
        have e : nameB z = false := by
          unfold nameB
          have h3 : ¬ z.length ≤ 8 := fun q => by
            have : decide ((z.length : Int) ≤ 8) = true := decide_eq_true (by omega)
            rw [this] at h2
            cases h2
          rw [decide_eq_false h3, Bool.false_and, Bool.and_false]
        rw [← e]
        exact k _ (Ex.refl _)
      · -- the signs
        walk_at "go"
        have h3 : z.length ≤ 8 := by
          by_cases q : z.length ≤ 8
          · exact q
          · have : decide ((z.length : Int) ≤ 8) = false := decide_eq_false (by omega)
            rw [this] at h2
            cases h2
        have h4 : 1 ≤ z.length := by
          have := of_decide_eq_true h1
          omega
        have hsz : z.cps.size = z.length := rfl
        refine ⟨z, rfl, lc_S (fun i ys _ => ys = ((z.cps.toList.take i).map fun c => decide (c ∈ LET)).map V.bl) (fun _ _ _ _ _ h => h) rfl (by omega) ?_ ?_⟩
        · rintro i c ys H' hi e rfl N M hN hM
          have hi' : z.cps.toList[i]? = some c := by rw [Array.getElem?_toList]; exact hi
          walk_at "go"
          refine ⟨rfl, ?_⟩
          walk_at "go"
          refine brT rfl ?_
          walk_at "go"
          refine ⟨c, _, rfl, rfl, ?_⟩
          refine hN _ _ (Ex.refl _) ?_
          rw [tk hi', List.map_append, List.map_append]
          rfl
        · rintro D ys H' hD e hys _ rfl
          walk_at "go"
          have e5 : z.cps.toList.take z.cps.size = z.cps.toList := by
            rw [List.take_of_length_le]
            rw [Array.length_toList]
            exact Nat.le_refl _
          rw [e5] at hys
          refine ⟨D, _, rfl, SqL.of hys, ?_⟩
          have e6 : (z.cps.toList.map fun c => decide (c ∈ LET)).all id = nameB z := by
            unfold nameB
            rw [decide_eq_true h3, decide_eq_true h4, Bool.true_and, Bool.true_and, List.all_map]
            rfl
          rw [e6]
          exact k _ e
    · walk_at "go"
      have e : nameB z = false := by
        unfold nameB
        have h3 : ¬ 1 ≤ z.length := fun q => by
          have : decide ((1 : Int) ≤ (z.length : Int)) = true := decide_eq_true (by omega)
          rw [this] at h1
          cases h1
        rw [decide_eq_false h3, Bool.false_and]
      have q := k _ (Ex.refl _)
      rw [e] at q
      exact q
end
end K96

set_option Elab.async false
set_option linter.all false
set_option maxRecDepth 100000
set_option maxHeartbeats 4000000
/-! K96B: grounds in the heap, heaps of tokens, moves. -/
namespace K96
open PySem PySem.Spec PyProof.Rows L2
open Evl (Ex)
open K96M (Gr)
local macro_rules | `(tactic| walk_at "go") => `(tactic| repeat (first
  | with_reducible refine w_seq ?_
  | with_reducible refine w_asg ?_
  | with_reducible refine w_name ?_
  | with_reducible refine w_var rfl ?_
  | with_reducible refine w_c ?_
  | with_reducible refine w_op ?_
  | with_reducible refine w_I0 ?_
  | with_reducible refine w_drop ?_
  | with_reducible refine w_ret ?_
  | with_reducible refine w_if ?_
  | with_reducible refine w_next ?_
  | with_reducible refine w_test ?_
  | with_reducible refine w_B ?_
  | with_reducible refine w_bl ?_
  | with_reducible refine w_not ?_
  | with_reducible refine w_and ?_
  | with_reducible refine w_or ?_
  | with_reducible refine w_andV ?_
  | with_reducible refine w_orV ?_
  | with_reducible refine w_notV ?_
  | with_reducible refine w_cons ?_
  | with_reducible refine w_nil ?_
  | with_reducible refine w_cb ?_
  | with_reducible refine w_call ?_
  | with_reducible refine w_isN ?_
  | with_reducible refine w_notN ?_
  | with_reducible refine w_chain ?_
  | with_reducible refine w_sl ?_
  | with_reducible refine w_nopart ?_
  | with_reducible refine w_tupT ?_
  | with_reducible refine w_lstT ?_
  | with_reducible refine w_eq rfl ?_
  | with_reducible refine w_ne rfl ?_
  | with_reducible refine w_for ?_
  | with_reducible refine w_iL ?_
  | with_reducible refine w_iT ?_
  | with_reducible refine w_iR1 ?_
  | with_reducible refine w_iR2 ?_
  | with_reducible refine w_iE ?_
  | with_reducible refine w_iS ?_
  | with_reducible refine w_lc ?_
  | with_reducible refine w_nm ?_
  | with_reducible refine w_din ?_
  | with_reducible refine w_dnotin ?_
  | with_reducible refine w_dput ?_
  | with_reducible refine w_dget1 ?_
  | with_reducible refine w_dget2 ?_
  | with_reducible refine w_bm ?_
  | with_reducible refine w_bm0 ?_
  | with_reducible refine w_sfld ?_
  | with_reducible refine w_make ?_
  | with_reducible refine w_part ?_
  | with_reducible refine w_aug rfl ?_
  | with_reducible refine w_ip ?_
  | with_reducible refine w_yes ?_
  | with_reducible refine w_gcs ?_
  | with_reducible refine w_gnil ?_
  | with_reducible refine w_dget ?_
  | with_reducible refine w_fld ?_
  | with_reducible refine w_meth ?_))
local macro_rules | `(tactic| walk_at "ex") => `(tactic| repeat (first | assumption | exact Ex.refl _ | refine Ex.trans ?_ (by assumption)))
abbrev G0 := Gr Str
structure GOk (G : G0) : Prop where
  ok : G.Ok
  pos : G.ns ≠ []
  many : G.ns.length ≤ 9
  few : ∀ a ∈ G.ns, (G.rd a).length ≤ 14
abbrev sV (x : Str) : V := V.str x
theorem Paired.at_ {A B : Type} {R : A → B → Prop} : ∀ {xs : List A} {ys : List B} {i : Nat} {x : A}, Paired R xs ys → xs[i]? = some x → ∃ y, ys[i]? = some y ∧ R x y
  | _, _, _, _, .nil, h => by simp at h
  | _, _, 0, _, .cons r _, h => by simp at h; subst h; exact ⟨_, rfl, r⟩
  | _, _, i + 1, x, .cons _ t, h => by
    obtain ⟨y, h1, h2⟩ := Paired.at_ (i := i) (x := x) t (by simpa using h)
    exact ⟨y, by simpa using h1, h2⟩
theorem Paired.app {A B : Type} {R : A → B → Prop} : ∀ {xs xs' : List A} {ys ys' : List B}, Paired R xs ys → Paired R xs' ys' → Paired R (xs ++ xs') (ys ++ ys')
  | _, _, _, _, .nil, s => s
  | _, _, _, _, .cons r t, s => .cons r (Paired.app t s)
theorem zip_keys {R : Str → Addr → Prop} : ∀ {ns : List Str} {ts : List Addr}, Paired R ns ts → ((ns.zip ts).map fun p => ((Sum.inr p.1 : Key), V.ref p.2)).map (fun kv => kV kv.1) = ns.map sV
  | _, _, .nil => rfl
  | _, _, .cons _ t => by
    rw [List.zip_cons_cons, List.map_cons, List.map_cons, List.map_cons, zip_keys t]
    rfl
theorem zip_look {R : Str → Addr → Prop} : ∀ {ns : List Str} {ts : List Addr} {n : Str}, Paired R ns ts → n ∈ ns → ∃ t, valV ((ns.zip ts).map fun p => ((Sum.inr p.1 : Key), V.ref p.2)) (Sum.inr n) = some (.ref t) ∧ R n t
  | _, _, _, .nil, h => by cases h
  | a :: ns, t :: ts, n, .cons r q, h => by
    rw [List.zip_cons_cons, List.map_cons]
    by_cases e : a = n
    · subst e
      exact ⟨t, valV_pos rfl, r⟩
    · rw [valV_neg (fun z => e (Sum.inr.inj z))]
      exact zip_look q ((List.mem_cons.mp h).resolve_left fun z => e z.symm)
/-- the ground G stands at g -/
def GAt (K : PySem.W.Frag) (H : Hp) (g : Addr) (G : G0) : Prop := ∃ dx d ts, H g = some (.ins (He.ga K "Ground") dx [("leading", .ref d)]) ∧ H d = some (.dK ((G.ns.zip ts).map fun p => ((Sum.inr p.1 : Key), V.ref p.2))) ∧ Paired (fun n t => H t = some (.tup ((G.rd n).map sV))) G.ns ts
theorem GAt.up {K : PySem.W.Frag} {H H' : Hp} {g : Addr} {G : G0} (h : GAt K H g G) (e : Ex H H') : GAt K H' g G := by
  obtain ⟨dx, d, ts, h1, h2, h3⟩ := h
  exact ⟨dx, d, ts, e _ _ h1, e _ _ h2, Paired.mapP h3 fun _ _ q => e _ _ q⟩
/-- a list of names stands at h -/
abbrev LAt (H : Hp) (h : Addr) (hs : List Str) : Prop := H h = some (.lst (hs.map sV))
structure HOk' (G : G0) (hs : List Str) : Prop where
  len : hs.length ≤ 8
  ins : ∀ x ∈ hs, x ∈ G.ns
theorem lk1 {f : Str} {v : V} : ([(f, v)] : List (Str × V)).lookup f = some v := by simp [List.lookup]
theorem flat_sV (ns : List Str) : (ns.map sV).all flatV = true := by
  rw [List.all_eq_true]
  intro x hx
  obtain ⟨n, _, rfl⟩ := List.mem_map.mp hx
  rfl
theorem mem_sV {ns : List Str} {n : Str} : inV (sV n) (ns.map sV) = decide (n ∈ ns) := by
  unfold inV
  induction ns with
  | nil => rfl
  | cons m r ih =>
    rw [List.map_cons, List.any_cons, ih]
    have e : eqV (sV m) (sV n) = decide (m = n) := by
      show (m == n) = _
      by_cases z : m = n
      · subst z; simp
      · rw [decide_eq_false z]
        exact beq_eq_false_iff_ne.mpr z
    rw [e]
    by_cases z : m = n
    · subst z; simp
    · have z' : ¬ n = m := fun q => z q.symm
      simp [z, z']
section
variable {P : Program} {w : World} {K : PySem.W.Frag} {mg : Str → Option Value} {base : Heap}
/-! ### names, roads_from -/
def sp_names (K : PySem.W.Frag) : Sp := fun vs H Q _ => ∃ (g : Addr) (G : G0), vs = [.ref g] ∧ GAt K H g G ∧ ∀ p H2, H p = none → Ex H H2 → LAt H2 p G.ns → Q (.ref p) H2
theorem sc_Ground_names : FnScope ["self"] ["self"] (defScope s_Ground_names) := ⟨rfl, rfl, rfl, by decide +kernel, rfl, by decide +kernel, by decide +kernel⟩
theorem D_Ground_names (T : Tx K mg) : Def P w K mg base 1 (He.ma K (He.ga K "Ground") "names") ["self"] (sp_names K) := by
  refine Def.make T (d := d_Ground_names) 45 rfl rfl rfl sc_Ground_names (fun _ _ _ _ _ _ us hl => match us, hl with | [_], _ => rfl) (fun vs H Q E h => ?_) (fun cdv A outer s H vs Q E hr h => ?_)
  · obtain ⟨g, G, rfl, _⟩ := h
    rfl
  · obtain ⟨g, G, rfl, hG, k⟩ := h
    have nd := sc_Ground_names.nd
    obtain ⟨dx, d, ts, h1, h2, h3⟩ := hG
    refine ⟨_, (pss_one (ps_ret (PE.nm (pe_callTy (call_list_dK rfl) (by rfl) T.f_list (by decide +kernel) (pa_cons (pe_fld (pv 0) rfl) pa_nil))))), ?_⟩
    walk_at "go"
    refine ⟨g, _, dx, _, _, rfl, h1, T.c_Ground, T.na_Ground_leading, lk1, ?_⟩
    walk_at "go"
    refine ⟨d, _, rfl, h2, w_new fun q H3 hq e hl => k q H3 hq e ?_⟩
    rw [zip_keys h3] at hl
    exact hl
def sp_roads (K : PySem.W.Frag) : Sp := fun vs H Q _ => ∃ (g : Addr) (G : G0) (n : Str), vs = [.ref g, .str n] ∧ GAt K H g G ∧ n ∈ G.ns ∧ ∀ p H2, H p = none → Ex H H2 → LAt H2 p (G.rd n) → Q (.ref p) H2
theorem sc_Ground_roads_from : FnScope ["self", "name"] ["self", "name"] (defScope s_Ground_roads_from) := ⟨rfl, rfl, rfl, by decide +kernel, rfl, by decide +kernel, by decide +kernel⟩
theorem D_Ground_roads_from (T : Tx K mg) : Def P w K mg base 1 (He.ma K (He.ga K "Ground") "roads_from") ["self", "name"] (sp_roads K) := by
  refine Def.make T (d := d_Ground_roads_from) 46 rfl rfl rfl sc_Ground_roads_from (fun _ _ _ _ _ _ us hl => match us, hl with | [_, _], _ => rfl) (fun vs H Q E h => ?_) (fun cdv A outer s H vs Q E hr h => ?_)
  · obtain ⟨g, G, n, rfl, _⟩ := h
    rfl
  · obtain ⟨g, G, n, rfl, hG, hn, k⟩ := h
    have nd := sc_Ground_roads_from.nd
    have hu := hu_of hr
    obtain ⟨dx, d, ts, h1, h2, h3⟩ := hG
    obtain ⟨t, ht, hT⟩ := zip_look h3 hn
    refine ⟨_, (pss_cons (ps_if (PW.pt (pw_or (pt_not (pt_val (pe_callB call_isi (by rfl) T.f_isinstance (by decide +kernel) (pa_cons (pv 1) (pa_cons (pe_bltn (v := .ty "str") (by rfl) T.f_str (by decide +kernel) rfl) pa_nil))))) (pw_or1 (pt_cmp (pc_dnotin hu (pv 1) (pe_fld (pv 0) rfl)))))) (pss_one ps_never) pss_nil)
    (pss_one (ps_ret (PE.nm (pe_callTy call_list_of (by rfl) T.f_list (by decide +kernel) (pa_cons (pe_dget hu (pe_fld (pv 0) rfl) (pv 1) (fun _ _ => rfl)) pa_nil)))))), ?_⟩
    walk_at "go"
    refine ⟨_, _, _, _, true, rfl, .ty "str", .base (.str n), kit_ty (by decide +kernel), ?_⟩
    walk_at "go"
    refine brF rfl ?_
    walk_at "go"
    refine ⟨g, _, dx, _, _, rfl, h1, T.c_Ground, T.na_Ground_leading, lk1, d, _, rfl, DGet.k (k := Sum.inr n) h2, ?_⟩
    rw [ht]
    walk_at "go"
    refine brF rfl ?_
    walk_at "go"
    refine ⟨g, _, dx, _, _, rfl, h1, T.c_Ground, T.na_Ground_leading, lk1, ?_⟩
    walk_at "go"
    have hd := DGet.k (k := Sum.inr n) h2
    rw [ht] at hd
    refine ⟨d, _, rfl, hd, ?_⟩
    walk_at "go"
    exact ⟨t, _, rfl, .inr (SqT.of hT), w_new fun l H3 hl e hq => k l H3 hl e hq⟩
/-! ### need_heap -/
def sp_need_heap (K : PySem.W.Frag) : Sp := fun vs H Q _ => ∃ (g h : Addr) (G : G0) (hs : List Str), vs = [.ref g, .ref h] ∧ GAt K H g G ∧ LAt H h hs ∧ HOk' G hs ∧ ∀ H2, Ex H H2 → Q .non H2
theorem sc_need_heap : FnScope ["ground", "heap", "known", "thing"] ["ground", "heap"] (defScope s_need_heap) := ⟨rfl, rfl, rfl, by decide +kernel, rfl, by decide +kernel, by decide +kernel⟩
theorem D_need_heap (T : Tx K mg) : Def P w K mg base 2 (He.ga K "need_heap") ["ground", "heap"] (sp_need_heap K) := by
  refine Def.make T (d := d_need_heap) 7 rfl rfl rfl sc_need_heap (fun _ _ _ _ _ _ us hl => match us, hl with | [_, _], _ => rfl) (fun vs H Q E h => ?_) (fun cdv A outer s H vs Q E hr h => ?_)
  · obtain ⟨g, h, G, hs, rfl, _⟩ := h
    rfl
  · obtain ⟨g, h, G, hs, rfl, hG, hL, hO, k⟩ := h
    have nd := sc_need_heap.nd
    refine ⟨_, (pss_cons (ps_if (pt_not (pt_val (pe_callB call_isi (by rfl) T.f_isinstance (by decide +kernel) (pa_cons (pv 1) (pa_cons (pe_bltn (v := .ty "list") (by rfl) T.f_list (by decide +kernel) rfl) pa_nil))))) (pss_one ps_never) pss_nil)
    (pss_cons (ps_if (pt_cmpR op_gt (pe_callB call_len_seq (by rfl) T.f_len (by decide +kernel) (pa_cons (pv 1) pa_nil)) (pe_gI rfl T.i_MOST_TOKENS) (nomark _)) (pss_one ps_never) pss_nil)
    (pss_cons (ps_set (i := 2) nd rfl (Or.inl rfl) (pe_methX0 (D_Ground_names T) (hr.mono (by decide)) T.c_Ground T.m_Ground_names (pv 0)))
    (pss_one (ps_for PassesOwn.never rfl (pi_list (pv 1)) (pg_name (i := 3) nd rfl (Or.inl rfl))
    (pss_one (ps_if (PW.pt (pw_or (pt_not (pt_val (pe_callB call_isi (by rfl) T.f_isinstance (by decide +kernel) (pa_cons (pv 3) (pa_cons (pe_bltn (v := .ty "str") (by rfl) T.f_str (by decide +kernel) rfl) pa_nil))))) (pw_or1 (pt_cmpR op_notIn_seq (pv 3) (pv 2) rfl)))) (pss_one ps_never) pss_nil))))))), ?_⟩
    walk_at "go"
    refine ⟨_, _, _, _, true, rfl, .ty "list", .base (.lst hL), kit_ty (by decide +kernel), ?_⟩
    walk_at "go"
    refine brF rfl ?_
    walk_at "go"
    refine ⟨h, _, rfl, .inl (SqL.of hL), ?_⟩
    walk_at "go"
    refine brF (decide_eq_false ?_) ?_
    · rw [List.length_map]
      have := hO.len
      omega
    walk_at "go"
    have hG' := hG
    obtain ⟨dx, d, ts, h1, h2, h3⟩ := hG
    refine ⟨g, dx, _, rfl, h1, rfl, ?_⟩
    walk_at "go"
    refine ⟨g, G, rfl, hG', fun p H1 hp e1 hP => ?_⟩
    walk_at "go"
    refine ⟨h, rfl, ⟨_, SqL.of (e1 _ _ hL)⟩, for_list (K := K) (a := h) (xs := hs.map sV) (fun i σ H2 => H2 = H1 ∧ ∃ v, σ = [some (.ref g), some (.ref h), some (.ref p), v]) ⟨rfl, none, rfl⟩ (fun i σ H2 _ ⟨e, _⟩ => by rw [e]; exact SqL.of (e1 _ _ hL)) ?_ ?_⟩
    · rintro i y σ H2 hi ⟨rfl, v, rfl⟩
      obtain ⟨x, hx, rfl⟩ := map_at hi
      walk_at "go"
      refine ⟨_, _, _, _, true, rfl, .ty "str", .base (.str x), kit_ty (by decide +kernel), ?_⟩
      walk_at "go"
      refine brF rfl ?_
      walk_at "go"
      refine ⟨p, _, rfl, .inl (SqL.of hP), rfl, flat_sV _, ?_⟩
      walk_at "go"
      refine brF ?_ ?_
      · show (if true = true then !inV (sV x) (G.ns.map sV) else inV (sV x) (G.ns.map sV)) = false
        rw [if_pos rfl, mem_sV, decide_eq_true (hO.ins x (List.mem_of_getElem? hx))]
        rfl
      · walk_at "go"
        exact ⟨rfl, _, rfl⟩
    · rintro σ H2 ⟨rfl, v, rfl⟩
      exact k _ e1
/-! ### moves -/
def movesFrom (G : G0) : Nat → List Str → List (Nat × Str)
  | _, [] => []
  | i, x :: r => (G.rd x).map (fun y => (i, y)) ++ movesFrom G (i + 1) r
theorem movesFrom_snoc (G : G0) (x : Str) : ∀ (hs : List Str) (k : Nat), movesFrom G k (hs ++ [x]) = movesFrom G k hs ++ (G.rd x).map (fun y => (k + hs.length, y))
  | [], k => by simp [movesFrom]
  | a :: r, k => by
    show (G.rd a).map _ ++ movesFrom G (k + 1) (r ++ [x]) = _
    rw [movesFrom_snoc G x r (k + 1), ← List.append_assoc, List.length_cons]
    rw [show k + 1 + r.length = k + (r.length + 1) by omega]
    rfl
abbrev movesF (G : G0) (hs : List Str) : List (Nat × Str) := movesFrom G 0 hs
theorem mem_movesFrom {G : G0} {m : Nat × Str} : ∀ {hs : List Str} {k : Nat}, m ∈ movesFrom G k hs ↔ ∃ i x, m.1 = k + i ∧ hs[i]? = some x ∧ m.2 ∈ G.rd x
  | [], k => by simp [movesFrom]
  | a :: r, k => by
    show m ∈ (G.rd a).map _ ++ movesFrom G (k + 1) r ↔ _
    rw [List.mem_append, mem_movesFrom, List.mem_map]
    constructor
    · rintro (⟨y, hy, rfl⟩ | ⟨i, x, h1, h2, h3⟩)
      · exact ⟨0, a, rfl, rfl, hy⟩
      · exact ⟨i + 1, x, by omega, h2, h3⟩
    · rintro ⟨i, x, h1, h2, h3⟩
      cases i with
      | zero =>
        simp at h2
        subst h2
        exact .inl ⟨m.2, h3, by rw [← show m.1 = k from h1]⟩
      | succ i => exact .inr ⟨i, x, by omega, by simpa using h2, h3⟩
theorem mem_movesF {G : G0} {hs : List Str} {m : Nat × Str} : m ∈ movesF G hs ↔ ∃ x, hs[m.1]? = some x ∧ m.2 ∈ G.rd x := by
  rw [mem_movesFrom]
  constructor
  · rintro ⟨i, x, h1, h2, h3⟩
    rw [Nat.zero_add] at h1
    exact ⟨x, by rw [h1]; exact h2, h3⟩
  · rintro ⟨x, h2, h3⟩
    exact ⟨m.1, x, (Nat.zero_add _).symm, h2, h3⟩
theorem movesFrom_len {G : G0} (ok : GOk G) : ∀ {hs : List Str} {k : Nat}, (∀ x ∈ hs, x ∈ G.ns) → (movesFrom G k hs).length ≤ 14 * hs.length
  | [], _, _ => Nat.le_refl _
  | a :: r, k, h => by
    show ((G.rd a).map _ ++ movesFrom G (k + 1) r).length ≤ _
    rw [List.length_append, List.length_map, List.length_cons]
    have h1 := ok.few a (h a (List.mem_cons_self ..))
    have h2 := movesFrom_len ok (hs := r) (k := k + 1) fun x hx => h x (List.mem_cons_of_mem _ hx)
    omega
/-- a move stands at t -/
abbrev MAt (H : Hp) (t : Addr) (m : Nat × Str) : Prop := H t = some (.tup [nV m.1, sV m.2])
theorem MAt.up {H H' : Hp} {t : Addr} {m : Nat × Str} (h : MAt H t m) (e : Ex H H') : MAt H' t m := e _ _ h
/-- a list of moves stands at l -/
def MsAt (H : Hp) (l : Addr) (ms : List (Nat × Str)) : Prop := ∃ ts : List Addr, H l = some (.lst (ts.map V.ref)) ∧ Paired (MAt H) ts ms
theorem MsAt.up {H H' : Hp} {l : Addr} {ms : List (Nat × Str)} (h : MsAt H l ms) (e : Ex H H') : MsAt H' l ms := by
  obtain ⟨ts, h1, h2⟩ := h
  exact ⟨ts, e _ _ h1, Paired.mapP h2 fun _ _ q => e _ _ q⟩
theorem pair_tm {H H' : Hp} (e : Tm H H') : ∀ {ts : List Addr} {ms : List (Nat × Str)}, Paired (MAt H) ts ms → Paired (MAt H') ts ms := fun h => Paired.mapP h fun _ _ q => e _ _ q
def sp_moves_of (K : PySem.W.Frag) : Sp := fun vs H Q _ => ∃ (g h : Addr) (G : G0) (hs : List Str), vs = [.ref g, .ref h] ∧ GAt K H g G ∧ LAt H h hs ∧ GOk G ∧ HOk' G hs ∧ ∀ p H2, H p = none → Ex H H2 → MsAt H2 p (movesF G hs) → Q (.ref p) H2
theorem sc_moves_of : FnScope ["ground", "heap", "found", "token", "place", "other"] ["ground", "heap"] (defScope s_moves_of) := ⟨rfl, rfl, rfl, by decide +kernel, rfl, by decide +kernel, by decide +kernel⟩
theorem D_moves_of (T : Tx K mg) : Def P w K mg base 3 (He.ga K "moves_of") ["ground", "heap"] (sp_moves_of K) := by
  refine Def.make T (d := d_moves_of) 8 rfl rfl rfl sc_moves_of (fun _ _ _ _ _ _ us hl => match us, hl with | [_, _], _ => rfl) (fun vs H Q E h => ?_) (fun cdv A outer s H vs Q E hr h => ?_)
  · obtain ⟨g, h, G, hs, rfl, _⟩ := h
    rfl
  · obtain ⟨g, h, G, hs, rfl, hG, hL, gok, hO, k⟩ := h
    have nd := sc_moves_of.nd
    refine ⟨_, (pss_cons (ps_expr (pe_callX (D_need_heap T) (hr.mono (by decide)) rfl T.g_need_heap (pa_cons (pv 0) (pa_cons (pv 1) pa_nil))))
    (pss_cons (ps_set (i := 2) nd rfl (Or.inl rfl) (PE.nm (pe_lst pa_nil)))
    (pss_cons (ps_for PassesOwn.never rfl (pi_enum (by rfl) T.f_enumerate (pa_cons (pv 1) pa_nil)) (pg_tup rfl (pgs_cons (pg_name (i := 3) nd rfl (Or.inr rfl)) (pgs_cons (pg_name (i := 4) nd rfl (Or.inl rfl)) pgs_nil)))
    (pss_one (ps_expr (pe_bm PySem.F.plainAttrs_list PySem.F.slot_list_extend PySem.F.type_list_extend mt_extend (pv 2) (pa_cons (pe_lc (own := [("other", 5)]) rfl nd (pi_list (pe_methX (D_Ground_roads_from T) (hr.mono (by decide)) T.c_Ground T.m_Ground_roads_from (pv 0) (pa_cons (pv 4) pa_nil))) (blkOk_by (N := ["ground", "heap", "found", "token", "place", "other"]) (sc := defScope s_moves_of) (by decide +kernel)) (fun _ _ _ _ _ => (pg_name (i := 5) nd rfl (Or.inl rfl))) (fun _ _ _ _ _ => pts_nil) (fun _ _ _ _ _ => (PE.nm (pe_tup (pa_cons (pv 3) (pa_cons (pv 5) pa_nil)))))) pa_nil)))))
    (pss_one (ps_ret (pv 2)))))), ?_⟩
    walk_at "go"
    refine ⟨g, h, G, hs, rfl, hG, hL, hO, fun H1 e1 => ?_⟩
    walk_at "go"
    refine ⟨szs (Nat.zero_le _), w_new fun l H2 hl e2 hl2 => ?_⟩
    walk_at "go"
    have hL2 : LAt H2 h hs := hL |> e1 _ _ |> e2 _ _
    refine ⟨h, _, rfl, SqL.of hL2, for_it (walk_enum (K := K) (a := h) (xs := hs.map sV)) (fun i σ H3 => H l = none ∧ Ex H H3 ∧ MsAt H3 l (movesF G (hs.take i)) ∧ ∃ v1 v2 v3, σ = [some (.ref g), some (.ref h), some (.ref l), v1, v2, v3]) ⟨?_, e1.trans e2, ⟨[], hl2, .nil⟩, none, none, none, rfl⟩ (fun i σ H3 _ ⟨_, e, _⟩ => SqL.of (e _ _ hL)) ?_ ?_⟩
    · exact Evl.fresh_back e1 hl
    · rintro i v σ H3 H3' hi ⟨hn, e3, hM, v1, v2, v3, rfl⟩ ⟨T', x, y, rfl, hT', rfl, h1, h2⟩
      obtain rfl : V.int (i : Nat) = x := Option.some.inj h1
      obtain ⟨z, hz, rfl⟩ := map_at h2
      have eT : Ex H3 (upd H3 T' (.tup [.int (i : Nat), sV z])) := Ex.new hT'
      generalize hH4 : upd H3 T' (.tup [.int (i : Nat), sV z]) = H4 at eT
      have hT4 : H4 T' = some (.tup [nV i, sV z]) := by rw [← hH4]; exact upd_same
      refine w_gtup ⟨T', _, rfl, SqT.of hT4, rfl, ?_⟩
      walk_at "go"
      obtain ⟨ts, hts, hpair⟩ := hM
      refine ⟨.inl ⟨rfl, _, SqL.of (eT _ _ hts)⟩, ?_⟩
      walk_at "go"
      obtain ⟨dx, d, _, hg4, _⟩ := (hG.up (e3.trans eT))
      refine ⟨g, dx, _, rfl, hg4, rfl, ?_⟩
      walk_at "go"
      refine ⟨g, G, z, rfl, hG.up (e3.trans eT), hO.ins z (List.mem_of_getElem? hz), fun p H5 hp e5 hP => ?_⟩
      have hlen := gok.few z (hO.ins z (List.mem_of_getElem? hz))
      refine ⟨p, rfl, ⟨_, SqL.of hP⟩, lc_L (K := K) (SqL.of hP) (fun j ys H6 => ∃ us : List Addr, ys = us.map V.ref ∧ Paired (MAt H6) us (((G.rd z).take j).map fun y => (i, y))) ?_ ⟨[], rfl, .nil⟩ (by rw [List.length_map]; omega) ?_ ?_⟩
      · rintro j ys Ha Hb e ⟨us, r1, r2⟩
        exact ⟨us, r1, pair_tm e r2⟩
      · rintro j y ys H6 hj e6 ⟨us, rfl, hus⟩ N M hN hM
        obtain ⟨o, ho, rfl⟩ := map_at hj
        walk_at "go"
        refine ⟨rfl, ?_⟩
        walk_at "go"
        refine brT rfl ?_
        walk_at "go"
        refine ⟨szs (show 2 ≤ 100000 by decide), w_new fun q H7 hq e7 h7 => hN _ _ e7 ⟨us ++ [q], by rw [List.map_append]; rfl, ?_⟩⟩
        rw [tk ho, List.map_append]
        exact (pair_tm (Tm.of e7) hus).snoc h7
      · rintro D ys H6 hD e6 hD6 hyl ⟨us, rfl, hus⟩
        walk_at "go"
        have hts6 : H6 l = some (.lst (ts.map V.ref)) := e6 _ _ (e5 _ _ (eT _ _ hts))
        have hul : us.length ≤ 14 := by
          rw [List.length_map, List.length_map] at hyl
          omega
        have htl : ts.length ≤ 112 := by
          have q1 := Paired.length hpair
          have q2 : (movesF G (hs.take i)).length ≤ 14 * (hs.take i).length := movesFrom_len gok (hs := hs.take i) (k := 0) fun x hx => hO.ins x (List.mem_of_mem_take hx)
          rw [List.length_take] at q2
          have q3 := hO.len
          omega
        refine ⟨l, D, _, _, rfl, rfl, hts6, hD6, szs (by rw [List.length_map, List.length_map]; omega), ?_⟩
        have eH6 : Ex H H6 := ((e3.trans eT).trans e5).trans e6
        have tm6 : Tm H6 (upd H6 l (.lst (ts.map V.ref ++ us.map V.ref))) := Tm.updL hts6
        refine ⟨hn, Ex.mut eH6 hn, ⟨ts ++ us, by rw [List.map_append]; exact upd_same, ?_⟩, some (nV i), some (sV z), v3, rfl⟩
        have e9 : movesF G (hs.take (i + 1)) = movesF G (hs.take i) ++ (G.rd z).map (fun y => (i, y)) := by
          rw [tk hz]
          unfold movesF
          rw [movesFrom_snoc, Nat.zero_add, List.length_take, Nat.min_eq_left (Nat.le_of_lt (lt_of_at hz))]
        rw [e9]
        rw [List.length_map, List.take_length] at hus
        exact Paired.app (pair_tm ((((Tm.of eT).trans (Tm.of e5)).trans (Tm.of e6)).trans tm6) hpair) (pair_tm tm6 hus)
    · rintro σ H3 ⟨hn, e3, hM, v1, v2, v3, rfl⟩
      walk_at "go"
      rw [List.length_map, List.take_length] at hM
      exact k l H3 hn e3 hM
end
end K96

set_option Elab.async false
set_option linter.all false
set_option maxRecDepth 100000
set_option maxHeartbeats 4000000
/-! K96C: comparisons of data; is_over, is_move, after. -/
namespace K96
open PySem PySem.Spec PyProof.Rows L2
open Evl (Ex)
open K96M (Gr)
local macro_rules | `(tactic| walk_at "go") => `(tactic| repeat (first
  | with_reducible refine w_seq ?_
  | with_reducible refine w_asg ?_
  | with_reducible refine w_name ?_
  | with_reducible refine w_var rfl ?_
  | with_reducible refine w_c ?_
  | with_reducible refine w_op ?_
  | with_reducible refine w_I0 ?_
  | with_reducible refine w_drop ?_
  | with_reducible refine w_ret ?_
  | with_reducible refine w_if ?_
  | with_reducible refine w_next ?_
  | with_reducible refine w_test ?_
  | with_reducible refine w_B ?_
  | with_reducible refine w_bl ?_
  | with_reducible refine w_not ?_
  | with_reducible refine w_and ?_
  | with_reducible refine w_or ?_
  | with_reducible refine w_andV ?_
  | with_reducible refine w_orV ?_
  | with_reducible refine w_notV ?_
  | with_reducible refine w_cons ?_
  | with_reducible refine w_nil ?_
  | with_reducible refine w_cb ?_
  | with_reducible refine w_call ?_
  | with_reducible refine w_isN ?_
  | with_reducible refine w_notN ?_
  | with_reducible refine w_chain ?_
  | with_reducible refine w_sl ?_
  | with_reducible refine w_nopart ?_
  | with_reducible refine w_tupT ?_
  | with_reducible refine w_lstT ?_
  | with_reducible refine w_eq rfl ?_
  | with_reducible refine w_ne rfl ?_
  | with_reducible refine w_for ?_
  | with_reducible refine w_iL ?_
  | with_reducible refine w_iT ?_
  | with_reducible refine w_iR1 ?_
  | with_reducible refine w_iR2 ?_
  | with_reducible refine w_iE ?_
  | with_reducible refine w_iS ?_
  | with_reducible refine w_lc ?_
  | with_reducible refine w_nm ?_
  | with_reducible refine w_din ?_
  | with_reducible refine w_dnotin ?_
  | with_reducible refine w_dput ?_
  | with_reducible refine w_dget1 ?_
  | with_reducible refine w_dget2 ?_
  | with_reducible refine w_bm ?_
  | with_reducible refine w_bm0 ?_
  | with_reducible refine w_sfld ?_
  | with_reducible refine w_make ?_
  | with_reducible refine w_part ?_
  | with_reducible refine w_aug rfl ?_
  | with_reducible refine w_ip ?_
  | with_reducible refine w_yes ?_
  | with_reducible refine w_gcs ?_
  | with_reducible refine w_gnil ?_
  | with_reducible refine w_dget ?_
  | with_reducible refine w_fld ?_
  | with_reducible refine w_meth ?_))
local macro_rules | `(tactic| walk_at "ex") => `(tactic| repeat (first | assumption | exact Ex.refl _ | refine Ex.trans ?_ (by assumption)))
/-! ### data -/
theorem eqvAll_nil (ds : List PyData) : PyData.eqv (.list ds) (.list []) = ds.isEmpty := by
  cases ds with
  | nil => rfl
  | cons d r => rfl
theorem lay_all : ∀ {ds : List PyData}, (∀ d ∈ ds, d.canLay0 = true) → PyData.canLayAll0 ds = true
  | [], _ => rfl
  | d :: r, h => by
    show (d.canLay0 && PyData.canLayAll0 r) = true
    rw [h d (List.mem_cons_self ..), lay_all fun x hx => h x (List.mem_cons_of_mem _ hx)]
    rfl
theorem depth_all {n : Nat} : ∀ {ds : List PyData}, (∀ d ∈ ds, d.depth ≤ n) → PyData.depthAll ds ≤ n
  | [], _ => Nat.zero_le _
  | d :: r, h => by
    show max d.depth (PyData.depthAll r) ≤ n
    exact Nat.max_le.mpr ⟨h d (List.mem_cons_self ..), depth_all fun x hx => h x (List.mem_cons_of_mem _ hx)⟩
theorem shaped_list {ds : List PyData} (h1 : ∀ d ∈ ds, d.canLay0 = true) (h2 : ∀ d ∈ ds, d.depth ≤ 60) : SeqAt.shaped (.list ds) = true := by
  show (PyData.canLayAll0 ds && decide (PyData.depthAll ds + 1 ≤ 64)) = true
  rw [lay_all h1, decide_eq_true (by have := depth_all h2; omega)]
  rfl
theorem shaped_tup {ds : List PyData} (h1 : ∀ d ∈ ds, d.canLay0 = true) (h2 : ∀ d ∈ ds, d.depth ≤ 60) : SeqAt.shaped (.tuple ds) = true := by
  show (PyData.canLayAll0 ds && decide (PyData.depthAll ds + 1 ≤ 64)) = true
  rw [lay_all h1, decide_eq_true (by have := depth_all h2; omega)]
  rfl
theorem dpAll_map {K : PySem.W.Frag} {H : Hp} {A : Type} {f : A → V} {d : A → PyData} : ∀ {xs : List A}, (∀ x ∈ xs, Dp K H (f x) (d x)) → DpAll K H (xs.map f) (xs.map d)
  | [], _ => .nil
  | x :: r, h => .cons (h x (List.mem_cons_self ..)) (dpAll_map fun y hy => h y (List.mem_cons_of_mem _ hy))
theorem dpAll_pair {K : PySem.W.Frag} {H : Hp} {A : Type} {R : Addr → A → Prop} {d : A → PyData} (hR : ∀ t x, R t x → Dp K H (.ref t) (d x)) : ∀ {ts : List Addr} {xs : List A}, Paired R ts xs → DpAll K H (ts.map V.ref) (xs.map d)
  | _, _, .nil => .nil
  | _, _, .cons r q => .cons (hR _ _ r) (dpAll_pair hR q)
/-- names of letters -/
def Txt (G : G0) : Prop := ∀ a ∈ G.ns, (PyData.str a).canLay0 = true
/-- a move's data -/
def mD (m : Nat × Str) : PyData := .tuple [.int (m.1 : Nat), .str m.2]
theorem dp_m {K : PySem.W.Frag} {H : Hp} {t : Addr} {m : Nat × Str} (h : MAt H t m) : Dp K H (.ref t) (mD m) := .tup (SqT.of h) (.cons (.int _) (.cons (.str _) .nil))
theorem lay_m {m : Nat × Str} (h : (PyData.str m.2).canLay0 = true) : (mD m).canLay0 = true := by
  show (true && ((PyData.str m.2).canLay0 && true)) = true
  rw [h]
  rfl
theorem depth_m (m : Nat × Str) : (mD m).depth ≤ 60 := by
  show max 0 (max 0 0) + 1 ≤ 60
  decide
theorem dp_ms {K : PySem.W.Frag} {H : Hp} {l : Addr} {ms : List (Nat × Str)} (h : MsAt H l ms) : Dp K H (.ref l) (.list (ms.map mD)) := by
  obtain ⟨ts, h1, h2⟩ := h
  exact .lst (SqL.of h1) (dpAll_pair (fun _ _ q => dp_m q) h2)
theorem shaped_ms {ms : List (Nat × Str)} (h : ∀ m ∈ ms, (PyData.str m.2).canLay0 = true) : SeqAt.shaped (.list (ms.map mD)) = true := by
  refine shaped_list (fun d hd => ?_) (fun d hd => ?_)
  · obtain ⟨m, hm, rfl⟩ := List.mem_map.mp hd
    exact lay_m (h m hm)
  · obtain ⟨m, hm, rfl⟩ := List.mem_map.mp hd
    exact depth_m m
theorem moves_txt {G : G0} {hs : List Str} (gok : GOk G) (tx : Txt G) (hO : HOk' G hs) : ∀ m ∈ movesF G hs, (PyData.str m.2).canLay0 = true := fun m hm => by
  obtain ⟨x, h1, h2⟩ := mem_movesF.mp hm
  exact tx _ (gok.ok.cl x (hO.ins x (List.mem_of_getElem? h1)) _ h2)
section
variable {P : Program} {w : World} {K : PySem.W.Frag} {mg : Str → Option Value} {base : Heap}
def sp_is_over (K : PySem.W.Frag) : Sp := fun vs H Q _ => ∃ (g h : Addr) (G : G0) (hs : List Str), vs = [.ref g, .ref h] ∧ GAt K H g G ∧ LAt H h hs ∧ GOk G ∧ Txt G ∧ HOk' G hs ∧ ∀ H2, Ex H H2 → Q (.bl (movesF G hs).isEmpty) H2
theorem sc_is_over : FnScope ["ground", "heap"] ["ground", "heap"] (defScope s_is_over) := ⟨rfl, rfl, rfl, by decide +kernel, rfl, by decide +kernel, by decide +kernel⟩
theorem D_is_over (T : Tx K mg) : Def P w K mg base 4 (He.ga K "is_over") ["ground", "heap"] (sp_is_over K) := by
  refine Def.make T (d := d_is_over) 9 rfl rfl rfl sc_is_over (fun _ _ _ _ _ _ us hl => match us, hl with | [_, _], _ => rfl) (fun vs H Q E h => ?_) (fun cdv A outer s H vs Q E hr h => ?_)
  · obtain ⟨g, h, G, hs, rfl, _⟩ := h
    rfl
  · obtain ⟨g, h, G, hs, rfl, hG, hL, gok, tx, hO, k⟩ := h
    have nd := sc_is_over.nd
    refine ⟨_, (pss_one (ps_ret (pe_cmpR (op_eqD hr.units) (pe_callX (D_moves_of T) (hr.mono (by decide)) rfl T.g_moves_of (pa_cons (pv 0) (pa_cons (pv 1) pa_nil))) (PE.nm (pe_lst pa_nil)) (nomark _)))), ?_⟩
    walk_at "go"
    refine ⟨g, h, G, hs, rfl, hG, hL, gok, hO, fun p H2 hp e2 hM => ?_⟩
    walk_at "go"
    refine ⟨szs (Nat.zero_le _), w_new fun q H3 hq e3 h3 => ?_⟩
    walk_at "go"
    refine ⟨_, .list [], dp_ms (hM.up e3), .lst (SqL.of h3) .nil, shaped_ms (moves_txt gok tx hO), rfl, ?_⟩
    rw [eqvAll_nil, List.isEmpty_map]
    exact k _ (e2.trans e3)
/-! ### is_move, after -/
def sp_is_move (K : PySem.W.Frag) : Sp := fun vs H Q _ => ∃ (g h t : Addr) (G : G0) (hs : List Str) (m : Nat × Str), vs = [.ref g, .ref h, .ref t] ∧ GAt K H g G ∧ LAt H h hs ∧ HOk' G hs ∧ MAt H t m ∧ m ∈ movesF G hs ∧ ∀ H2, Ex H H2 → Q (.bl true) H2
theorem sc_is_move : FnScope ["ground", "heap", "move"] ["ground", "heap", "move"] (defScope s_is_move) := ⟨rfl, rfl, rfl, by decide +kernel, rfl, by decide +kernel, by decide +kernel⟩
theorem D_is_move (T : Tx K mg) : Def P w K mg base 2 (He.ga K "is_move") ["ground", "heap", "move"] (sp_is_move K) := by
  refine Def.make T (d := d_is_move) 10 rfl rfl rfl sc_is_move (fun _ _ _ _ _ _ us hl => match us, hl with | [_, _, _], _ => rfl) (fun vs H Q E h => ?_) (fun cdv A outer s H vs Q E hr h => ?_)
  · obtain ⟨g, h, t, G, hs, m, rfl, _⟩ := h
    rfl
  · obtain ⟨g, h, t, G, hs, m, rfl, hG, hL, hO, hm, hmv, k⟩ := h
    have nd := sc_is_move.nd
    obtain ⟨x, hx, hy⟩ := mem_movesF.mp hmv
    have a0 : atI [nV m.1, sV m.2] 0 = some (nV m.1) := rfl
    have a1 : atI [nV m.1, sV m.2] 1 = some (sV m.2) := rfl
    refine ⟨_, (pss_cons (ps_if (PW.pt (pw_or (pt_not (pt_val (pe_callB call_isi (by rfl) T.f_isinstance (by decide +kernel) (pa_cons (pv 2) (pa_cons (pe_bltn (v := .ty "tuple") (by rfl) T.f_tuple (by decide +kernel) rfl) pa_nil))))) (pw_or (pt_cmpR op_ne (pe_callB call_len_seq (by rfl) T.f_len (by decide +kernel) (pa_cons (pv 2) pa_nil)) pe_int (nomark _)) (pw_or (pt_not (pt_val (pe_callX (D_is_whole T) (hr.mono (by decide)) rfl T.g_is_whole (pa_cons (pe_ix ix_tup (pv 2) pe_int (fun _ _ => rfl)) pa_nil)))) (pw_or1 (pt_not (pt_val (pe_callB call_isi (by rfl) T.f_isinstance (by decide +kernel) (pa_cons (pe_ix ix_tup (pv 2) pe_int (fun _ _ => rfl)) (pa_cons (pe_bltn (v := .ty "str") (by rfl) T.f_str (by decide +kernel) rfl) pa_nil)))))))))) (pss_one (ps_ret pe_bl)) pss_nil)
    (pss_one (ps_ret (pe_and (pe_chain op_le op_lt pe_int (pe_ix ix_tup (pv 2) pe_int (fun _ _ => rfl)) (pe_callB call_len_seq (by rfl) T.f_len (by decide +kernel) (pa_cons (pv 1) pa_nil))) (pe_one (pe_cmpR op_in_seq (pe_ix ix_tup (pv 2) pe_int (fun _ _ => rfl)) (pe_methX (D_Ground_roads_from T) (hr.mono (by decide)) T.c_Ground T.m_Ground_roads_from (pv 0) (pa_cons (pe_ix ix_list (pv 1) (pe_ix ix_tup (pv 2) pe_int (fun _ _ => rfl)) (fun _ _ => rfl)) pa_nil)) rfl)))))), ?_⟩
    walk_at "go"
    refine ⟨_, _, _, _, true, rfl, .ty "tuple", .base (.tup hm), kit_ty (by decide +kernel), ?_⟩
    walk_at "go"
    refine brF rfl ?_
    walk_at "go"
    refine ⟨t, _, rfl, .inr (SqT.of hm), ?_⟩
    walk_at "go"
    refine brF rfl ?_
    walk_at "go"
    refine w_ixT (SqT.of hm) a0 ?_
    walk_at "go"
    refine ⟨_, rfl, ?_⟩
    walk_at "go"
    refine brF rfl ?_
    walk_at "go"
    refine w_ixT (SqT.of hm) a1 ?_
    walk_at "go"
    refine ⟨_, _, _, _, true, rfl, .ty "str", .base (.str _), kit_ty (by decide +kernel), ?_⟩
    walk_at "go"
    refine brF rfl ?_
    walk_at "go"
    refine w_ixT (SqT.of hm) a0 ?_
    walk_at "go"
    refine brT (decide_eq_true (Int.natCast_nonneg _)) ?_
    walk_at "go"
    refine ⟨h, _, rfl, .inl (SqL.of hL), ?_⟩
    walk_at "go"
    refine brT (decide_eq_true ?_) ?_
    · rw [List.length_map]
      have := lt_of_at hx
      omega
    walk_at "go"
    refine w_ixT (SqT.of hm) a1 ?_
    walk_at "go"
    have hG' := hG
    obtain ⟨dx, d, ts, h1, h2, h3⟩ := hG
    refine ⟨g, dx, _, rfl, h1, rfl, ?_⟩
    walk_at "go"
    refine w_ixT (SqT.of hm) a0 ?_
    walk_at "go"
    refine w_ixL (SqL.of hL) (v := sV x) (atI_nat (by rw [List.getElem?_map, hx]; rfl)) ?_
    walk_at "go"
    refine ⟨g, G, x, rfl, hG', hO.ins x (List.mem_of_getElem? hx), fun p H2 hp e2 hP => ?_⟩
    refine ⟨p, _, rfl, .inl (SqL.of hP), rfl, flat_sV _, ?_⟩
    have e : (if false = true then !inV (sV m.2) ((G.rd x).map sV) else inV (sV m.2) ((G.rd x).map sV)) = true := by
      rw [if_neg Bool.false_ne_true, mem_sV, decide_eq_true hy]
    rw [e]
    exact k _ e2
theorem set_cut (hs : List Str) (i : Nat) (y : Str) (hi : i < hs.length) : hs.take i ++ [y] ++ hs.drop (i + 1) = hs.set i y := by
  rw [List.set_eq_take_append_cons_drop, if_pos hi, List.append_assoc]
  rfl
def sp_after (K : PySem.W.Frag) : Sp := fun vs H Q _ => ∃ (g h t : Addr) (G : G0) (hs : List Str) (m : Nat × Str), vs = [.ref g, .ref h, .ref t] ∧ GAt K H g G ∧ LAt H h hs ∧ HOk' G hs ∧ MAt H t m ∧ m ∈ movesF G hs ∧ ∀ p H2, H p = none → Ex H H2 → LAt H2 p (hs.set m.1 m.2) → Q (.ref p) H2
theorem sc_after : FnScope ["ground", "heap", "move", "token", "place"] ["ground", "heap", "move"] (defScope s_after) := ⟨rfl, rfl, rfl, by decide +kernel, rfl, by decide +kernel, by decide +kernel⟩
theorem D_after (T : Tx K mg) : Def P w K mg base 3 (He.ga K "after") ["ground", "heap", "move"] (sp_after K) := by
  refine Def.make T (d := d_after) 11 rfl rfl rfl sc_after (fun _ _ _ _ _ _ us hl => match us, hl with | [_, _, _], _ => rfl) (fun vs H Q E h => ?_) (fun cdv A outer s H vs Q E hr h => ?_)
  · obtain ⟨g, h, t, G, hs, m, rfl, _⟩ := h
    rfl
  · obtain ⟨g, h, t, G, hs, m, rfl, hG, hL, hO, hm, hmv, k⟩ := h
    have nd := sc_after.nd
    obtain ⟨x, hx, hy⟩ := mem_movesF.mp hmv
    have hi := lt_of_at hx
    refine ⟨_, (pss_cons (ps_expr (pe_callX (D_need_heap T) (hr.mono (by decide)) rfl T.g_need_heap (pa_cons (pv 0) (pa_cons (pv 1) pa_nil))))
    (pss_cons (ps_if (pt_not (pt_val (pe_callX (D_is_move T) (hr.mono (by decide)) rfl T.g_is_move (pa_cons (pv 0) (pa_cons (pv 1) (pa_cons (pv 2) pa_nil)))))) (pss_one ps_never) pss_nil)
    (pss_cons (ps_asg (pv 2) (pg_tup rfl (pgs_cons (pg_name (i := 3) nd rfl (Or.inl rfl)) (pgs_cons (pg_name (i := 4) nd rfl (Or.inl rfl)) pgs_nil))))
    (pss_one (ps_ret (PE.nm (pe_op op_cat (PE.nm (pe_op op_cat (PE.nm (pe_slice sl_list (pv 1) po_none (po_some (pv 3)))) (PE.nm (pe_lst (pa_cons (pv 4) pa_nil))))) (PE.nm (pe_slice sl_list (pv 1) (po_some (pe_op op_add (pv 3) pe_int)) po_none))))))))), ?_⟩
    walk_at "go"
    refine ⟨g, h, G, hs, rfl, hG, hL, hO, fun H1 e1 => ?_⟩
    walk_at "go"
    refine ⟨g, h, t, G, hs, m, rfl, hG.up e1, e1 _ _ hL, hO, e1 _ _ hm, hmv, fun H2 e2 => ?_⟩
    walk_at "go"
    refine brF rfl ?_
    walk_at "go"
    have e12 := e1.trans e2
    refine w_gtup ⟨t, _, rfl, SqT.of (e12 _ _ hm), rfl, ?_⟩
    walk_at "go"
    refine ⟨_, rfl, ?_⟩
    walk_at "go"
    refine ⟨h, _, rfl, SqL.of (e12 _ _ hL), w_new fun p H3 hp e3 h3 => ?_⟩
    walk_at "go"
    refine ⟨szs (show 1 ≤ 100000 by decide), w_new fun q H4 hq e4 h4 => ?_⟩
    have lim : (hs.map sV).length ≤ 8 := by rw [List.length_map]; exact hO.len
    have c1 := cutV_length (hs.map sV) none (some (m.1 : Int))
    have c2 := cutV_length (hs.map sV) (some ((m.1 : Int) + 1)) none
    refine ⟨p, q, _, _, rfl, rfl, e4 _ _ h3, h4, szs (by show _ + 1 ≤ 100000; omega), w_new fun r H5 hr5 e5 h5 => ?_⟩
    walk_at "go"
    refine ⟨_, rfl, ?_⟩
    walk_at "go"
    refine ⟨h, _, rfl, SqL.of (e5 _ _ (e4 _ _ (e3 _ _ (e12 _ _ hL)))), w_new fun u H6 hu6 e6 h6 => ?_⟩
    refine ⟨r, u, _, _, rfl, rfl, e6 _ _ h5, h6, szs (by rw [List.length_append]; show _ + 1 + _ ≤ 100000; omega), w_new fun z H7 hz e7 h7 => ?_⟩
    refine k z H7 ?_ ((((e12.trans e3).trans e4).trans e5).trans (e6.trans e7)) ?_
    · exact Evl.fresh_back ((((e12.trans e3).trans e4).trans e5).trans e6) hz
    · have f1 : cutV (hs.map sV) none (some (m.1 : Int)) = (hs.take m.1).map sV := by
        unfold cutV
        rw [HT.sIx_none, HT.sIx_nat, List.drop_zero, Nat.sub_zero, List.length_map, Nat.min_eq_left (Nat.le_of_lt hi), List.map_take]
      have f2 : cutV (hs.map sV) (some ((m.1 : Int) + 1)) none = (hs.drop (m.1 + 1)).map sV := by
        unfold cutV
        rw [show ((m.1 : Int) + 1) = ((m.1 + 1 : Nat) : Int) from rfl, HT.sIx_none, HT.sIx_nat, List.length_map, Nat.min_eq_left hi, List.map_drop, List.take_of_length_le]
        rw [List.length_drop, List.length_map]
        exact Nat.le_refl _
      rw [f1, f2] at h7
      show H7 z = some (.lst ((hs.set m.1 m.2).map sV))
      rw [h7, ← set_cut hs m.1 m.2 hi, List.map_append, List.map_append]
      rfl
end
end K96

set_option Elab.async false
set_option linter.all false
set_option maxRecDepth 100000
set_option maxHeartbeats 4000000
/-! K96D: worths. -/
namespace K96
open PySem PySem.Spec PyProof.Rows L2
open Evl (Ex)
local macro_rules | `(tactic| walk_at "go") => `(tactic| repeat (first
  | with_reducible refine w_seq ?_
  | with_reducible refine w_asg ?_
  | with_reducible refine w_name ?_
  | with_reducible refine w_var rfl ?_
  | with_reducible refine w_c ?_
  | with_reducible refine w_op ?_
  | with_reducible refine w_I0 ?_
  | with_reducible refine w_drop ?_
  | with_reducible refine w_ret ?_
  | with_reducible refine w_if ?_
  | with_reducible refine w_next ?_
  | with_reducible refine w_test ?_
  | with_reducible refine w_B ?_
  | with_reducible refine w_bl ?_
  | with_reducible refine w_not ?_
  | with_reducible refine w_and ?_
  | with_reducible refine w_or ?_
  | with_reducible refine w_andV ?_
  | with_reducible refine w_orV ?_
  | with_reducible refine w_notV ?_
  | with_reducible refine w_cons ?_
  | with_reducible refine w_nil ?_
  | with_reducible refine w_cb ?_
  | with_reducible refine w_call ?_
  | with_reducible refine w_isN ?_
  | with_reducible refine w_notN ?_
  | with_reducible refine w_chain ?_
  | with_reducible refine w_sl ?_
  | with_reducible refine w_nopart ?_
  | with_reducible refine w_tupT ?_
  | with_reducible refine w_lstT ?_
  | with_reducible refine w_eq rfl ?_
  | with_reducible refine w_ne rfl ?_
  | with_reducible refine w_for ?_
  | with_reducible refine w_iL ?_
  | with_reducible refine w_iT ?_
  | with_reducible refine w_iR1 ?_
  | with_reducible refine w_iR2 ?_
  | with_reducible refine w_iE ?_
  | with_reducible refine w_iS ?_
  | with_reducible refine w_lc ?_
  | with_reducible refine w_nm ?_
  | with_reducible refine w_din ?_
  | with_reducible refine w_dnotin ?_
  | with_reducible refine w_dput ?_
  | with_reducible refine w_dget1 ?_
  | with_reducible refine w_dget2 ?_
  | with_reducible refine w_bm ?_
  | with_reducible refine w_bm0 ?_
  | with_reducible refine w_sfld ?_
  | with_reducible refine w_make ?_
  | with_reducible refine w_part ?_
  | with_reducible refine w_aug rfl ?_
  | with_reducible refine w_ip ?_
  | with_reducible refine w_yes ?_
  | with_reducible refine w_gcs ?_
  | with_reducible refine w_gnil ?_
  | with_reducible refine w_dget ?_
  | with_reducible refine w_fld ?_
  | with_reducible refine w_meth ?_))
local macro_rules | `(tactic| walk_at "ex") => `(tactic| repeat (first | assumption | exact Ex.refl _ | refine Ex.trans ?_ (by assumption)))
/-! ### the mathematics of worths -/
inductive Wt where
  | n (k : Nat)
  | e (b : Nat)
def Wt.ok : Wt → Prop
  | .n k => k < 16
  | .e b => b < 65536
def Wt.plus : Wt → Wt → Wt
  | .n a, .n b => .n (a ^^^ b)
  | .n a, .e b => .e (turn b a)
  | .e b, .n a => .e (turn b a)
  | .e _, .e _ => .e 0
def oc (w : Wt) : Str := match w with
  | .n k => if k = 0 then "lost" else "won"
  | .e b => if b.testBit 0 then "won" else "drawn"
theorem Wt.plus_ok : ∀ {v w : Wt}, v.ok → w.ok → (v.plus w).ok
  | .n a, .n b, h1, h2 => Nat.xor_lt_two_pow (n := 4) h1 h2
  | .n a, .e b, h1, _ => turn_lt h1
  | .e b, .n a, _, h2 => turn_lt h2
  | .e _, .e _, _, _ => by show 0 < 65536; decide
def sumW (ws : List Wt) : Wt := ws.foldl Wt.plus (.n 0)
theorem sumW_snoc (ws : List Wt) (x : Wt) : sumW (ws ++ [x]) = (sumW ws).plus x := by
  unfold sumW; rw [List.foldl_append]; rfl
theorem sumW_ok {ws : List Wt} (h : ∀ x ∈ ws, x.ok) : (sumW ws).ok := by
  have key : ∀ (ws : List Wt) (a : Wt), a.ok → (∀ x ∈ ws, x.ok) → (ws.foldl Wt.plus a).ok := by
    intro ws
    induction ws with
    | nil => intro a ha _; exact ha
    | cons x r ih => intro a ha hx; exact ih _ (Wt.plus_ok ha (hx x (List.mem_cons_self ..))) fun y hy => hx y (List.mem_cons_of_mem _ hy)
  exact key ws _ (by show 0 < 16; decide) h
/-! ### worths in the heap -/
def WAt (K : PySem.W.Frag) (H : Hp) (a : Addr) : Wt → Prop
  | .n k => k < 16 ∧ ∃ dx, H a = some (.ins (He.ga K "Numbered") dx [("number", nV k)])
  | .e b => b < 65536 ∧ ∃ dx, H a = some (.ins (He.ga K "Endless") dx [("bits", nV b)])
theorem WAt.ok {K : PySem.W.Frag} {H : Hp} {a : Addr} {x : Wt} (h : WAt K H a x) : x.ok := by
  cases x with
  | n k => exact h.1
  | e b => exact h.1
theorem WAt.up {K : PySem.W.Frag} {H H' : Hp} {a : Addr} {x : Wt} (h : WAt K H a x) (e : Ex H H') : WAt K H' a x := by
  cases x with
  | n k => obtain ⟨h1, dx, h2⟩ := h; exact ⟨h1, dx, e _ _ h2⟩
  | e b => obtain ⟨h1, dx, h2⟩ := h; exact ⟨h1, dx, e _ _ h2⟩
theorem WAt.n' {K : PySem.W.Frag} {H : Hp} {a : Addr} {k : Nat} (h : WAt K H a (.n k)) : k < 16 ∧ ∃ dx, H a = some (.ins (He.ga K "Numbered") dx [("number", nV k)]) := h
theorem WAt.e' {K : PySem.W.Frag} {H : Hp} {a : Addr} {b : Nat} (h : WAt K H a (.e b)) : b < 65536 ∧ ∃ dx, H a = some (.ins (He.ga K "Endless") dx [("bits", nV b)]) := h
section
variable {P : Program} {w : World} {K : PySem.W.Frag} {mg : Str → Option Value} {base : Heap}
theorem Tx.kNN (T : Tx K mg) : PySem.W.kitOne K (.ref (He.ga K "Numbered")) (.ref (He.ga K "Numbered")) = some true := of_decide_eq_true (He.ba T.more).1
theorem Tx.kEN (T : Tx K mg) : PySem.W.kitOne K (.ref (He.ga K "Endless")) (.ref (He.ga K "Numbered")) = some false := of_decide_eq_true (He.ba (He.ba T.more).2).1
theorem Tx.tyN (T : Tx K mg) {H : Hp} {a dx : Addr} {fs : List (Str × V)} (h : H a = some (.ins (He.ga K "Numbered") dx fs)) : TyX K H (.ref a) (.ref (He.ga K "Numbered")) := by
  have h1 := (He.ba (He.ba T.more).2).2
  have h2 := (He.ba h1).1
  have h3 := (He.ba (He.ba h1).2).2
  have h4 := He.ba h3
  obtain ⟨a1, a2⟩ := He.ba (show (He.eqO _ _ && decide _) = true from h2)
  exact .base (.ins h T.c_Numbered (He.eqO_ok a1) (He.eqO_ok h4.1) (of_decide_eq_true h4.2) (of_decide_eq_true a2))
theorem Tx.tyE (T : Tx K mg) {H : Hp} {a dx : Addr} {fs : List (Str × V)} (h : H a = some (.ins (He.ga K "Endless") dx fs)) : TyX K H (.ref a) (.ref (He.ga K "Endless")) := by
  have h1 := (He.ba (He.ba T.more).2).2
  have h2 := (He.ba (He.ba h1).2).1
  have h3 := (He.ba (He.ba h1).2).2
  have h4 := He.ba h3
  obtain ⟨a1, a2⟩ := He.ba (show (He.eqO _ _ && decide _) = true from h2)
  exact .base (.ins h T.c_Endless (He.eqO_ok a1) (He.eqO_ok h4.1) (of_decide_eq_true h4.2) (of_decide_eq_true a2))
/-! ### made -/
def sp_Ninit (K : PySem.W.Frag) : Sp := fun vs H Q _ => ∃ (p dx : Addr) (k : Nat), vs = [.ref p, nV k] ∧ k < 16 ∧ H p = some (.ins (He.ga K "Numbered") dx []) ∧ Q .non (upd H p (.ins (He.ga K "Numbered") dx [("number", nV k)]))
theorem sc_Numbered_init : FnScope ["self", "number"] ["self", "number"] (defScope s_Numbered_init) := ⟨rfl, rfl, rfl, by decide +kernel, rfl, by decide +kernel, by decide +kernel⟩
theorem D_Numbered_init (T : Tx K mg) : Def P w K mg base 2 (He.ma K (He.ga K "Numbered") "__init__") ["self", "number"] (sp_Ninit K) := by
  refine Def.make T (d := d_Numbered_init) 12 rfl rfl rfl sc_Numbered_init (fun _ _ _ _ _ _ us hl => match us, hl with | [_, _], _ => rfl) (fun vs H Q E h => ?_) (fun cdv A outer s H vs Q E hr h => ?_)
  · obtain ⟨p, dx, n, rfl, _⟩ := h
    rfl
  · obtain ⟨p, dx, n, rfl, hn, hp, k⟩ := h
    have nd := sc_Numbered_init.nd
    refine ⟨_, (pss_cons (ps_if (PW.pt (pw_or (pt_not (pt_val (pe_callX (D_is_whole T) (hr.mono (by decide)) rfl T.g_is_whole (pa_cons (pv 1) pa_nil)))) (pw_or1 (pt_not (pt_chain op_le op_le pe_int (pv 1) (pe_gI rfl T.i_MOST_NUMBER)))))) (pss_one ps_never) pss_nil)
    (pss_one (ps_fld (pv 0) (pv 1) rfl))), ?_⟩
    walk_at "go"
    refine ⟨_, rfl, ?_⟩
    walk_at "go"
    refine brF rfl ?_
    walk_at "go"
    refine brT (decide_eq_true (Int.natCast_nonneg _)) ?_
    walk_at "go"
    refine brF ?_ ?_
    · rw [decide_eq_true (show ((n : Int) ≤ 15) by omega)]
      rfl
    walk_at "go"
    exact ⟨p, _, dx, _, rfl, hp, T.c_Numbered, T.na_Numbered_number, (by show 0 < 1000; decide), k⟩
def sp_Einit (K : PySem.W.Frag) : Sp := fun vs H Q _ => ∃ (p dx : Addr) (k : Nat), vs = [.ref p, nV k] ∧ k < 65536 ∧ H p = some (.ins (He.ga K "Endless") dx []) ∧ Q .non (upd H p (.ins (He.ga K "Endless") dx [("bits", nV k)]))
theorem sc_Endless_init : FnScope ["self", "bits"] ["self", "bits"] (defScope s_Endless_init) := ⟨rfl, rfl, rfl, by decide +kernel, rfl, by decide +kernel, by decide +kernel⟩
theorem D_Endless_init (T : Tx K mg) : Def P w K mg base 2 (He.ma K (He.ga K "Endless") "__init__") ["self", "bits"] (sp_Einit K) := by
  refine Def.make T (d := d_Endless_init) 15 rfl rfl rfl sc_Endless_init (fun _ _ _ _ _ _ us hl => match us, hl with | [_, _], _ => rfl) (fun vs H Q E h => ?_) (fun cdv A outer s H vs Q E hr h => ?_)
  · obtain ⟨p, dx, n, rfl, _⟩ := h
    rfl
  · obtain ⟨p, dx, n, rfl, hn, hp, k⟩ := h
    have nd := sc_Endless_init.nd
    refine ⟨_, (pss_cons (ps_if (PW.pt (pw_or (pt_not (pt_val (pe_callX (D_is_whole T) (hr.mono (by decide)) rfl T.g_is_whole (pa_cons (pv 1) pa_nil)))) (pw_or1 (pt_not (pt_chain op_le op_le pe_int (pv 1) (pe_gI rfl T.i_MOST_BITS)))))) (pss_one ps_never) pss_nil)
    (pss_one (ps_fld (pv 0) (pv 1) rfl))), ?_⟩
    walk_at "go"
    refine ⟨_, rfl, ?_⟩
    walk_at "go"
    refine brF rfl ?_
    walk_at "go"
    refine brT (decide_eq_true (Int.natCast_nonneg _)) ?_
    walk_at "go"
    refine brF ?_ ?_
    · rw [decide_eq_true (show ((n : Int) ≤ 65535) by omega)]
      rfl
    walk_at "go"
    exact ⟨p, _, dx, _, rfl, hp, T.c_Endless, T.na_Endless_bits, (by show 0 < 1000; decide), k⟩
theorem made_ex {H1 H3 : Hp} {x dx C : Addr} {fs : List (Str × V)} (hx : H1 x = none) (hd : H1 dx = none) (e : H3 = upd (upd (upd H1 dx (.own x)) x (.ins C dx [])) x (.ins C dx fs)) : Ex H1 H3 ∧ H3 x = some (.ins C dx fs) := by
  subst e
  refine ⟨fun a o ha => ?_, upd_same⟩
  rw [upd_ne (ne_of_none ha hx), upd_ne (ne_of_none ha hx), upd_ne (ne_of_none ha hd)]
  exact ha
theorem mkN {H1 : Hp} {k : Nat} {R : Addr → Hp → Prop} (hk : k < 16) (h : ∀ x H3, H1 x = none → Ex H1 H3 → WAt K H3 x (.n k) → R x H3) :
    ∀ x dx, H1 x = none → H1 dx = none → dx ≠ x → sp_Ninit K [.ref x, nV k] (upd (upd H1 dx (.own x)) x (.ins (He.ga K "Numbered") dx [])) (fun v H2 => v = .non ∧ ∀ H3, H3 = H2 → R x H3) E0 := fun x dx hx hd hne =>
  ⟨x, dx, k, rfl, hk, upd_same, rfl, fun H3 e => let ⟨e1, e2⟩ := made_ex hx hd e; h x H3 hx e1 ⟨hk, dx, e2⟩⟩
theorem mkE {H1 : Hp} {k : Nat} {R : Addr → Hp → Prop} (hk : k < 65536) (h : ∀ x H3, H1 x = none → Ex H1 H3 → WAt K H3 x (.e k) → R x H3) :
    ∀ x dx, H1 x = none → H1 dx = none → dx ≠ x → sp_Einit K [.ref x, nV k] (upd (upd H1 dx (.own x)) x (.ins (He.ga K "Endless") dx [])) (fun v H2 => v = .non ∧ ∀ H3, H3 = H2 → R x H3) E0 := fun x dx hx hd hne =>
  ⟨x, dx, k, rfl, hk, upd_same, rfl, fun H3 e => let ⟨e1, e2⟩ := made_ex hx hd e; h x H3 hx e1 ⟨hk, dx, e2⟩⟩
/-! ### plus -/
def sp_Eplus (K : PySem.W.Frag) : Sp := fun vs H Q _ => ∃ (a b : Addr) (n : Nat) (y : Wt), vs = [.ref a, .ref b] ∧ WAt K H a (.e n) ∧ WAt K H b y ∧ ∀ p H2, Ex H H2 → WAt K H2 p ((Wt.e n).plus y) → Q (.ref p) H2
theorem sc_Endless_plus : FnScope ["self", "other"] ["self", "other"] (defScope s_Endless_plus) := ⟨rfl, rfl, rfl, by decide +kernel, rfl, by decide +kernel, by decide +kernel⟩
theorem D_Endless_plus (T : Tx K mg) : Def P w K mg base 4 (He.ma K (He.ga K "Endless") "plus") ["self", "other"] (sp_Eplus K) := by
  refine Def.make T (d := d_Endless_plus) 16 rfl rfl rfl sc_Endless_plus (fun _ _ _ _ _ _ us hl => match us, hl with | [_, _], _ => rfl) (fun vs H Q E h => ?_) (fun cdv A outer s H vs Q E hr h => ?_)
  · obtain ⟨a, b, n, y, rfl, _⟩ := h
    rfl
  · obtain ⟨a, b, n, y, rfl, ha, hb, k⟩ := h
    have nd := sc_Endless_plus.nd
    refine ⟨_, (pss_cons (ps_if (pt_val (pe_callB call_isi (by rfl) T.f_isinstance (by decide +kernel) (pa_cons (pv 1) (pa_cons (pe_glob (v := .ref (He.ga K "Numbered")) rfl T.g_Numbered rfl) pa_nil)))) (pss_one (ps_ret (PE.nm (pe_makeX (D_Endless_init T) (hr.mono (by decide)) T.k_Endless rfl T.g_Endless (pa_cons (pe_callX (D_set_turned T) (hr.mono (by decide)) rfl T.g_set_turned (pa_cons (pe_fld (pv 0) rfl) (pa_cons (pe_fld (pv 1) rfl) pa_nil))) pa_nil))))) pss_nil)
    (pss_one (ps_ret (PE.nm (pe_makeX (D_Endless_init T) (hr.mono (by decide)) T.k_Endless rfl T.g_Endless (pa_cons pe_int pa_nil)))))), ?_⟩
    walk_at "go"
    obtain ⟨hn, dx, h1⟩ := ha.e'
    cases y with
    | n m =>
      obtain ⟨hm, dy, h2⟩ := hb.n'
      refine ⟨_, _, _, _, true, rfl, .own _, T.tyN h2, T.kNN, ?_⟩
      walk_at "go"
      refine brT rfl ?_
      walk_at "go"
      refine ⟨a, _, dx, _, _, rfl, h1, T.c_Endless, T.na_Endless_bits, lk1, ?_⟩
      walk_at "go"
      refine ⟨b, _, dy, _, _, rfl, h2, T.c_Numbered, T.na_Numbered_number, lk1, ?_⟩
      walk_at "go"
      refine ⟨n, m, rfl, hm, fun H1 e1 => ?_⟩
      walk_at "go"
      exact mkE (turn_lt hm) fun x H3 hx e3 hw => k x H3 (e1.trans e3) hw
    | e m =>
      obtain ⟨hm, dy, h2⟩ := hb.e'
      refine ⟨_, _, _, _, false, rfl, .own _, T.tyE h2, T.kEN, ?_⟩
      walk_at "go"
      refine brF rfl ?_
      walk_at "go"
      exact mkE (k := 0) (by decide) fun x H3 hx e3 hw => k x H3 e3 hw
def sp_Nplus (K : PySem.W.Frag) : Sp := fun vs H Q _ => ∃ (a b : Addr) (n : Nat) (y : Wt), vs = [.ref a, .ref b] ∧ WAt K H a (.n n) ∧ WAt K H b y ∧ ∀ p H2, Ex H H2 → WAt K H2 p ((Wt.n n).plus y) → Q (.ref p) H2
theorem sc_Numbered_plus : FnScope ["self", "other"] ["self", "other"] (defScope s_Numbered_plus) := ⟨rfl, rfl, rfl, by decide +kernel, rfl, by decide +kernel, by decide +kernel⟩
theorem D_Numbered_plus (T : Tx K mg) : Def P w K mg base 5 (He.ma K (He.ga K "Numbered") "plus") ["self", "other"] (sp_Nplus K) := by
  refine Def.make T (d := d_Numbered_plus) 13 rfl rfl rfl sc_Numbered_plus (fun _ _ _ _ _ _ us hl => match us, hl with | [_, _], _ => rfl) (fun vs H Q E h => ?_) (fun cdv A outer s H vs Q E hr h => ?_)
  · obtain ⟨a, b, n, y, rfl, _⟩ := h
    rfl
  · obtain ⟨a, b, n, y, rfl, ha, hb, k⟩ := h
    have nd := sc_Numbered_plus.nd
    refine ⟨_, (pss_cons (ps_if (pt_val (pe_callB call_isi (by rfl) T.f_isinstance (by decide +kernel) (pa_cons (pv 1) (pa_cons (pe_glob (v := .ref (He.ga K "Numbered")) rfl T.g_Numbered rfl) pa_nil)))) (pss_one (ps_ret (PE.nm (pe_makeX (D_Numbered_init T) (hr.mono (by decide)) T.k_Numbered rfl T.g_Numbered (pa_cons (pe_op op_xor (pe_fld (pv 0) rfl) (pe_fld (pv 1) rfl)) pa_nil))))) pss_nil)
    (pss_one (ps_ret (pe_methX (D_Endless_plus T) (hr.mono (by decide)) T.c_Endless T.m_Endless_plus (pv 1) (pa_cons (pv 0) pa_nil))))), ?_⟩
    walk_at "go"
    obtain ⟨hn, dx, h1⟩ := ha.n'
    cases y with
    | n m =>
      obtain ⟨hm, dy, h2⟩ := hb.n'
      refine ⟨_, _, _, _, true, rfl, .own _, T.tyN h2, T.kNN, ?_⟩
      walk_at "go"
      refine brT rfl ?_
      walk_at "go"
      refine ⟨a, _, dx, _, _, rfl, h1, T.c_Numbered, T.na_Numbered_number, lk1, ?_⟩
      walk_at "go"
      refine ⟨b, _, dy, _, _, rfl, h2, T.c_Numbered, T.na_Numbered_number, lk1, ?_⟩
      walk_at "go"
      rw [bxor]
      exact mkN (Nat.xor_lt_two_pow (n := 4) hn hm) fun x H3 hx e3 hw => k x H3 e3 hw
    | e m =>
      obtain ⟨hm, dy, h2⟩ := hb.e'
      refine ⟨_, _, _, _, false, rfl, .own _, T.tyE h2, T.kEN, ?_⟩
      walk_at "go"
      refine brF rfl ?_
      walk_at "go"
      refine ⟨b, dy, _, rfl, h2, rfl, ?_⟩
      walk_at "go"
      exact ⟨b, a, m, .n n, rfl, hb, ha, k⟩
/-! ### outcome -/
def sp_Nout (K : PySem.W.Frag) : Sp := fun vs H Q _ => ∃ (a : Addr) (n : Nat), vs = [.ref a] ∧ WAt K H a (.n n) ∧ Q (.str (oc (.n n))) H
theorem sc_Numbered_outcome : FnScope ["self"] ["self"] (defScope s_Numbered_outcome) := ⟨rfl, rfl, rfl, by decide +kernel, rfl, by decide +kernel, by decide +kernel⟩
theorem D_Numbered_outcome (T : Tx K mg) : Def P w K mg base 1 (He.ma K (He.ga K "Numbered") "outcome") ["self"] (sp_Nout K) := by
  refine Def.make T (d := d_Numbered_outcome) 14 rfl rfl rfl sc_Numbered_outcome (fun _ _ _ _ _ _ us hl => match us, hl with | [_], _ => rfl) (fun vs H Q E h => ?_) (fun cdv A outer s H vs Q E hr h => ?_)
  · obtain ⟨a, n, rfl, _⟩ := h
    rfl
  · obtain ⟨a, n, rfl, ha, k⟩ := h
    have nd := sc_Numbered_outcome.nd
    obtain ⟨hn, dx, h1⟩ := ha.n'
    refine ⟨_, (pss_cons (ps_if (pt_cmpR op_eq (pe_fld (pv 0) rfl) pe_int (nomark _)) (pss_one (ps_ret pe_str)) pss_nil)
    (pss_one (ps_ret pe_str))), ?_⟩
    walk_at "go"
    refine ⟨a, _, dx, _, _, rfl, h1, T.c_Numbered, T.na_Numbered_number, lk1, ?_⟩
    walk_at "go"
    refine br (fun z => ?_) (fun z => ?_)
    · walk_at "go"
      have e : n = 0 := by
        have := V.int.inj (of_decide_eq_true z)
        omega
      have q : oc (.n n) = "lost" := if_pos e
      rw [← q]
      exact k
    · walk_at "go"
      have e : ¬ n = 0 := fun q => by
        subst q
        simp at z
      have q : oc (.n n) = "won" := if_neg e
      rw [← q]
      exact k
def sp_Eout (K : PySem.W.Frag) : Sp := fun vs H Q _ => ∃ (a : Addr) (n : Nat), vs = [.ref a] ∧ WAt K H a (.e n) ∧ Q (.str (oc (.e n))) H
theorem sc_Endless_outcome : FnScope ["self"] ["self"] (defScope s_Endless_outcome) := ⟨rfl, rfl, rfl, by decide +kernel, rfl, by decide +kernel, by decide +kernel⟩
theorem D_Endless_outcome (T : Tx K mg) : Def P w K mg base 1 (He.ma K (He.ga K "Endless") "outcome") ["self"] (sp_Eout K) := by
  refine Def.make T (d := d_Endless_outcome) 17 rfl rfl rfl sc_Endless_outcome (fun _ _ _ _ _ _ us hl => match us, hl with | [_], _ => rfl) (fun vs H Q E h => ?_) (fun cdv A outer s H vs Q E hr h => ?_)
  · obtain ⟨a, n, rfl, _⟩ := h
    rfl
  · obtain ⟨a, n, rfl, ha, k⟩ := h
    have nd := sc_Endless_outcome.nd
    obtain ⟨hn, dx, h1⟩ := ha.e'
    have hb : n.testBit 0 = decide (V.int (Builtin.bitAnd (n : Int) 1) = V.int 1) := by
      rw [bitAnd_m1, Nat.testBit_eq_decide_div_mod_eq]
      by_cases z : n / 2 ^ 0 % 2 = 1
      · rw [decide_eq_true z]
        refine (decide_eq_true (congrArg V.int ?_)).symm
        omega
      · rw [decide_eq_false z]
        refine (decide_eq_false fun q => z ?_).symm
        have := V.int.inj q
        omega
    refine ⟨_, (pss_cons (ps_if (pt_cmpR op_eq (pe_op op_and (pe_fld (pv 0) rfl) pe_int) pe_int (nomark _)) (pss_one (ps_ret pe_str)) pss_nil)
    (pss_one (ps_ret pe_str))), ?_⟩
    walk_at "go"
    refine ⟨a, _, dx, _, _, rfl, h1, T.c_Endless, T.na_Endless_bits, lk1, ?_⟩
    walk_at "go"
    rw [← hb]
    refine br (fun z => ?_) (fun z => ?_)
    · walk_at "go"
      have q : oc (.e n) = "won" := if_pos z
      rw [← q]
      exact k
    · walk_at "go"
      have q : oc (.e n) = "drawn" := if_neg (by rw [z]; decide)
      rw [← q]
      exact k
/-! ### sum_of -/
def sp_sum_of (K : PySem.W.Frag) : Sp := fun vs H Q _ => ∃ (a : Addr) (ts : List Addr) (ws : List Wt), vs = [.ref a] ∧ H a = some (.lst (ts.map V.ref)) ∧ Paired (WAt K H) ts ws ∧ ∀ p H2, Ex H H2 → WAt K H2 p (sumW ws) → Q (.ref p) H2
theorem sc_sum_of : FnScope ["worths", "total", "worth"] ["worths"] (defScope s_sum_of) := ⟨rfl, rfl, rfl, by decide +kernel, rfl, by decide +kernel, by decide +kernel⟩
theorem D_sum_of (T : Tx K mg) : Def P w K mg base 6 (He.ga K "sum_of") ["worths"] (sp_sum_of K) := by
  refine Def.make T (d := d_sum_of) 18 rfl rfl rfl sc_sum_of (fun _ _ _ _ _ _ us hl => match us, hl with | [_], _ => rfl) (fun vs H Q E h => ?_) (fun cdv A outer s H vs Q E hr h => ?_)
  · obtain ⟨a, ts, ws, rfl, _⟩ := h
    rfl
  · obtain ⟨a, ts, ws, rfl, ha, hp, k⟩ := h
    have nd := sc_sum_of.nd
    refine ⟨_, (pss_cons (ps_set (i := 1) nd rfl (Or.inl rfl) (PE.nm (pe_makeX (D_Numbered_init T) (hr.mono (by decide)) T.k_Numbered rfl T.g_Numbered (pa_cons pe_int pa_nil))))
    (pss_cons (ps_for PassesOwn.never rfl (pi_list (pv 0)) (pg_name (i := 2) nd rfl (Or.inl rfl))
    (pss_one (ps_set (i := 1) nd rfl (Or.inl rfl) (PE.alt (pe_methX (D_Numbered_plus T) (hr.mono (by decide)) T.c_Numbered T.m_Numbered_plus (pv 1) (pa_cons (pv 2) pa_nil)) (pe_methX (D_Endless_plus T) (hr.mono (by decide)) T.c_Endless T.m_Endless_plus (pv 1) (pa_cons (pv 2) pa_nil))))))
    (pss_one (ps_ret (pv 1))))), ?_⟩
    walk_at "go"
    refine mkN (k := 0) (by decide) fun x H1 hx e1 hw => ?_
    walk_at "go"
    refine ⟨a, rfl, ⟨_, SqL.of (e1 _ _ ha)⟩, for_list (K := K) (a := a) (xs := ts.map V.ref) (fun i σ H2 => Ex H H2 ∧ ∃ q v, σ = [some (.ref a), some (.ref q), v] ∧ WAt K H2 q (sumW (ws.take i))) ⟨e1, x, none, rfl, hw⟩ (fun i σ H2 _ ⟨e, _⟩ => SqL.of (e _ _ ha)) ?_ ?_⟩
    · rintro i y σ H2 hi ⟨e2, q, v, rfl, hq⟩
      obtain ⟨t, ht, rfl⟩ := map_at hi
      obtain ⟨z, hz, hzt⟩ := Paired.at_ hp ht
      walk_at "go"
      have fin : ∀ p H3, Ex H2 H3 → WAt K H3 p ((sumW (ws.take i)).plus z) → Ex H H3 ∧ ∃ q v, ([some (.ref a), some (.ref p), some (.ref t)] : L2.St) = [some (.ref a), some (.ref q), v] ∧ WAt K H3 q (sumW (ws.take (i + 1))) := fun p H3 e3 h3 => ⟨e2.trans e3, p, _, rfl, by rw [tk hz, sumW_snoc]; exact h3⟩
      cases hs : sumW (ws.take i) with
      | n m =>
        rw [hs] at hq fin
        obtain ⟨hm, dq, hq1⟩ := hq.n'
        refine w_altL ?_
        walk_at "go"
        refine ⟨q, dq, _, rfl, hq1, rfl, ?_⟩
        walk_at "go"
        exact ⟨q, t, m, z, rfl, hq, hzt.up e2, fin⟩
      | e m =>
        rw [hs] at hq fin
        obtain ⟨hm, dq, hq1⟩ := hq.e'
        refine w_altR ?_
        walk_at "go"
        refine ⟨q, dq, _, rfl, hq1, rfl, ?_⟩
        walk_at "go"
        exact ⟨q, t, m, z, rfl, hq, hzt.up e2, fin⟩
    · rintro σ H2 ⟨e2, q, v, rfl, hq⟩
      walk_at "go"
      have hl : ws.take (ts.map V.ref).length = ws := List.take_of_length_le (by rw [List.length_map, Paired.length hp]; exact Nat.le_refl _)
      rw [hl] at hq
      exact k q H2 e2 hq
end
end K96

set_option Elab.async false
set_option linter.all false
set_option maxRecDepth 100000
set_option maxHeartbeats 4000000
/-! K96E: dicts with names as keys; leads_back, gets_it. -/
namespace K96
open PySem PySem.Spec PyProof.Rows L2
open Evl (Ex)
open K96M (Gr)
local macro_rules | `(tactic| walk_at "go") => `(tactic| repeat (first
  | with_reducible refine w_seq ?_
  | with_reducible refine w_asg ?_
  | with_reducible refine w_name ?_
  | with_reducible refine w_var rfl ?_
  | with_reducible refine w_c ?_
  | with_reducible refine w_op ?_
  | with_reducible refine w_I0 ?_
  | with_reducible refine w_drop ?_
  | with_reducible refine w_ret ?_
  | with_reducible refine w_if ?_
  | with_reducible refine w_next ?_
  | with_reducible refine w_test ?_
  | with_reducible refine w_B ?_
  | with_reducible refine w_bl ?_
  | with_reducible refine w_not ?_
  | with_reducible refine w_and ?_
  | with_reducible refine w_or ?_
  | with_reducible refine w_andV ?_
  | with_reducible refine w_orV ?_
  | with_reducible refine w_notV ?_
  | with_reducible refine w_cons ?_
  | with_reducible refine w_nil ?_
  | with_reducible refine w_cb ?_
  | with_reducible refine w_call ?_
  | with_reducible refine w_isN ?_
  | with_reducible refine w_notN ?_
  | with_reducible refine w_chain ?_
  | with_reducible refine w_sl ?_
  | with_reducible refine w_nopart ?_
  | with_reducible refine w_tupT ?_
  | with_reducible refine w_lstT ?_
  | with_reducible refine w_eq rfl ?_
  | with_reducible refine w_ne rfl ?_
  | with_reducible refine w_for ?_
  | with_reducible refine w_iL ?_
  | with_reducible refine w_iT ?_
  | with_reducible refine w_iR1 ?_
  | with_reducible refine w_iR2 ?_
  | with_reducible refine w_iE ?_
  | with_reducible refine w_iS ?_
  | with_reducible refine w_lc ?_
  | with_reducible refine w_nm ?_
  | with_reducible refine w_din ?_
  | with_reducible refine w_dnotin ?_
  | with_reducible refine w_dput ?_
  | with_reducible refine w_dget1 ?_
  | with_reducible refine w_dget2 ?_
  | with_reducible refine w_bm ?_
  | with_reducible refine w_bm0 ?_
  | with_reducible refine w_sfld ?_
  | with_reducible refine w_make ?_
  | with_reducible refine w_part ?_
  | with_reducible refine w_aug rfl ?_
  | with_reducible refine w_ip ?_
  | with_reducible refine w_yes ?_
  | with_reducible refine w_gcs ?_
  | with_reducible refine w_gnil ?_
  | with_reducible refine w_dget ?_
  | with_reducible refine w_fld ?_
  | with_reducible refine w_meth ?_))
local macro_rules | `(tactic| walk_at "ex") => `(tactic| repeat (first | assumption | exact Ex.refl _ | refine Ex.trans ?_ (by assumption)))
/-! ### dicts whose keys are names of a ground -/
def DR (H : Hp) (d : Addr) (ns : List Str) (R : Str → Option V → Prop) : Prop := ∃ kvs : List (Key × V), H d = some (.dK kvs) ∧ (kvs.map (·.1)).Nodup ∧ (∀ q ∈ kvs, ∃ x ∈ ns, q.1 = Sum.inr x) ∧ ∀ x, R x (valV kvs (Sum.inr x))
theorem nodup_le {A : Type} [DecidableEq A] : ∀ (bs l : List A), bs.Nodup → (∀ b ∈ bs, b ∈ l) → bs.length ≤ l.length
  | [], l, _, _ => Nat.zero_le _
  | b :: r, l, hd, hm => by
    obtain ⟨d1, d2⟩ := List.nodup_cons.mp hd
    have hb : b ∈ l := hm b (List.mem_cons_self ..)
    have := nodup_le r (l.erase b) d2 fun c hc => (List.mem_erase_of_ne (fun e => d1 (by rw [← e]; exact hc))).mpr (hm c (List.mem_cons_of_mem _ hc))
    rw [List.length_erase_of_mem hb] at this
    have hp : 0 < l.length := List.length_pos_of_mem hb
    rw [List.length_cons]
    omega
theorem dr_len {kvs : List (Key × V)} {ns : List Str} (h1 : (kvs.map (·.1)).Nodup) (h2 : ∀ q ∈ kvs, ∃ x ∈ ns, q.1 = Sum.inr x) : kvs.length ≤ ns.length := by
  have := nodup_le (kvs.map (·.1)) (ns.map fun x => (Sum.inr x : Key)) h1 fun b hb => by
    obtain ⟨q, hq, rfl⟩ := List.mem_map.mp hb
    obtain ⟨x, hx, e⟩ := h2 q hq
    exact List.mem_map.mpr ⟨x, hx, e.symm⟩
  rw [List.length_map, List.length_map] at this
  exact this
theorem putK_keys {kvs : List (Key × V)} {k : Key} {v : V} (h : (kvs.any fun kv => decide (kv.1 = k)) = true) : (putK kvs k v).map (·.1) = kvs.map (·.1) := by
  unfold putK
  rw [if_pos h, List.map_map]
  refine List.map_congr_left fun kv _ => ?_
  show (if kv.1 = k then (kv.1, v) else kv).1 = kv.1
  split <;> rfl
theorem putK_nd {kvs : List (Key × V)} {k : Key} {v : V} (h : (kvs.map (·.1)).Nodup) : ((putK kvs k v).map (·.1)).Nodup := by
  cases e : (kvs.any fun kv => decide (kv.1 = k)) with
  | true => rw [putK_keys e]; exact h
  | false =>
    refine nd_putK v h ?_
    rw [valV_any] at e
    cases q : valV kvs k with
    | none => rfl
    | some z => rw [q] at e; cases e
theorem putK_in {kvs : List (Key × V)} {x : Str} {v : V} {ns : List Str} (hx : x ∈ ns) (h : ∀ q ∈ kvs, ∃ x ∈ ns, q.1 = Sum.inr x) : ∀ q ∈ putK kvs (Sum.inr x) v, ∃ x ∈ ns, q.1 = Sum.inr x := fun q hq => by
  unfold putK at hq
  split at hq
  · obtain ⟨kv, hkv, rfl⟩ := List.mem_map.mp hq
    obtain ⟨y, hy, e⟩ := h kv hkv
    refine ⟨y, hy, ?_⟩
    show (if kv.1 = Sum.inr x then (kv.1, v) else kv).1 = _
    split <;> exact e
  · rcases List.mem_append.mp hq with hq | hq
    · exact h q hq
    · rw [List.mem_singleton.mp hq]
      exact ⟨x, hx, rfl⟩
theorem DR.mono {H H' : Hp} {d : Addr} {ns : List Str} {R R' : Str → Option V → Prop} (h : DR H d ns R) (e : H' d = H d) (hR : ∀ x o, R x o → R' x o) : DR H' d ns R' := by
  obtain ⟨kvs, h1, h2, h3, h4⟩ := h
  exact ⟨kvs, e.trans h1, h2, h3, fun x => hR x _ (h4 x)⟩
theorem DR.up {H H' : Hp} {d : Addr} {ns : List Str} {R : Str → Option V → Prop} (h : DR H d ns R) (e : Ex H H') : DR H' d ns R := by
  obtain ⟨kvs, h1, h2, h3, h4⟩ := h
  exact ⟨kvs, e _ _ h1, h2, h3, h4⟩
theorem DR.upR {H H' : Hp} {d : Addr} {ns : List Str} {R R' : Str → Option V → Prop} (h : DR H d ns R) (e : Ex H H') (hR : ∀ x o, R x o → R' x o) : DR H' d ns R' := by
  obtain ⟨kvs, h1, h2, h3, h4⟩ := h
  exact ⟨kvs, e _ _ h1, h2, h3, fun x => hR x _ (h4 x)⟩
theorem DR.get {H : Hp} {d : Addr} {ns : List Str} {R : Str → Option V → Prop} (h : DR H d ns R) (x : Str) : ∃ o, DGet H d (.str x) o ∧ R x o := by
  obtain ⟨kvs, h1, h2, h3, h4⟩ := h
  exact ⟨_, DGet.k (k := Sum.inr x) h1, h4 x⟩
theorem DR.isD {H : Hp} {d : Addr} {ns : List Str} {R : Str → Option V → Prop} (h : DR H d ns R) : IsD H d := by
  obtain ⟨kvs, h1, _⟩ := h
  exact .inl ⟨kvs, .inl h1⟩
theorem DR.new {H : Hp} {d : Addr} {ns : List Str} {R : Str → Option V → Prop} (h : H d = some (.dK [])) (hR : ∀ x, R x none) : DR H d ns R := ⟨[], h, List.nodup_nil, fun q hq => (by cases hq), hR⟩
/-- d[x] = v -/
theorem DR.put {H : Hp} {d : Addr} {ns : List Str} {R R' : Str → Option V → Prop} {x : Str} {v : V} (h : DR H d ns R) (hx : x ∈ ns) (hl : ns.length ≤ 1000) (hv : R' x (some v)) (ho : ∀ y o, y ≠ x → R y o → R' y o) :
    ∃ H', DPut H d (.str x) v H' ∧ DR H' d ns R' ∧ (∃ o, H' = upd H d o) := by
  obtain ⟨kvs, h1, h2, h3, h4⟩ := h
  have hlen := dr_len h2 h3
  refine ⟨_, DPut.k (k := Sum.inr x) h1 (szl (by omega)), ⟨_, upd_same, putK_nd h2, putK_in hx h3, fun y => ?_⟩, _, rfl⟩
  rw [valV_put]
  by_cases e : y = x
  · subst e
    rw [if_pos rfl]
    exact hv
  · rw [if_neg (fun q => e (Sum.inr.inj q))]
    exact ho y _ e (h4 y)
/-- numbers by names -/
abbrev DN (H : Hp) (d : Addr) (ns : List Str) (f : Str → Option Nat) : Prop := DR H d ns fun x o => o = (f x).map nV
section
variable {P : Program} {w : World} {K : PySem.W.Frag} {mg : Str → Option Value} {base : Heap}
theorem any_take {A : Type} {xs : List A} {p : A → Bool} {i : Nat} {x : A} (h : xs[i]? = some x) (ha : (xs.take i).any p = false) : (xs.take (i + 1)).any p = p x := by
  rw [tk h, List.any_append, ha, Bool.false_or, List.any_cons, List.any_nil, Bool.or_false]
theorem any_of {A : Type} {xs : List A} {p : A → Bool} {x : A} (h : x ∈ xs) (hp : p x = true) : xs.any p = true := List.any_eq_true.mpr ⟨x, h, hp⟩
def sp_leads_back (K : PySem.W.Frag) : Sp := fun vs H Q _ => ∃ (g d : Addr) (G : G0) (f : Str → Option Nat) (a : Str) (n : Nat), vs = [.ref g, .ref d, .str a, nV n] ∧ GAt K H g G ∧ DN H d G.ns f ∧ a ∈ G.ns ∧ ∀ H2, Ex H H2 → Q (.bl ((G.rd a).any fun c => f c == some n)) H2
theorem sc_leads_back : FnScope ["ground", "numbers", "place", "number", "other"] ["ground", "numbers", "place", "number"] (defScope s_leads_back) := ⟨rfl, rfl, rfl, by decide +kernel, rfl, by decide +kernel, by decide +kernel⟩
theorem D_leads_back (T : Tx K mg) : Def P w K mg base 2 (He.ga K "leads_back") ["ground", "numbers", "place", "number"] (sp_leads_back K) := by
  refine Def.make T (d := d_leads_back) 19 rfl rfl rfl sc_leads_back (fun _ _ _ _ _ _ us hl => match us, hl with | [_, _, _, _], _ => rfl) (fun vs H Q E h => ?_) (fun cdv A outer s H vs Q E hr h => ?_)
  · obtain ⟨g, d, G, f, a, n, rfl, _⟩ := h
    rfl
  · obtain ⟨g, d, G, f, a, n, rfl, hG, hd, ha, k⟩ := h
    have nd := sc_leads_back.nd
    have hu := hu_of hr
    have hG' := hG
    obtain ⟨dx, _, _, h1, _⟩ := hG'
    refine ⟨_, (pss_cons (ps_for PassesOwn.never rfl (pi_list (pe_methX (D_Ground_roads_from T) (hr.mono (by decide)) T.c_Ground T.m_Ground_roads_from (pv 0) (pa_cons (pv 2) pa_nil))) (pg_name (i := 4) nd rfl (Or.inl rfl))
    (pss_one (ps_if (pt_cmpR op_eq (pe_dget1 hu (pv 1) (pv 4) ⟨by rfl, by rfl, by rfl, by rfl⟩) (pv 3) (nomark _)) (pss_one (ps_ret pe_bl)) pss_nil)))
    (pss_one (ps_ret pe_bl))), ?_⟩
    walk_at "go"
    refine ⟨g, dx, _, rfl, h1, rfl, ?_⟩
    walk_at "go"
    refine ⟨g, G, a, rfl, hG, ha, fun p H1 hp e1 hP => ?_⟩
    refine ⟨p, rfl, ⟨_, SqL.of hP⟩, for_list (K := K) (a := p) (xs := (G.rd a).map sV) (fun i σ H2 => H2 = H1 ∧ ((G.rd a).take i).any (fun c => f c == some n) = false ∧ ∃ v, σ = [some (.ref g), some (.ref d), some (.str a), some (nV n), v]) ⟨rfl, rfl, none, rfl⟩ (fun i σ H2 _ ⟨e, _⟩ => by rw [e]; exact SqL.of hP) ?_ ?_⟩
    · rintro i y σ H2 hi ⟨rfl, hno, v, rfl⟩
      obtain ⟨c, hc, rfl⟩ := map_at hi
      obtain ⟨o, ho, ro⟩ := (hd.up e1).get c
      walk_at "go"
      refine ⟨d, rfl, (hd.up e1).isD, ?_⟩
      walk_at "go"
      refine ⟨o, ho, ?_⟩
      have hsc : scal (o.getD .non) (nV n) = true := by
        rw [ro]
        cases f c <;> rfl
      walk_at "go"
      refine w_eq hsc ?_
      walk_at "go"
      have hb : decide (o.getD .non = nV n) = (f c == some n) := by
        rw [ro]
        cases f c with
        | none => rfl
        | some m =>
          by_cases z : m = n
          · subst z; simp
          · have z1 : ¬ (nV m = nV n) := fun q => z (by have := V.int.inj q; omega)
            rw [show ((Option.map nV (some m)).getD V.non) = nV m from rfl, decide_eq_false z1]
            exact (beq_eq_false_iff_ne.mpr fun q => z (Option.some.inj q)).symm
      rw [hb]
      refine br (fun z => ?_) (fun z => ?_)
      · walk_at "go"
        have := any_of (p := fun c => f c == some n) (List.mem_of_getElem? hc) z
        rw [← this]
        exact k _ e1
      · walk_at "go"
        refine ⟨rfl, ?_, _, rfl⟩
        rw [any_take hc hno]
        exact z
    · rintro σ H2 ⟨rfl, hno, v, rfl⟩
      walk_at "go"
      rw [List.length_map, List.take_length] at hno
      rw [← hno]
      exact k _ e1
def sp_gets_it (K : PySem.W.Frag) : Sp := fun vs H Q _ => ∃ (g d : Addr) (G : G0) (f : Str → Option Nat) (a : Str) (n : Nat), vs = [.ref g, .ref d, .str a, nV n] ∧ GAt K H g G ∧ GOk G ∧ DN H d G.ns f ∧ a ∈ G.ns ∧ n ≤ 1000 ∧ ∀ H2, Ex H H2 → Q (.bl (K96M.gets G f a n)) H2
theorem sc_gets_it : FnScope ["ground", "numbers", "place", "number", "roads", "other", "known", "lesser"] ["ground", "numbers", "place", "number"] (defScope s_gets_it) := ⟨rfl, rfl, rfl, by decide +kernel, rfl, by decide +kernel, by decide +kernel⟩
theorem D_gets_it (T : Tx K mg) : Def P w K mg base 3 (He.ga K "gets_it") ["ground", "numbers", "place", "number"] (sp_gets_it K) := by
  refine Def.make T (d := d_gets_it) 20 rfl rfl rfl sc_gets_it (fun _ _ _ _ _ _ us hl => match us, hl with | [_, _, _, _], _ => rfl) (fun vs H Q E h => ?_) (fun cdv A outer s H vs Q E hr h => ?_)
  · obtain ⟨g, d, G, f, a, n, rfl, _⟩ := h
    rfl
  · obtain ⟨g, d, G, f, a, n, rfl, hG, gok, hd, ha, hn, k⟩ := h
    have nd := sc_gets_it.nd
    have hu := hu_of hr
    have hG' := hG
    obtain ⟨dx, _, _, h1, _⟩ := hG'
    have hfew := gok.few a ha
    refine ⟨_, (pss_cons (ps_set (i := 4) nd rfl (Or.inl rfl) (pe_methX (D_Ground_roads_from T) (hr.mono (by decide)) T.c_Ground T.m_Ground_roads_from (pv 0) (pa_cons (pv 2) pa_nil)))
    (pss_cons (ps_setLc (i := 6) (own := [("other", 5)]) rfl nd rfl rfl (sw_true rfl rfl rfl (by decide +kernel)) (pi_list (pv 4)) (blkOk_by (N := ["ground", "numbers", "place", "number", "roads", "other", "known", "lesser"]) (sc := defScope s_gets_it) (by decide +kernel)) (fun _ _ _ _ _ => (pg_name (i := 5) nd rfl (Or.inl rfl))) (fun _ _ _ _ _ => (pts_one (pt_cmp (pc_din hu (pv 5) (pv 1))))) (fun _ _ _ _ _ => (pe_dget hu (pv 1) (pv 5) (fun _ _ => rfl))))
    (pss_cons (ps_for PassesOwn.never rfl (pi_range1 rfl T.f_range (pa_cons (pv 3) pa_nil)) (pg_name (i := 7) nd rfl (Or.inl rfl))
    (pss_one (ps_if (pt_cmpR op_notIn_seq (pv 7) (pv 6) rfl) (pss_one (ps_ret pe_bl)) pss_nil)))
    (pss_cons (ps_if (pt_cmpR op_in_seq (pv 3) (pv 6) rfl) (pss_one (ps_ret pe_bl)) pss_nil)
    (pss_cons (ps_for PassesOwn.never rfl (pi_list (pv 4)) (pg_name (i := 5) nd rfl (Or.inl rfl))
    (pss_one (ps_if (PW.pt (pw_and (pt_cmp (pc_dnotin hu (pv 5) (pv 1))) (pw_and1 (pt_not (pt_val (pe_callX (D_leads_back T) (hr.mono (by decide)) rfl T.g_leads_back (pa_cons (pv 0) (pa_cons (pv 1) (pa_cons (pv 5) (pa_cons (pv 3) pa_nil)))))))))) (pss_one (ps_ret pe_bl)) pss_nil)))
    (pss_one (ps_ret pe_bl))))))), ?_⟩
    walk_at "go"
    refine ⟨g, dx, _, rfl, h1, rfl, ?_⟩
    walk_at "go"
    refine ⟨g, G, a, rfl, hG, ha, fun p H1 hp e1 hP => ?_⟩
    walk_at "go"
    refine ⟨p, rfl, ⟨_, SqL.of hP⟩, lc_L (K := K) (SqL.of hP) (fun j ys _ => ys = (((G.rd a).take j).filterMap f).map nV) (fun _ _ _ _ _ h => h) rfl (by rw [List.length_map]; omega) ?_ ?_⟩
    · rintro j y ys H6 hj e6 rfl N M hN hM
      obtain ⟨c, hc, rfl⟩ := map_at hj
      obtain ⟨o, ho, ro⟩ := (hd.up (e1.trans e6)).get c
      have e3 : ((G.rd a).take (j + 1)).filterMap f = ((G.rd a).take j).filterMap f ++ ([c].filterMap f) := by rw [tk hc, List.filterMap_append]
      walk_at "go"
      refine ⟨rfl, ?_⟩
      walk_at "go"
      refine ⟨d, o, rfl, ho, ?_⟩
      walk_at "go"
      cases hf : f c with
      | none =>
        rw [ro, hf]
        refine brF rfl ?_
        refine hM _ (Ex.refl _) ?_
        rw [e3, List.filterMap_cons, hf]
        simp
      | some m =>
        rw [hf] at ro
        rw [ro] at ho ⊢
        refine brT rfl ?_
        walk_at "go"
        refine ⟨d, _, rfl, ho, ?_⟩
        refine hN _ _ (Ex.refl _) ?_
        rw [e3, List.filterMap_cons, hf, List.map_append]
        rfl
    · rintro D ys H2 hD e2 hD2 hyl rfl
      rw [List.length_map, List.take_length] at hD2
      have e12 := e1.trans e2
      have hmem : ∀ l, l ∈ (G.rd a).filterMap f ↔ ∃ b ∈ G.rd a, f b = some l := fun l => List.mem_filterMap
      walk_at "go"
      refine ⟨n, rfl, by omega, by omega, for_range (lo := 0) (n := ((n : Nat) : Int).toNat) (fun i σ H3 => H3 = H2 ∧ (∀ l, l < i → l ∈ (G.rd a).filterMap f) ∧ ∃ v, σ = [some (.ref g), some (.ref d), some (.str a), some (nV n), some (.ref p), none, some (.ref D), v]) ⟨rfl, fun l hl => absurd hl (Nat.not_lt_zero _), none, rfl⟩ ?_ ?_⟩
      · rintro i σ H3 hi ⟨rfl, hall, v, rfl⟩
        rw [show (0 : Int) + (i : Int) = (i : Nat) from Int.zero_add _]
        walk_at "go"
        refine ⟨D, _, rfl, .inl (SqL.of hD2), rfl, flat_nV _, ?_⟩
        rw [if_pos rfl, mem_nV]
        walk_at "go"
        refine br (fun z => ?_) (fun z => ?_)
        · walk_at "go"
          have hz : i ∉ (G.rd a).filterMap f := fun q => by rw [decide_eq_true q] at z; cases z
          have : K96M.gets G f a n = false := by
            cases q : K96M.gets G f a n with
            | false => rfl
            | true =>
              obtain ⟨q1, _⟩ := K96M.gets_iff.mp q
              exact absurd ((hmem i).mpr (q1 i (by omega))) hz
          rw [← this]
          exact k _ e12
        · walk_at "go"
          have hz : i ∈ (G.rd a).filterMap f := by
            apply Classical.byContradiction
            intro q
            rw [decide_eq_false q] at z
            cases z
          refine ⟨rfl, fun l hl => ?_, _, rfl⟩
          rcases Nat.lt_or_eq_of_le (Nat.le_of_lt_succ hl) with q | q
          · exact hall l q
          · rw [q]; exact hz
      · rintro σ H3 ⟨rfl, hall, v, rfl⟩
        rw [Int.toNat_natCast] at hall
        walk_at "go"
        refine ⟨D, _, rfl, .inl (SqL.of hD2), rfl, flat_nV _, ?_⟩
        rw [if_neg Bool.false_ne_true, mem_nV]
        walk_at "go"
        refine br (fun z => ?_) (fun z => ?_)
        · walk_at "go"
          have hz : n ∈ (G.rd a).filterMap f := of_decide_eq_true z
          have : K96M.gets G f a n = false := by
            cases q : K96M.gets G f a n with
            | false => rfl
            | true =>
              obtain ⟨_, q1, _⟩ := K96M.gets_iff.mp q
              obtain ⟨b, hb, e⟩ := (hmem n).mp hz
              exact absurd e (q1 b hb)
          rw [← this]
          exact k _ e12
        · have hz : n ∉ (G.rd a).filterMap f := of_decide_eq_false z
          walk_at "go"
          have hP3 : LAt H3 p (G.rd a) := e2 _ _ hP
          refine ⟨p, rfl, ⟨_, SqL.of hP3⟩, for_list (K := K) (a := p) (xs := (G.rd a).map sV) (fun i σ H4 => Ex H3 H4 ∧ (∀ b ∈ (G.rd a).take i, f b = none → ∃ c ∈ G.rd b, f c = some n) ∧ ∃ u v, σ = [some (.ref g), some (.ref d), some (.str a), some (nV n), some (.ref p), u, some (.ref D), v]) ⟨Ex.refl _, fun b hb => (by rw [List.take_zero] at hb; cases hb), none, v, rfl⟩ (fun i σ H4 _ ⟨e, _⟩ => SqL.of (e _ _ hP3)) ?_ ?_⟩
          · rintro i y σ H4 hi ⟨e4, hall2, u, v, rfl⟩
            obtain ⟨c, hc, rfl⟩ := map_at hi
            have hcn : c ∈ G.ns := gok.ok.cl a ha c (List.mem_of_getElem? hc)
            have e14 := e12.trans e4
            obtain ⟨o, ho, ro⟩ := (hd.up e14).get c
            walk_at "go"
            refine ⟨d, o, rfl, ho, ?_⟩
            walk_at "go"
            refine br (fun z => ?_) (fun z => ?_)
            · have hfc : f c = none := by
                rw [ro] at z
                cases q : f c with
                | none => rfl
                | some m => rw [q] at z; cases z
              walk_at "go"
              refine ⟨g, d, G, f, c, n, rfl, hG.up e14, hd.up e14, hcn, fun H5 e5 => ?_⟩
              walk_at "go"
              refine br (fun z2 => ?_) (fun z2 => ?_)
              · walk_at "go"
                have : K96M.gets G f a n = false := by
                  cases q : K96M.gets G f a n with
                  | false => rfl
                  | true =>
                    obtain ⟨_, _, q1⟩ := K96M.gets_iff.mp q
                    obtain ⟨b, hb, e⟩ := q1 c (List.mem_of_getElem? hc) hfc
                    rw [any_of (p := fun c => f c == some n) hb (by rw [e]; exact beq_self_eq_true _)] at z2
                    cases z2
                rw [← this]
                exact k _ (e14.trans e5)
              · walk_at "go"
                refine ⟨e4.trans e5, fun b hb hfb => ?_, _, _, rfl⟩
                rw [tk hc] at hb
                rcases List.mem_append.mp hb with q | q
                · exact hall2 b q hfb
                · rw [List.mem_singleton.mp q]
                  have z3 : ((G.rd c).any fun c => f c == some n) = true := by
                    cases q : ((G.rd c).any fun c => f c == some n) with
                    | true => rfl
                    | false => rw [q] at z2; cases z2
                  obtain ⟨b', hb', e⟩ := List.any_eq_true.mp z3
                  exact ⟨b', hb', by simpa using e⟩
            · refine brF rfl ?_
              walk_at "go"
              refine ⟨e4, fun b hb hfb => ?_, _, _, rfl⟩
              rw [tk hc] at hb
              rcases List.mem_append.mp hb with q | q
              · exact hall2 b q hfb
              · rw [List.mem_singleton.mp q] at hfb
                rw [ro, hfb] at z
                cases z
          · rintro σ H4 ⟨e4, hall2, u, v, rfl⟩
            walk_at "go"
            rw [List.length_map, List.take_length] at hall2
            have : K96M.gets G f a n = true := K96M.gets_iff.mpr ⟨fun l hl => (hmem l).mp (hall l hl), fun b hb e => hz ((hmem n).mpr ⟨b, hb, e⟩), hall2⟩
            rw [← this]
            exact k _ (e12.trans e4)
end
end K96

set_option Elab.async false
set_option linter.all false
set_option maxRecDepth 100000
set_option maxHeartbeats 4000000
/-! K96F: the rounds. -/
namespace K96
open PySem PySem.Spec PyProof.Rows L2
open Evl (Ex)
open K96M (Gr)
local macro_rules | `(tactic| walk_at "go") => `(tactic| repeat (first
  | with_reducible refine w_seq ?_
  | with_reducible refine w_asg ?_
  | with_reducible refine w_name ?_
  | with_reducible refine w_var rfl ?_
  | with_reducible refine w_c ?_
  | with_reducible refine w_op ?_
  | with_reducible refine w_I0 ?_
  | with_reducible refine w_drop ?_
  | with_reducible refine w_ret ?_
  | with_reducible refine w_if ?_
  | with_reducible refine w_next ?_
  | with_reducible refine w_test ?_
  | with_reducible refine w_B ?_
  | with_reducible refine w_bl ?_
  | with_reducible refine w_not ?_
  | with_reducible refine w_and ?_
  | with_reducible refine w_or ?_
  | with_reducible refine w_andV ?_
  | with_reducible refine w_orV ?_
  | with_reducible refine w_notV ?_
  | with_reducible refine w_cons ?_
  | with_reducible refine w_nil ?_
  | with_reducible refine w_cb ?_
  | with_reducible refine w_call ?_
  | with_reducible refine w_isN ?_
  | with_reducible refine w_notN ?_
  | with_reducible refine w_chain ?_
  | with_reducible refine w_sl ?_
  | with_reducible refine w_nopart ?_
  | with_reducible refine w_tupT ?_
  | with_reducible refine w_lstT ?_
  | with_reducible refine w_eq rfl ?_
  | with_reducible refine w_ne rfl ?_
  | with_reducible refine w_for ?_
  | with_reducible refine w_iL ?_
  | with_reducible refine w_iT ?_
  | with_reducible refine w_iR1 ?_
  | with_reducible refine w_iR2 ?_
  | with_reducible refine w_iE ?_
  | with_reducible refine w_iS ?_
  | with_reducible refine w_lc ?_
  | with_reducible refine w_nm ?_
  | with_reducible refine w_din ?_
  | with_reducible refine w_dnotin ?_
  | with_reducible refine w_dput ?_
  | with_reducible refine w_dget1 ?_
  | with_reducible refine w_dget2 ?_
  | with_reducible refine w_bm ?_
  | with_reducible refine w_bm0 ?_
  | with_reducible refine w_sfld ?_
  | with_reducible refine w_make ?_
  | with_reducible refine w_part ?_
  | with_reducible refine w_aug rfl ?_
  | with_reducible refine w_ip ?_
  | with_reducible refine w_yes ?_
  | with_reducible refine w_gcs ?_
  | with_reducible refine w_gnil ?_
  | with_reducible refine w_dget ?_
  | with_reducible refine w_fld ?_
  | with_reducible refine w_meth ?_))
local macro_rules | `(tactic| walk_at "ex") => `(tactic| repeat (first | assumption | exact Ex.refl _ | refine Ex.trans ?_ (by assumption)))
/-- the rounds stand at l -/
def RsAt (H : Hp) (l : Addr) (rs : List (Nat × List Str)) : Prop := ∃ ts : List Addr, H l = some (.lst (ts.map V.ref)) ∧ Paired (fun t (r : Nat × List Str) => ∃ c, c ≠ l ∧ H t = some (.tup [nV r.1, .ref c]) ∧ LAt H c r.2) ts rs
theorem RsAt.up {H H' : Hp} {l : Addr} {rs : List (Nat × List Str)} (h : RsAt H l rs) (e : Ex H H') : RsAt H' l rs := by
  obtain ⟨ts, h1, h2⟩ := h
  exact ⟨ts, e _ _ h1, Paired.mapP h2 fun t r ⟨c, n, q1, q2⟩ => ⟨c, n, e _ _ q1, e _ _ q2⟩⟩
theorem RsAt.updD {H : Hp} {l d : Addr} {rs : List (Nat × List Str)} {kvs : List (Key × V)} {o : HO} (h : RsAt H l rs) (hd : H d = some (.dK kvs)) : RsAt (upd H d o) l rs := by
  obtain ⟨ts, h1, h2⟩ := h
  have ne : ∀ {a : Addr} {u : HO}, H a = some u → (∀ k, u ≠ .dK k) → a ≠ d := fun {a u} ha hu z => by
    subst z
    rw [hd] at ha
    exact hu kvs (Option.some.inj ha).symm
  refine ⟨ts, by rw [upd_ne (ne h1 fun k z => by cases z)]; exact h1, Paired.mapP h2 fun t r ⟨c, n, q1, q2⟩ => ⟨c, n, by rw [upd_ne (ne q1 fun k z => by cases z)]; exact q1, ?_⟩⟩
  show upd H d o c = _
  rw [upd_ne (ne q2 fun k z => by cases z)]
  exact q2
theorem RsAt.len {H : Hp} {l : Addr} {rs : List (Nat × List Str)} (h : RsAt H l rs) : ∃ ts : List Addr, H l = some (.lst (ts.map V.ref)) ∧ ts.length = rs.length := by
  obtain ⟨ts, h1, h2⟩ := h
  exact ⟨ts, h1, Paired.length h2⟩
theorem RsAt.snoc {H H' : Hp} {l t c : Addr} {rs : List (Nat × List Str)} {n : Nat} {cs : List Str} (h : RsAt H l rs) (e : Ex H H') (ht : H' t = some (.tup [nV n, .ref c])) (hc : LAt H' c cs) (ne : c ≠ l) :
    ∃ ts : List Addr, H' l = some (.lst (ts.map V.ref)) ∧ ts.length = rs.length ∧ RsAt (upd H' l (.lst (ts.map V.ref ++ [V.ref t]))) l (rs ++ [(n, cs)]) := by
  obtain ⟨ts, h1, h2⟩ := h.up e
  refine ⟨ts, h1, Paired.length h2, ts ++ [t], by rw [List.map_append]; exact upd_same, ?_⟩
  have nt : ∀ {a : Addr} {xs : List V}, H' a = some (.tup xs) → a ≠ l := fun {a xs} ha z => by
    subst z
    rw [h1] at ha
    cases ha
  refine (Paired.mapP h2 fun t r ⟨c, n, q1, q2⟩ => ⟨c, n, by rw [upd_ne (nt q1)]; exact q1, ?_⟩).snoc ⟨c, ne, by rw [upd_ne (nt ht)]; exact ht, ?_⟩
  · show upd H' l _ c = _
    rw [upd_ne ne]
    exact hc
  · show upd H' l _ c = _
    rw [upd_ne n]
    exact q2
theorem dp_ns {K : PySem.W.Frag} {H : Hp} {l : Addr} {ns : List Str} (h : LAt H l ns) : Dp K H (.ref l) (.list (ns.map PyData.str)) := .lst (SqL.of h) (dpAll_map fun x _ => .str x)
theorem shaped_ns {ns : List Str} (h : ∀ x ∈ ns, (PyData.str x).canLay0 = true) : SeqAt.shaped (.list (ns.map PyData.str)) = true := by
  refine shaped_list (fun d hd => ?_) (fun d hd => ?_)
  · obtain ⟨x, hx, rfl⟩ := List.mem_map.mp hd
    exact h x hx
  · obtain ⟨x, hx, rfl⟩ := List.mem_map.mp hd
    exact Nat.zero_le _
theorem filter_take {A : Type} {xs : List A} {p : A → Bool} {i : Nat} {x : A} (h : xs[i]? = some x) : (xs.take (i + 1)).filter p = (xs.take i).filter p ++ (if p x = true then [x] else []) := by
  rw [tk h, List.filter_append, List.filter_cons]
  rfl
section
variable {P : Program} {w : World} {K : PySem.W.Frag} {mg : Str → Option Value} {base : Heap}
def sp_rounds (K : PySem.W.Frag) : Sp := fun vs H Q _ => ∃ (g : Addr) (G : G0), vs = [.ref g] ∧ GAt K H g G ∧ GOk G ∧ Txt G ∧ ∀ p H2, H p = none → Ex H H2 → RsAt H2 p (K96M.rounds G) → Q (.ref p) H2
theorem sc_rounds_with_numbers : FnScope ["ground", "numbers", "rounds", "number", "some", "coming", "place"] ["ground"] (defScope s_rounds_with_numbers) := ⟨rfl, rfl, rfl, by decide +kernel, rfl, by decide +kernel, by decide +kernel⟩
theorem D_rounds_with_numbers (T : Tx K mg) : Def P w K mg base 4 (He.ga K "rounds_with_numbers") ["ground"] (sp_rounds K) := by
  refine Def.make T (d := d_rounds_with_numbers) 21 rfl rfl rfl sc_rounds_with_numbers (fun _ _ _ _ _ _ us hl => match us, hl with | [_], _ => rfl) (fun vs H Q E h => ?_) (fun cdv A outer s H vs Q E hr h => ?_)
  · obtain ⟨g, G, rfl, _⟩ := h
    rfl
  · obtain ⟨g, G, rfl, hG, gok, tx, k⟩ := h
    have nd := sc_rounds_with_numbers.nd
    have hu := hu_of hr
    refine ⟨_, (pss_cons (ps_set (i := 1) nd rfl (Or.inl rfl) pe_dnewK)
    (pss_cons (ps_set (i := 2) nd rfl (Or.inl rfl) (PE.nm (pe_lst pa_nil)))
    (pss_cons (ps_set (i := 3) nd rfl (Or.inl rfl) pe_int)
    (pss_cons (ps_set (i := 4) nd rfl (Or.inl rfl) pe_bl)
    (pss_one (ps_while PassesOwn.never (pt_val pe_bl) (pss_cons (ps_set (i := 5) nd rfl (Or.inl rfl) (PE.nm (pe_lst pa_nil)))
    (pss_cons (ps_for PassesOwn.never rfl (pi_list (pe_methX0 (D_Ground_names T) (hr.mono (by decide)) T.c_Ground T.m_Ground_names (pv 0))) (pg_name (i := 6) nd rfl (Or.inl rfl))
    (pss_one (ps_if (PW.pt (pw_and (pt_cmp (pc_dnotin hu (pv 6) (pv 1))) (pw_and1 (pt_val (pe_callX (D_gets_it T) (hr.mono (by decide)) rfl T.g_gets_it (pa_cons (pv 0) (pa_cons (pv 1) (pa_cons (pv 6) (pa_cons (pv 3) pa_nil))))))))) (pss_one (ps_expr (pe_bm PySem.F.plainAttrs_list PySem.F.slot_list_append PySem.F.type_list_append mt_append (pv 5) (pa_cons (pv 6) pa_nil)))) pss_nil)))
    (pss_cons (ps_for PassesOwn.never rfl (pi_list (pv 5)) (pg_name (i := 6) nd rfl (Or.inl rfl))
    (pss_one (ps_dput hu (pv 1) (pv 6) (pv 3) rfl)))
    (pss_one (ps_if (pt_cmpR (op_neD hr.units) (pv 5) (PE.nm (pe_lst pa_nil)) (nomark _)) (pss_cons (ps_expr (pe_bm PySem.F.plainAttrs_list PySem.F.slot_list_append PySem.F.type_list_append mt_append (pv 2) (pa_cons (PE.nm (pe_tup (pa_cons (pv 3) (pa_cons (pv 5) pa_nil)))) pa_nil)))
    (pss_one (ps_set (i := 4) nd rfl (Or.inl rfl) pe_bl))) (pss_one (ps_if (pt_val (pv 4)) (pss_cons (ps_set (i := 3) nd rfl (Or.inl rfl) (pe_op op_add (pv 3) pe_int))
    (pss_one (ps_set (i := 4) nd rfl (Or.inl rfl) pe_bl))) (pss_one (ps_ret (pv 2)))))))))))))))), ?_⟩
    walk_at "go"
    refine w_dnewK fun d Ha hd ea hda => ?_
    walk_at "go"
    refine ⟨szs (Nat.zero_le _), w_new fun l Hb hl eb hlb => ?_⟩
    walk_at "go"
    have hl0 : H l = none := Evl.fresh_back ea hl
    have hdl : d ≠ l := ne_of_none hda hl
    refine ⟨fun m σ H' => ∃ f rs n sm v1 v2, σ = [some (.ref g), some (.ref d), some (.ref l), some (nV n), some (.bl sm), v1, v2] ∧ Ex H H' ∧ DN H' d G.ns f ∧ RsAt H' l rs ∧ K96M.Inv G f rs n sm ∧ (sm = true → ∃ a, f a = some n) ∧ K96M.meas G f sm < m ∧ K96M.loop G m f rs n sm = K96M.rounds G ∧ rs.length + K96M.left G f ≤ G.ns.length,
      ⟨2 * G.ns.length + 1, fun _ => none, [], 0, false, none, none, rfl, ea.trans eb, DR.new (eb _ _ hda) fun x => rfl, ⟨[], hlb, .nil⟩, K96M.Inv.start G, (fun z => by cases z), K96M.meas_start G, rfl, ?_⟩, ?_⟩
    · rw [List.length_nil, Nat.zero_add]
      exact List.length_filter_le _ _
    · rintro m σ H' ⟨f, rs, n, sm, v1, v2, rfl, e0, hD, hR, hI, hsm, hms, hlp, hlen⟩
      obtain ⟨m, rfl⟩ : ∃ j, m = j + 1 := ⟨m - 1, by omega⟩
      have hn : n ≤ 9 := Nat.le_trans (K96M.many_of gok.ok.nd (f := f) fun j hj => by
        obtain ⟨a, ha⟩ := hI.some_ j hj
        exact ⟨a, hI.ins a j ha, ha⟩) gok.many
      walk_at "go"
      refine brT rfl ?_
      -- what the turn is to reach
      refine ⟨fun σ' H'' => ∃ f' rs' n' sm' v1 v2, σ' = [some (.ref g), some (.ref d), some (.ref l), some (nV n'), some (.bl sm'), v1, v2] ∧ Ex H H'' ∧ DN H'' d G.ns f' ∧ RsAt H'' l rs' ∧ K96M.Inv G f' rs' n' sm' ∧ (sm' = true → ∃ a, f' a = some n') ∧ K96M.meas G f' sm' < m ∧ K96M.loop G m f' rs' n' sm' = K96M.rounds G ∧ rs'.length + K96M.left G f' ≤ G.ns.length, fun σ' H'' h => ⟨m, Nat.lt_succ_self m, h⟩, ?_⟩
      walk_at "go"
      refine ⟨szs (Nat.zero_le _), w_new fun cm H1 hcm e1 hcm1 => ?_⟩
      walk_at "go"
      obtain ⟨dx, _, _, hg1, _⟩ := hG.up (e0.trans e1)
      refine ⟨g, dx, _, rfl, hg1, rfl, ?_⟩
      walk_at "go"
      refine ⟨g, G, rfl, hG.up (e0.trans e1), fun p H2 hp e2 hP => ?_⟩
      have hpc : p ≠ cm := fun z => by rw [z, hcm1] at hp; cases hp
      have e12 := e1.trans e2
      have hq0 : K96M.coming G f n = G.ns.filter (fun a => (f a).isNone && K96M.gets G f a n) := rfl
      refine ⟨p, rfl, ⟨_, SqL.of hP⟩, for_list (K := K) (a := p) (xs := G.ns.map sV) (fun i σ' H3 => Ex H' H3 ∧ LAt H3 p G.ns ∧ LAt H3 cm ((G.ns.take i).filter (fun a => (f a).isNone && K96M.gets G f a n)) ∧ ∃ v, σ' = [some (.ref g), some (.ref d), some (.ref l), some (nV n), some (.bl sm), some (.ref cm), v]) ⟨e12, hP, e2 _ _ hcm1, v2, rfl⟩ (fun i σ' H3 _ ⟨_, e, _⟩ => SqL.of e) ?_ ?_⟩
      · rintro i y σ' H3 hi ⟨e3, hP3, hC3, v, rfl⟩
        obtain ⟨a, ha, rfl⟩ := map_at hi
        have han : a ∈ G.ns := List.mem_of_getElem? ha
        obtain ⟨o, ho, ro⟩ := (hD.up e3).get a
        have ft := filter_take (p := fun a => (f a).isNone && K96M.gets G f a n) ha
        walk_at "go"
        refine ⟨d, o, rfl, ho, ?_⟩
        walk_at "go"
        refine br (fun z => ?_) (fun z => ?_)
        · have hfa : f a = none := by
            rw [ro] at z
            cases q : f a with
            | none => rfl
            | some m => rw [q] at z; cases z
          walk_at "go"
          refine ⟨g, d, G, f, a, n, rfl, hG.up (e0.trans e3), gok, hD.up e3, han, by omega, fun H4 e4 => ?_⟩
          walk_at "go"
          refine br (fun z2 => ?_) (fun z2 => ?_)
          · walk_at "go"
            refine ⟨.inl ⟨rfl, _, SqL.of (e4 _ _ hC3)⟩, ?_⟩
            walk_at "go"
            have hcl : (((G.ns.take i).filter (fun a => (f a).isNone && K96M.gets G f a n)).map sV).length ≤ 100000 := by
              rw [List.length_map]
              have := List.length_filter_le (fun a => (f a).isNone && K96M.gets G f a n) (G.ns.take i)
              rw [List.length_take] at this
              have := gok.many
              omega
            refine ⟨cm, _, _, rfl, rfl, e4 _ _ hC3, szl hcl, ?_⟩
            refine ⟨Ex.mut (e3.trans e4) hcm, ?_, ?_, _, rfl⟩
            · show upd H4 cm _ p = _
              rw [upd_ne hpc]
              exact e4 _ _ hP3
            · show upd H4 cm _ cm = _
              rw [upd_same, ft, if_pos (by rw [hfa, z2]; rfl), List.map_append]
              rfl
          · walk_at "go"
            refine ⟨e3.trans e4, e4 _ _ hP3, ?_, _, rfl⟩
            rw [ft, if_neg (by rw [z2, Bool.and_false]; decide), List.append_nil]
            exact e4 _ _ hC3
        · walk_at "go"
          refine brF rfl ?_
          walk_at "go"
          refine ⟨e3, hP3, ?_, _, rfl⟩
          have hfa : (f a).isNone = false := by
            rw [ro] at z
            cases q : f a with
            | none => rw [q] at z; cases z
            | some m => rfl
          rw [ft, if_neg (by rw [hfa, Bool.false_and]; decide), List.append_nil]
          exact hC3
      · rintro σ' H3 ⟨e3, hP3, hC3, v, rfl⟩
        rw [List.length_map, List.take_length, ← hq0] at hC3
        walk_at "go"
        have hcmd : cm ≠ d := by
          obtain ⟨kvs, q, _⟩ := hD
          exact fun z => by rw [z, q] at hcm; cases hcm
        have hcml : cm ≠ l := by
          obtain ⟨ts, q, _⟩ := hR
          exact fun z => by rw [z, q] at hcm; cases hcm
        refine ⟨cm, rfl, ⟨_, SqL.of hC3⟩, for_list (K := K) (a := cm) (xs := (K96M.coming G f n).map sV) (fun i σ' H4 => Ex H H4 ∧ LAt H4 cm (K96M.coming G f n) ∧ DN H4 d G.ns (K96M.put f ((K96M.coming G f n).take i) n) ∧ RsAt H4 l rs ∧ ∃ v, σ' = [some (.ref g), some (.ref d), some (.ref l), some (nV n), some (.bl sm), some (.ref cm), v])
          ⟨e0.trans e3, hC3, (hD.up e3).mono rfl fun x o q => by rw [q]; unfold K96M.put; rw [List.take_zero, if_neg (by simp)], hR.up e3, v, rfl⟩ (fun i σ' H4 _ ⟨_, q, _⟩ => SqL.of q) ?_ ?_⟩
        · rintro i y σ' H4 hi ⟨e4, hC4, hD4, hR4, v, rfl⟩
          obtain ⟨a, ha, rfl⟩ := map_at hi
          have han : a ∈ G.ns := (K96M.coming_mem.mp (List.mem_of_getElem? ha)).1
          obtain ⟨H5, hput, hD5, o5, rfl⟩ := hD4.put (R' := fun x o => o = (K96M.put f ((K96M.coming G f n).take (i + 1)) n x).map nV) (x := a) (v := nV n) han (by have := gok.many; omega) (by
            unfold K96M.put
            rw [tk ha, if_pos (by simp)]
            rfl) (fun y o hy q => by
            rw [q]
            unfold K96M.put
            rw [tk ha]
            by_cases z : y ∈ (K96M.coming G f n).take i
            · rw [if_pos z, if_pos (by simp [z])]
            · rw [if_neg z, if_neg (by simp [z, hy])])
          walk_at "go"
          refine ⟨d, _, rfl, hput, ?_⟩
          obtain ⟨kvs, hk, _⟩ := hD4
          refine ⟨Ex.mut e4 hd, ?_, hD5, hR4.updD hk, _, rfl⟩
          show upd H4 d o5 cm = _
          rw [upd_ne hcmd]
          exact hC4
        · rintro σ' H4 ⟨e4, hC4, hD4, hR4, v, rfl⟩
          rw [List.length_map, List.take_length] at hD4
          walk_at "go"
          refine ⟨szs (Nat.zero_le _), w_new fun q H5 hq e5 h5 => ?_⟩
          walk_at "go"
          refine ⟨_, .list [], dp_ns (e5 _ _ hC4), .lst (SqL.of h5) .nil, shaped_ns (fun x hx => tx x (K96M.coming_mem.mp hx).1), rfl, ?_⟩
          rw [eqvAll_nil, List.isEmpty_map]
          walk_at "go"
          refine br (fun z => ?_) (fun z => ?_)
          · have hne : (K96M.coming G f n).isEmpty = false := by
              cases q : (K96M.coming G f n).isEmpty with
              | false => rfl
              | true => rw [q] at z; cases z
            walk_at "go"
            obtain ⟨ts0, hts0, _⟩ := (hR4.up e5).len
            refine ⟨.inl ⟨rfl, _, SqL.of hts0⟩, ?_⟩
            walk_at "go"
            refine ⟨szs (show 2 ≤ 100000 by decide), w_new fun t H6 ht e6 h6 => ?_⟩
            obtain ⟨ts, hts, htl, hR7⟩ := hR4.snoc (e5.trans e6) h6 ((e5.trans e6) _ _ hC4) hcml
            have hlb := hlen
            refine ⟨l, _, _, rfl, rfl, hts, szl (by rw [List.length_map, htl]; have := gok.many; omega), ?_⟩
            walk_at "go"
            refine ⟨_, _, n, true, _, _, rfl, Ex.mut ((e4.trans e5).trans e6) hl0, ?_, hR7, hI.turn hne, fun _ => ?_, ?_, ?_, ?_⟩
            · refine ((hD4.up (e5.trans e6)).mono ?_ fun x o q => q)
              exact upd_ne hdl
            · cases q : K96M.coming G f n with
              | nil => rw [q] at hne; simp at hne
              | cons x r => exact ⟨x, by unfold K96M.put; rw [if_pos (by simp)]⟩
            · have := K96M.meas_put (g := G) (f := f) (n := n) (sm := sm) hne
              omega
            · rw [← hlp, K96M.loop, if_neg (by rw [hne]; decide)]
            · have := K96M.left_put (g := G) (f := f) (n := n) hne
              rw [List.length_append, List.length_singleton]
              omega
          · have hne : (K96M.coming G f n).isEmpty = true := by
              cases q : (K96M.coming G f n).isEmpty with
              | true => rfl
              | false => rw [q] at z; cases z
            have hput0 : ∀ x, K96M.put f (K96M.coming G f n) n x = f x := fun x => by
              unfold K96M.put
              rw [List.isEmpty_iff.mp hne, if_neg (by simp)]
            walk_at "go"
            cases sm with
            | true =>
              refine brT rfl ?_
              walk_at "go"
              refine ⟨f, rs, n + 1, false, _, _, rfl, e4.trans e5, (hD4.up e5).mono rfl fun x o q => by rw [q, hput0], hR4.up e5, hI.next hne (hsm rfl), (fun z => by cases z), ?_, ?_, hlen⟩
              · have := @K96M.meas_next _ _ G f
                omega
              · rw [← hlp, K96M.loop, if_pos hne, if_pos rfl]
            | false =>
              refine brF rfl ?_
              walk_at "go"
              have : rs = K96M.rounds G := by
                rw [← hlp, K96M.loop, if_pos hne, if_neg Bool.false_ne_true]
              rw [← this] at k
              exact k l H5 hl0 (e4.trans e5) (hR4.up e5)
end
end K96

set_option Elab.async false
set_option linter.all false
set_option maxRecDepth 100000
set_option maxHeartbeats 4000000
/-! K96G: labels. -/
namespace K96
open PySem PySem.Spec PyProof.Rows L2
open Evl (Ex)
open K96M (Gr)
local macro_rules | `(tactic| walk_at "go") => `(tactic| repeat (first
  | with_reducible refine w_seq ?_
  | with_reducible refine w_asg ?_
  | with_reducible refine w_name ?_
  | with_reducible refine w_var rfl ?_
  | with_reducible refine w_c ?_
  | with_reducible refine w_op ?_
  | with_reducible refine w_I0 ?_
  | with_reducible refine w_drop ?_
  | with_reducible refine w_ret ?_
  | with_reducible refine w_if ?_
  | with_reducible refine w_next ?_
  | with_reducible refine w_test ?_
  | with_reducible refine w_B ?_
  | with_reducible refine w_bl ?_
  | with_reducible refine w_not ?_
  | with_reducible refine w_and ?_
  | with_reducible refine w_or ?_
  | with_reducible refine w_andV ?_
  | with_reducible refine w_orV ?_
  | with_reducible refine w_notV ?_
  | with_reducible refine w_cons ?_
  | with_reducible refine w_nil ?_
  | with_reducible refine w_cb ?_
  | with_reducible refine w_call ?_
  | with_reducible refine w_isN ?_
  | with_reducible refine w_notN ?_
  | with_reducible refine w_chain ?_
  | with_reducible refine w_sl ?_
  | with_reducible refine w_nopart ?_
  | with_reducible refine w_tupT ?_
  | with_reducible refine w_lstT ?_
  | with_reducible refine w_eq rfl ?_
  | with_reducible refine w_ne rfl ?_
  | with_reducible refine w_for ?_
  | with_reducible refine w_iL ?_
  | with_reducible refine w_iT ?_
  | with_reducible refine w_iR1 ?_
  | with_reducible refine w_iR2 ?_
  | with_reducible refine w_iE ?_
  | with_reducible refine w_iS ?_
  | with_reducible refine w_lc ?_
  | with_reducible refine w_nm ?_
  | with_reducible refine w_din ?_
  | with_reducible refine w_dnotin ?_
  | with_reducible refine w_dput ?_
  | with_reducible refine w_dget1 ?_
  | with_reducible refine w_dget2 ?_
  | with_reducible refine w_bm ?_
  | with_reducible refine w_bm0 ?_
  | with_reducible refine w_sfld ?_
  | with_reducible refine w_make ?_
  | with_reducible refine w_part ?_
  | with_reducible refine w_aug rfl ?_
  | with_reducible refine w_ip ?_
  | with_reducible refine w_yes ?_
  | with_reducible refine w_gcs ?_
  | with_reducible refine w_gnil ?_
  | with_reducible refine w_dget ?_
  | with_reducible refine w_fld ?_
  | with_reducible refine w_meth ?_))
local macro_rules | `(tactic| walk_at "ex") => `(tactic| repeat (first | assumption | exact Ex.refl _ | refine Ex.trans ?_ (by assumption)))
inductive Lab where
  | num (n s : Nat)
  | endl (b : Nat)
def LabAt (H : Hp) (t : Addr) : Lab → Prop
  | .num n s => H t = some (.tup [.str "number", nV n, nV s])
  | .endl b => H t = some (.tup [.str "endless", nV b])
theorem LabAt.tm {H H' : Hp} {t : Addr} {L : Lab} (h : LabAt H t L) (e : Tm H H') : LabAt H' t L := by
  cases L with
  | num n s => exact e _ _ h
  | endl b => exact e _ _ h
theorem LabAt.up {H H' : Hp} {t : Addr} {L : Lab} (h : LabAt H t L) (e : Ex H H') : LabAt H' t L := h.tm (Tm.of e)
/-- what a dict of labels holds at a name -/
def LbR (H : Hp) (o : Option V) : Option Lab → Prop
  | none => o = none
  | some L => ∃ t, o = some (.ref t) ∧ LabAt H t L
theorem LbR.tm {H H' : Hp} {o : Option V} {L : Option Lab} (h : LbR H o L) (e : Tm H H') : LbR H' o L := by
  cases L with
  | none => exact h
  | some L => obtain ⟨t, h1, h2⟩ := h; exact ⟨t, h1, h2.tm e⟩
def numL : Option Lab → Option Nat
  | some (.num n _) => some n
  | _ => none
/-- labels enough to look names l up -/
def LooksAt (H : Hp) (d : Addr) (l : List Str) (lb : Str → Option Lab) : Prop := ∃ kvs : List (Key × V), H d = some (.dK kvs) ∧ ∀ b ∈ l, LbR H (valV kvs (Sum.inr b)) (lb b)
theorem LooksAt.up {H H' : Hp} {d : Addr} {l : List Str} {lb : Str → Option Lab} (h : LooksAt H d l lb) (e : Ex H H') : LooksAt H' d l lb := by
  obtain ⟨kvs, h1, h2⟩ := h
  exact ⟨kvs, e _ _ h1, fun b hb => (h2 b hb).tm (Tm.of e)⟩
theorem LooksAt.get {H : Hp} {d : Addr} {l : List Str} {lb : Str → Option Lab} (h : LooksAt H d l lb) {b : Str} (hb : b ∈ l) : ∃ o, DGet H d (.str b) o ∧ LbR H o (lb b) := by
  obtain ⟨kvs, h1, h2⟩ := h
  exact ⟨_, DGet.k (k := Sum.inr b) h1, h2 b hb⟩
theorem ne_en : decide (V.str "endless" = V.str "number") = false := by decide +kernel
theorem ne_ne : decide (V.str "number" = V.str "endless") = false := by decide +kernel
theorem fm_take {A B : Type} {xs : List A} {p : A → Option B} {i : Nat} {x : A} (h : xs[i]? = some x) : (xs.take (i + 1)).filterMap p = (xs.take i).filterMap p ++ (p x).toList := by
  rw [tk h, List.filterMap_append, List.filterMap_cons]
  cases p x <;> rfl
section
variable {P : Program} {w : World} {K : PySem.W.Frag} {mg : Str → Option Value} {base : Heap}
def sp_nb (K : PySem.W.Frag) : Sp := fun vs H Q _ => ∃ (g d : Addr) (G : G0) (lb : Str → Option Lab) (a : Str), vs = [.ref g, .ref d, .str a] ∧ GAt K H g G ∧ GOk G ∧ a ∈ G.ns ∧ LooksAt H d (G.rd a) lb ∧
  ∀ p H2, H p = none → Ex H H2 → H2 p = some (.lst (((G.rd a).filterMap fun b => numL (lb b)).map nV)) → Q (.ref p) H2
theorem sc_numbers_beside : FnScope ["ground", "labels", "place", "found", "other"] ["ground", "labels", "place"] (defScope s_numbers_beside) := ⟨rfl, rfl, rfl, by decide +kernel, rfl, by decide +kernel, by decide +kernel⟩
theorem D_numbers_beside (T : Tx K mg) : Def P w K mg base 2 (He.ga K "numbers_beside") ["ground", "labels", "place"] (sp_nb K) := by
  refine Def.make T (d := d_numbers_beside) 22 rfl rfl rfl sc_numbers_beside (fun _ _ _ _ _ _ us hl => match us, hl with | [_, _, _], _ => rfl) (fun vs H Q E h => ?_) (fun cdv A outer s H vs Q E hr h => ?_)
  · obtain ⟨g, d, G, lb, a, rfl, _⟩ := h
    rfl
  · obtain ⟨g, d, G, lb, a, rfl, hG, gok, ha, hd, k⟩ := h
    have nd := sc_numbers_beside.nd
    have hu := hu_of hr
    have hfew := gok.few a ha
    refine ⟨_, (pss_cons (ps_set (i := 3) nd rfl (Or.inl rfl) (PE.nm (pe_lst pa_nil)))
    (pss_cons (ps_for PassesOwn.never rfl (pi_list (pe_methX (D_Ground_roads_from T) (hr.mono (by decide)) T.c_Ground T.m_Ground_roads_from (pv 0) (pa_cons (pv 2) pa_nil))) (pg_name (i := 4) nd rfl (Or.inl rfl))
    (pss_one (ps_if (PW.pt (pw_and (pt_cmp (pc_din hu (pv 4) (pv 1))) (pw_and1 (pt_cmpR op_eq (pe_ix ix_tup (pe_dget hu (pv 1) (pv 4) (fun _ _ => rfl)) pe_int (fun _ _ => rfl)) pe_str (nomark _))))) (pss_one (ps_expr (pe_bm PySem.F.plainAttrs_list PySem.F.slot_list_append PySem.F.type_list_append mt_append (pv 3) (pa_cons (pe_ix ix_tup (pe_dget hu (pv 1) (pv 4) (fun _ _ => rfl)) pe_int (fun _ _ => rfl)) pa_nil)))) pss_nil)))
    (pss_one (ps_ret (pv 3))))), ?_⟩
    walk_at "go"
    refine ⟨szs (Nat.zero_le _), w_new fun l H1 hl e1 hl1 => ?_⟩
    walk_at "go"
    obtain ⟨dx, _, _, hg1, _⟩ := hG.up e1
    refine ⟨g, dx, _, rfl, hg1, rfl, ?_⟩
    walk_at "go"
    refine ⟨g, G, a, rfl, hG.up e1, ha, fun p H2 hp e2 hP => ?_⟩
    have hpl : p ≠ l := fun z => by rw [z, hl1] at hp; cases hp
    refine ⟨p, rfl, ⟨_, SqL.of hP⟩, for_list (K := K) (a := p) (xs := (G.rd a).map sV) (fun i σ' H3 => Ex H H3 ∧ LAt H3 p (G.rd a) ∧ H3 l = some (.lst ((((G.rd a).take i).filterMap fun b => numL (lb b)).map nV)) ∧ ∃ v, σ' = [some (.ref g), some (.ref d), some (.str a), some (.ref l), v]) ⟨e1.trans e2, hP, e2 _ _ hl1, none, rfl⟩ (fun i σ' H3 _ ⟨_, e, _⟩ => SqL.of e) ?_ ?_⟩
    · rintro i y σ' H3 hi ⟨e3, hP3, hL3, v, rfl⟩
      obtain ⟨b, hb, rfl⟩ := map_at hi
      have hbm : b ∈ G.rd a := List.mem_of_getElem? hb
      obtain ⟨o, ho, ro⟩ := (hd.up e3).get hbm
      have ft := fm_take (p := fun b => numL (lb b)) hb
      walk_at "go"
      refine ⟨d, o, rfl, ho, ?_⟩
      walk_at "go"
      cases hlb : lb b with
      | none =>
        rw [hlb] at ro
        have ro : o = none := ro
        subst ro
        refine brF rfl ?_
        refine brF rfl ?_
        walk_at "go"
        refine ⟨e3, hP3, ?_, _, rfl⟩
        rw [ft, hlb]
        show H3 l = some (HO.lst (List.map nV (_ ++ [])))
        rw [List.append_nil]
        exact hL3
      | some L =>
        rw [hlb] at ro
        obtain ⟨t, rfl, ht⟩ := ro
        refine brT rfl ?_
        walk_at "go"
        refine ⟨d, _, rfl, ho, ?_⟩
        walk_at "go"
        cases L with
        | num n s =>
          refine w_ixT (SqT.of ht) rfl ?_
          walk_at "go"
          refine brT (decide_eq_true rfl) ?_
          walk_at "go"
          refine ⟨.inl ⟨rfl, _, SqL.of hL3⟩, ?_⟩
          walk_at "go"
          refine ⟨d, _, rfl, ho, ?_⟩
          walk_at "go"
          refine w_ixT (SqT.of ht) rfl ?_
          walk_at "go"
          refine ⟨l, _, _, rfl, rfl, hL3, szl ?_, ?_⟩
          · rw [List.length_map]
            have := List.length_filterMap_le (fun b => numL (lb b)) ((G.rd a).take i)
            rw [List.length_take] at this
            omega
          · refine ⟨Ex.mut e3 hl, ?_, ?_, _, rfl⟩
            · show upd H3 l _ p = _
              rw [upd_ne hpl]
              exact hP3
            · show upd H3 l _ l = _
              rw [upd_same, ft, hlb, List.map_append]
              rfl
        | endl c =>
          refine w_ixT (SqT.of ht) rfl ?_
          walk_at "go"
          refine brF ne_en ?_
          walk_at "go"
          refine ⟨e3, hP3, ?_, _, rfl⟩
          rw [ft, hlb]
          show H3 l = some (HO.lst (List.map nV (_ ++ [])))
          rw [List.append_nil]
          exact hL3
    · rintro σ' H3 ⟨e3, hP3, hL3, v, rfl⟩
      walk_at "go"
      rw [List.length_map, List.take_length] at hL3
      exact k l H3 hl e3 hL3
/-! ### labels_of -/
/-- the numbers beside a place -/
def besF (G : G0) (a : Str) : List Nat := (G.rd a).filterMap fun b => (K96M.lab0 G b).map (·.1)
def labF (G : G0) (a : Str) : Lab := match K96M.lab0 G a with
  | some (n, s) => .num n s
  | none => .endl (setOf (besF G a))
def LsAt (H : Hp) (d : Addr) (G : G0) : Prop := LooksAt H d G.ns fun x => some (labF G x)
theorem LsAt.up {H H' : Hp} {d : Addr} {G : G0} (h : LsAt H d G) (e : Ex H H') : LsAt H' d G := LooksAt.up h e
theorem LsAt.get {H : Hp} {d : Addr} {G : G0} (h : LsAt H d G) {b : Str} (hb : b ∈ G.ns) : ∃ t, DGet H d (.str b) (some (.ref t)) ∧ LabAt H t (labF G b) := by
  obtain ⟨o, h1, t, rfl, h2⟩ := LooksAt.get h hb
  exact ⟨t, h1, h2⟩
theorem loop_mem {A : Type} [DecidableEq A] {g : Gr A} : ∀ (k : Nat) (f : A → Option Nat) (rs : List (Nat × List A)) (n : Nat) (sm : Bool), (∀ r ∈ rs, (∀ a ∈ r.2, a ∈ g.ns) ∧ r.2.length ≤ g.ns.length) → ∀ r ∈ K96M.loop g k f rs n sm, (∀ a ∈ r.2, a ∈ g.ns) ∧ r.2.length ≤ g.ns.length
  | 0, _, _, _, _, h => h
  | k + 1, f, rs, n, sm, h => by
    unfold K96M.loop
    split
    · split
      · exact loop_mem k f rs (n + 1) false h
      · exact h
    · refine loop_mem k _ _ n true fun r hr => ?_
      rcases List.mem_append.mp hr with q | q
      · exact h r q
      · rw [List.mem_singleton.mp q]
        exact ⟨fun a ha => (K96M.coming_mem.mp ha).1, List.length_filter_le _ _⟩
theorem rounds_mem (G : G0) : ∀ r ∈ K96M.rounds G, (∀ a ∈ r.2, a ∈ G.ns) ∧ r.2.length ≤ G.ns.length := loop_mem _ _ _ _ _ fun r hr => by cases hr
def ofN (p : Option (Nat × Nat)) : Option Lab := p.map fun q => .num q.1 q.2
theorem numL_ofN (p : Option (Nat × Nat)) : numL (ofN p) = p.map (·.1) := by cases p <;> rfl
def sp_labels_of (K : PySem.W.Frag) : Sp := fun vs H Q _ => ∃ (g : Addr) (G : G0), vs = [.ref g] ∧ GAt K H g G ∧ GOk G ∧ Txt G ∧ ∀ p H2, Ex H H2 → LsAt H2 p G → Q (.ref p) H2
theorem sc_labels_of : FnScope ["ground", "numbered", "step", "row", "place", "labels"] ["ground"] (defScope s_labels_of) := ⟨rfl, rfl, rfl, by decide +kernel, rfl, by decide +kernel, by decide +kernel⟩
theorem D_labels_of (T : Tx K mg) : Def P w K mg base 5 (He.ga K "labels_of") ["ground"] (sp_labels_of K) := by
  refine Def.make T (d := d_labels_of) 23 rfl rfl rfl sc_labels_of (fun _ _ _ _ _ _ us hl => match us, hl with | [_], _ => rfl) (fun vs H Q E h => ?_) (fun cdv A outer s H vs Q E hr h => ?_)
  · obtain ⟨g, G, rfl, _⟩ := h
    rfl
  · obtain ⟨g, G, rfl, hG, gok, tx, k⟩ := h
    have nd := sc_labels_of.nd
    have hu := hu_of hr
    have hmany := gok.many
    have good := K96M.good_of gok.ok
    have hrm := rounds_mem G
    refine ⟨_, (pss_cons (ps_set (i := 1) nd rfl (Or.inl rfl) pe_dnewK)
    (pss_cons (ps_for PassesOwn.never rfl (pi_enum (by rfl) T.f_enumerate (pa_cons (pe_callX (D_rounds_with_numbers T) (hr.mono (by decide)) rfl T.g_rounds_with_numbers (pa_cons (pv 0) pa_nil)) pa_nil)) (pg_tup rfl (pgs_cons (pg_name (i := 2) nd rfl (Or.inl rfl)) (pgs_cons (pg_name (i := 3) nd rfl (Or.inl rfl)) pgs_nil)))
    (pss_one (ps_for PassesOwn.never rfl (pi_list (pe_ix ix_tup (pv 3) pe_int (fun _ _ => rfl))) (pg_name (i := 4) nd rfl (Or.inl rfl))
    (pss_one (ps_dput hu (pv 1) (pv 4) (PE.nm (pe_tup (pa_cons pe_str (pa_cons (pe_ix ix_tup (pv 3) pe_int (fun _ _ => rfl)) (pa_cons (pv 2) pa_nil))))) rfl)))))
    (pss_cons (ps_set (i := 5) nd rfl (Or.inl rfl) pe_dnewK)
    (pss_cons (ps_for PassesOwn.never rfl (pi_list (pe_methX0 (D_Ground_names T) (hr.mono (by decide)) T.c_Ground T.m_Ground_names (pv 0))) (pg_name (i := 4) nd rfl (Or.inl rfl))
    (pss_one (ps_if (pt_cmp (pc_din hu (pv 4) (pv 1))) (pss_one (ps_dput hu (pv 5) (pv 4) (pe_dget hu (pv 1) (pv 4) (fun _ _ => rfl)) rfl)) (pss_one (ps_dput hu (pv 5) (pv 4) (PE.nm (pe_tup (pa_cons pe_str (pa_cons (pe_callX (D_set_of T) (hr.mono (by decide)) rfl T.g_set_of (pa_cons (pe_callX (D_numbers_beside T) (hr.mono (by decide)) rfl T.g_numbers_beside (pa_cons (pv 0) (pa_cons (pv 1) (pa_cons (pv 4) pa_nil)))) pa_nil)) pa_nil)))) rfl)))))
    (pss_one (ps_ret (pv 5))))))), ?_⟩
    walk_at "go"
    refine w_dnewK fun d H1 hd e1 hd1 => ?_
    walk_at "go"
    refine ⟨g, G, rfl, hG.up e1, gok, tx, fun l H2 hl e2 hR => ?_⟩
    have e12 := e1.trans e2
    walk_at "go"
    obtain ⟨ts, hts, hpair⟩ := hR
    refine ⟨l, _, rfl, SqL.of hts, for_it (walk_enum (K := K) (a := l) (xs := ts.map V.ref)) (fun i σ H3 => Ex H H3 ∧ RsAt H3 l (K96M.rounds G) ∧ H3 l = some (.lst (ts.map V.ref)) ∧ DR H3 d G.ns (fun x o => LbR H3 o (ofN (K96M.numd ((K96M.rounds G).take i) 0 (fun _ => none) x))) ∧ ∃ v1 v2 v3 v4, σ = [some (.ref g), some (.ref d), v1, v2, v3, v4])
      ⟨e12, ⟨ts, hts, hpair⟩, hts, DR.new (e2 _ _ hd1) fun x => rfl, none, none, none, none, rfl⟩ (fun i σ H3 _ ⟨_, _, q, _⟩ => SqL.of q) ?_ ?_⟩
    · rintro i v σ H3 H3' hi ⟨e3, hR3, hl3, hD3, v1, v2, v3, v4, rfl⟩ ⟨T', x, y, rfl, hT', rfl, h1, h2⟩
      obtain rfl : V.int (i : Nat) = x := Option.some.inj h1
      obtain ⟨t, ht, rfl⟩ := map_at h2
      have eT : Ex H3 (upd H3 T' (.tup [.int (i : Nat), .ref t])) := Ex.new hT'
      generalize hH4 : upd H3 T' (.tup [.int (i : Nat), .ref t]) = H4 at eT
      have hT4 : H4 T' = some (.tup [nV i, .ref t]) := by rw [← hH4]; exact upd_same
      refine w_gtup ⟨T', _, rfl, SqT.of hT4, rfl, ?_⟩
      walk_at "go"
      have hR4 := hR3.up eT
      have hR4' := hR4
      obtain ⟨ts', hts', hpair'⟩ := hR4'
      have ets : ts' = ts := by
        have q := (eT _ _ hl3).symm.trans hts'
        injection q with q
        injection q with q
        have inj : ∀ (a b : List Addr), a.map V.ref = b.map V.ref → a = b := by
          intro a
          induction a with
          | nil => intro b hb; cases b with | nil => rfl | cons _ _ => cases hb
          | cons x r ih => intro b hb; cases b with
            | nil => cases hb
            | cons y s => injection hb with h1 h2; injection h1 with h1; rw [h1, ih s h2]
        exact (inj _ _ q).symm
      subst ets
      obtain ⟨r, hr1, c, hcl, htr, hc⟩ := Paired.at_ hpair' ht
      have hrm1 := hrm r (List.mem_of_getElem? hr1)
      refine w_ixT (SqT.of htr) rfl ?_
      refine ⟨c, rfl, ⟨_, SqL.of hc⟩, for_list (K := K) (a := c) (xs := r.2.map sV) (fun j σ' H5 => Ex H H5 ∧ RsAt H5 l (K96M.rounds G) ∧ H5 l = some (.lst (ts'.map V.ref)) ∧ LAt H5 c r.2 ∧ H5 t = some (.tup [nV r.1, .ref c]) ∧ DR H5 d G.ns (fun x o => LbR H5 o (ofN (if x ∈ r.2.take j then some (r.1, i) else K96M.numd ((K96M.rounds G).take i) 0 (fun _ => none) x))) ∧ ∃ v, σ' = [some (.ref g), some (.ref d), some (nV i), some (.ref t), v, v4])
        ⟨e3.trans eT, hR4, eT _ _ hl3, hc, htr, hD3.upR eT fun x o q => ?_, v3, rfl⟩ (fun j σ' H5 _ ⟨_, _, _, q, _⟩ => SqL.of q) ?_ ?_⟩
      · rw [List.take_zero, if_neg (by simp)]
        exact q.tm (Tm.of eT)
      · rintro j y σ' H5 hj ⟨e5, hR5, hl5, hc5, ht5, hD5, v, rfl⟩
        obtain ⟨a, ha, rfl⟩ := map_at hj
        have han : a ∈ G.ns := hrm1.1 a (List.mem_of_getElem? ha)
        walk_at "go"
        refine w_ixT (SqT.of ht5) rfl ?_
        walk_at "go"
        refine ⟨szs (show 3 ≤ 100000 by decide), w_new fun q H6 hq e6 h6 => ?_⟩
        walk_at "go"
        have hD6 := hD5.upR e6 (R' := fun x o => LbR H6 o (ofN (if x ∈ r.2.take j then some (r.1, i) else K96M.numd ((K96M.rounds G).take i) 0 (fun _ => none) x))) fun x o q => q.tm (Tm.of e6)
        obtain ⟨H7, hput, hD7, o7, rfl⟩ := hD6.put (R' := fun x o => LbR H6 o (ofN (if x ∈ r.2.take (j + 1) then some (r.1, i) else K96M.numd ((K96M.rounds G).take i) 0 (fun _ => none) x))) (x := a) (v := .ref q) han (by omega) (by
          rw [tk ha, if_pos (by simp)]
          exact ⟨q, rfl, h6⟩) (fun y o hy z => by
          rw [tk ha]
          by_cases z1 : y ∈ r.2.take j
          · rw [if_pos z1] at z
            rw [if_pos (by simp [z1])]
            exact z
          · rw [if_neg z1] at z
            rw [if_neg (by simp [z1, hy])]
            exact z)
        refine ⟨d, _, rfl, hput, ?_⟩
        obtain ⟨kvs, hk, _⟩ := hD6
        have tm7 : Tm H6 (upd H6 d o7) := Tm.upd fun xs z => by rw [hk] at z; cases z
        have ne7 : ∀ {b : Addr} {u : HO}, H6 b = some u → (∀ k, u ≠ .dK k) → upd H6 d o7 b = some u := fun {b u} hb hu => by
          rw [upd_ne fun z => by subst z; rw [hk] at hb; exact hu kvs (Option.some.inj hb).symm]
          exact hb
        exact ⟨Ex.mut (e5.trans e6) hd, (hR5.up e6).updD hk, ne7 (e6 _ _ hl5) (fun k z => by cases z), ne7 (e6 _ _ hc5) (fun k z => by cases z), ne7 (e6 _ _ ht5) (fun k z => by cases z), hD7.mono rfl (fun x o z => z.tm tm7), _, rfl⟩
      · rintro σ' H5 ⟨e5, hR5, hl5, hc5, ht5, hD5, v, rfl⟩
        refine ⟨e5, hR5, hl5, hD5.mono rfl fun x o z => ?_, _, _, _, _, rfl⟩
        rw [List.length_map, List.take_length] at z
        rw [tk hr1, K96M.numd_snoc, Nat.zero_add, List.length_take, Nat.min_eq_left (Nat.le_of_lt (lt_of_at hr1))]
        exact z
    · rintro σ H3 ⟨e3, hR3, hl3, hD3, v1, v2, v3, v4, rfl⟩
      have hlen : (K96M.rounds G).take (ts.map V.ref).length = K96M.rounds G := List.take_of_length_le (by rw [List.length_map, Paired.length hpair]; exact Nat.le_refl _)
      rw [hlen] at hD3
      walk_at "go"
      refine w_dnewK fun d2 H4 hd2 e4 hd24 => ?_
      walk_at "go"
      obtain ⟨dx, _, _, hg4, _⟩ := hG.up (e3.trans e4)
      refine ⟨g, dx, _, rfl, hg4, rfl, ?_⟩
      walk_at "go"
      refine ⟨g, G, rfl, hG.up (e3.trans e4), fun p H5 hp e5 hP => ?_⟩
      have hpd : p ≠ d2 := fun z => by rw [z, hd24] at hp; cases hp
      have hdd : d ≠ d2 := fun z => by
        obtain ⟨kvs, q, _⟩ := hD3
        rw [z, hd2] at q
        cases q
      -- labels
      refine ⟨p, rfl, ⟨_, SqL.of hP⟩, for_list (K := K) (a := p) (xs := G.ns.map sV) (fun i σ' H6 => Ex H3 H6 ∧ LAt H6 p G.ns ∧ DR H6 d2 G.ns (fun x o => LbR H6 o (if x ∈ G.ns.take i then some (labF G x) else none)) ∧ ∃ v3, σ' = [some (.ref g), some (.ref d), v1, v2, v3, some (.ref d2)]) ⟨e4.trans e5, hP, DR.new (e5 _ _ hd24) fun x => ?_, v3, rfl⟩ (fun i σ' H6 _ ⟨_, q, _⟩ => SqL.of q) ?_ ?_⟩
      · rw [List.take_zero, if_neg (by simp)]
        rfl
      · rintro i y σ' H6 hi ⟨e6, hP6, hD6, v3, rfl⟩
        obtain ⟨a, ha, rfl⟩ := map_at hi
        have han : a ∈ G.ns := List.mem_of_getElem? ha
        have hDd := hD3.upR e6 (R' := fun x o => LbR H6 o (ofN (K96M.lab0 G x))) fun x o q => LbR.tm q (Tm.of e6)
        obtain ⟨o, ho, ro⟩ := hDd.get a
        have ro : LbR H6 o (ofN (K96M.lab0 G a)) := ro
        -- a store of a label that stands at t
        have store : ∀ (t : Addr) (H7 : Hp), Ex H6 H7 → LabAt H7 t (labF G a) → ∃ H8, DPut H7 d2 (.str a) (.ref t) H8 ∧ Ex H3 H8 ∧ LAt H8 p G.ns ∧ DR H8 d2 G.ns (fun x o => LbR H8 o (if x ∈ G.ns.take (i + 1) then some (labF G x) else none)) := fun t H7 e7 ht => by
          have hD7 := hD6.upR e7 (R' := fun x o => LbR H7 o (if x ∈ G.ns.take i then some (labF G x) else none)) fun x o q => q.tm (Tm.of e7)
          obtain ⟨H8, hput, hD8, o8, rfl⟩ := hD7.put (R' := fun x o => LbR H7 o (if x ∈ G.ns.take (i + 1) then some (labF G x) else none)) (x := a) (v := .ref t) han (by omega) (by
            rw [tk ha, if_pos (by simp)]
            exact ⟨t, rfl, ht⟩) (fun y o hy z => by
            rw [tk ha]
            by_cases z1 : y ∈ G.ns.take i
            · rw [if_pos z1] at z
              rw [if_pos (by simp [z1])]
              exact z
            · rw [if_neg z1] at z
              rw [if_neg (by simp [z1, hy])]
              exact z)
          obtain ⟨kvs, hk, _⟩ := hD7
          have tm8 : Tm H7 (upd H7 d2 o8) := Tm.upd fun xs z => by rw [hk] at z; cases z
          refine ⟨_, hput, Ex.mut (e6.trans e7) hd2, ?_, hD8.mono rfl fun x o z => z.tm tm8⟩
          show upd H7 d2 o8 p = _
          rw [upd_ne hpd]
          exact e7 _ _ hP6
        walk_at "go"
        refine ⟨d, o, rfl, ho, ?_⟩
        walk_at "go"
        cases hl0 : K96M.lab0 G a with
        | some q =>
          obtain ⟨n, s⟩ := q
          rw [hl0] at ro
          obtain ⟨t, rfl, ht⟩ := ro
          have ht' : LabAt H6 t (labF G a) := by unfold labF; rw [hl0]; exact ht
          refine brT rfl ?_
          walk_at "go"
          refine ⟨d, _, rfl, ho, ?_⟩
          walk_at "go"
          obtain ⟨H8, hput, q1, q2, q3⟩ := store t H6 (Ex.refl _) ht'
          exact ⟨d2, H8, rfl, hput, q1, q2, q3, _, rfl⟩
        | none =>
          rw [hl0] at ro
          have ro : o = none := ro
          subst ro
          refine brF rfl ?_
          walk_at "go"
          have hLk : LooksAt H6 d (G.rd a) fun x => ofN (K96M.lab0 G x) := by
            obtain ⟨kvs, h1, _, _, h4⟩ := hDd
            exact ⟨kvs, h1, fun b _ => h4 b⟩
          refine ⟨g, d, G, _, a, rfl, hG.up (e3.trans e6), gok, han, hLk, fun u H7 hu7 e7 h7 => ?_⟩
          have hbs : ((G.rd a).filterMap fun b => numL (ofN (K96M.lab0 G b))) = besF G a := by
            unfold besF
            congr 1
            funext b
            exact numL_ofN _
          rw [hbs] at h7
          refine ⟨u, besF G a, rfl, SqL.of h7, fun n hn => ?_, ?_⟩
          · obtain ⟨b, hb, e⟩ := List.mem_filterMap.mp hn
            cases q : K96M.lab0 G b with
            | none => rw [q] at e; cases e
            | some z =>
              obtain ⟨n', s'⟩ := z
              rw [q] at e
              have e : n' = n := Option.some.inj e
              have := good.most b n' s' q
              omega
          walk_at "go"
          refine ⟨szs (show 2 ≤ 100000 by decide), w_new fun t H8 ht e8 h8 => ?_⟩
          walk_at "go"
          have ht' : LabAt H8 t (labF G a) := by unfold labF; rw [hl0]; exact h8
          obtain ⟨H9, hput, q1, q2, q3⟩ := store t H8 (e7.trans e8) ht'
          exact ⟨d2, H9, rfl, hput, q1, q2, q3, _, rfl⟩
      · rintro σ' H6 ⟨e6, hP6, hD6, v3, rfl⟩
        walk_at "go"
        rw [List.length_map, List.take_length] at hD6
        refine k d2 H6 (e3.trans e6) ?_
        obtain ⟨kvs, h1, _, _, h4⟩ := hD6
        refine ⟨kvs, h1, fun b hb => ?_⟩
        have q : LbR H6 (valV kvs (Sum.inr b)) (if b ∈ G.ns then some (labF G b) else none) := h4 b
        rw [if_pos hb] at q
        exact q
/-! ### open_road -/
theorem besF_eq (G : G0) (a : Str) : ((G.rd a).filterMap fun b => numL (some (labF G b))) = besF G a := by
  unfold besF
  congr 1
  funext b
  unfold labF
  cases K96M.lab0 G b with
  | none => rfl
  | some q => obtain ⟨n, s⟩ := q; rfl
def sp_open_road (K : PySem.W.Frag) : Sp := fun vs H Q _ => ∃ (g : Addr) (G : G0) (a : Str) (c : Nat), vs = [.ref g, .str a] ∧ GAt K H g G ∧ GOk G ∧ Txt G ∧ a ∈ G.ns ∧ labF G a = .endl c ∧
  ∀ t H2 o b, Ex H H2 → o ∈ G.rd a → labF G o = .endl b → b.testBit (mex (besF G a)) = false → H2 t = some (.tup [nV (mex (besF G a)), .str o]) → Q (.ref t) H2
theorem sc_open_road : FnScope ["ground", "name", "roads", "labels", "number", "other"] ["ground", "name"] (defScope s_open_road) := ⟨rfl, rfl, rfl, by decide +kernel, rfl, by decide +kernel, by decide +kernel⟩
theorem D_open_road (T : Tx K mg) : Def P w K mg base 6 (He.ga K "open_road") ["ground", "name"] (sp_open_road K) := by
  refine Def.make T (d := d_open_road) 24 rfl rfl rfl sc_open_road (fun _ _ _ _ _ _ us hl => match us, hl with | [_, _], _ => rfl) (fun vs H Q E h => ?_) (fun cdv A outer s H vs Q E hr h => ?_)
  · obtain ⟨g, G, a, c, rfl, _⟩ := h
    rfl
  · obtain ⟨g, G, a, c, rfl, hG, gok, tx, ha, hla, k⟩ := h
    have nd := sc_open_road.nd
    have hu := hu_of hr
    have good := K96M.good_of gok.ok
    obtain ⟨dx, _, _, hg, _⟩ := id hG
    refine ⟨_, (pss_cons (ps_set (i := 2) nd rfl (Or.inl rfl) (pe_methX (D_Ground_roads_from T) (hr.mono (by decide)) T.c_Ground T.m_Ground_roads_from (pv 0) (pa_cons (pv 1) pa_nil)))
    (pss_cons (ps_set (i := 3) nd rfl (Or.inl rfl) (pe_callX (D_labels_of T) (hr.mono (by decide)) rfl T.g_labels_of (pa_cons (pv 0) pa_nil)))
    (pss_cons (ps_if (pt_cmpR op_eq (pe_ix ix_tup (pe_dget hu (pv 3) (pv 1) (fun _ _ => rfl)) pe_int (fun _ _ => rfl)) pe_str (nomark _)) (pss_one (ps_ret pe_non)) pss_nil)
    (pss_cons (ps_set (i := 4) nd rfl (Or.inl rfl) (pe_callX (D_lacking T) (hr.mono (by decide)) rfl T.g_lacking (pa_cons (pe_callX (D_numbers_beside T) (hr.mono (by decide)) rfl T.g_numbers_beside (pa_cons (pv 0) (pa_cons (pv 3) (pa_cons (pv 1) pa_nil)))) pa_nil)))
    (pss_cons (ps_for PassesOwn.never rfl (pi_list (pv 2)) (pg_name (i := 5) nd rfl (Or.inl rfl))
    (pss_one (ps_if (PW.pt (pw_and (pt_cmpR op_eq (pe_ix ix_tup (pe_dget hu (pv 3) (pv 5) (fun _ _ => rfl)) pe_int (fun _ _ => rfl)) pe_str (nomark _)) (pw_and1 (pt_cmpR op_eq (pe_op op_and (pe_op op_shr (pe_ix ix_tup (pe_dget hu (pv 3) (pv 5) (fun _ _ => rfl)) pe_int (fun _ _ => rfl)) (pv 4)) pe_int) pe_int (nomark _))))) (pss_one (ps_ret (PE.nm (pe_tup (pa_cons (pv 4) (pa_cons (pv 5) pa_nil)))))) pss_nil)))
    (pss_one (ps_ret pe_non))))))), ?_⟩
    walk_at "go"
    refine ⟨g, dx, _, rfl, hg, rfl, ?_⟩
    walk_at "go"
    refine ⟨g, G, a, rfl, hG, ha, fun p H1 hp e1 hP => ?_⟩
    walk_at "go"
    refine ⟨g, G, rfl, hG.up e1, gok, tx, fun d H2 e2 hL => ?_⟩
    have e12 := e1.trans e2
    walk_at "go"
    obtain ⟨t, ht, hta⟩ := hL.get ha
    refine ⟨d, _, rfl, ht, ?_⟩
    walk_at "go"
    rw [hla] at hta
    refine w_ixT (SqT.of hta) rfl ?_
    walk_at "go"
    refine brF ne_en ?_
    walk_at "go"
    obtain ⟨kvs, hk, hkl⟩ := id hL
    refine ⟨g, d, G, fun x => some (labF G x), a, rfl, hG.up e12, gok, ha, ⟨kvs, hk, fun b hb => hkl b (gok.ok.cl a ha b hb)⟩, fun u H3 hu3 e3 h3 => ?_⟩
    walk_at "go"
    rw [besF_eq] at h3
    refine ⟨u, besF G a, rfl, SqL.of h3, ?_⟩
    walk_at "go"
    have hmx := mex_spec (besF G a)
    generalize hm : mex (besF G a) = m at hmx k
    have e13 := e12.trans e3
    have hP3 : LAt H3 p (G.rd a) := e3 _ _ (e2 _ _ hP)
    have hL3 := hL.up e3
    refine ⟨p, rfl, ⟨_, SqL.of hP3⟩, for_list (K := K) (a := p) (xs := (G.rd a).map sV) (fun i σ' H4 => H4 = H3 ∧ (∀ o ∈ (G.rd a).take i, ∀ b, labF G o = .endl b → b.testBit m = true) ∧ ∃ v, σ' = [some (.ref g), some (.str a), some (.ref p), some (.ref d), some (nV m), v]) ⟨rfl, fun o ho => (by rw [List.take_zero] at ho; cases ho), none, rfl⟩ (fun i σ' H4 _ ⟨e, _⟩ => by rw [e]; exact SqL.of hP3) ?_ ?_⟩
    · rintro i y σ' H4 hi ⟨rfl, hno, v, rfl⟩
      obtain ⟨o, ho, rfl⟩ := map_at hi
      have hom : o ∈ G.rd a := List.mem_of_getElem? ho
      obtain ⟨t2, ht2, hto⟩ := hL3.get (gok.ok.cl a ha o hom)
      have more : (∀ b, labF G o = .endl b → b.testBit m = true) → ∀ o ∈ (G.rd a).take (i + 1), ∀ b, labF G o = .endl b → b.testBit m = true := fun h o' ho' => by
        rw [tk ho] at ho'
        rcases List.mem_append.mp ho' with q | q
        · exact hno o' q
        · rw [List.mem_singleton.mp q]; exact h
      walk_at "go"
      refine ⟨d, _, rfl, ht2, ?_⟩
      walk_at "go"
      cases hlo : labF G o with
      | num n s =>
        rw [hlo] at hto
        refine w_ixT (SqT.of hto) rfl ?_
        walk_at "go"
        refine brF ne_ne ?_
        refine brF rfl ?_
        walk_at "go"
        exact ⟨rfl, more fun b z => (by rw [hlo] at z; cases z), _, rfl⟩
      | endl b =>
        rw [hlo] at hto
        refine w_ixT (SqT.of hto) rfl ?_
        walk_at "go"
        refine brT (decide_eq_true rfl) ?_
        walk_at "go"
        refine ⟨d, _, rfl, ht2, ?_⟩
        walk_at "go"
        refine w_ixT (SqT.of hto) rfl ?_
        walk_at "go"
        refine w_I (Int.natCast_nonneg m) ?_
        walk_at "go"
        have e2 : decide (V.int (Builtin.bitAnd ((b : Int) / 2 ^ ((m : Nat) : Int).toNat) 1) = V.int 0) = !b.testBit m := by
          rw [show (b : Int) / 2 ^ ((m : Nat) : Int).toNat = ((b / 2 ^ m : Nat) : Int) by simp, bitAnd_m1, Nat.testBit_eq_decide_div_mod_eq]
          by_cases z : b / 2 ^ m % 2 = 1
          · rw [decide_eq_true z]
            refine decide_eq_false fun q => ?_
            have := V.int.inj q
            omega
          · rw [decide_eq_false z]
            refine decide_eq_true (congrArg V.int ?_)
            omega
        rw [e2]
        refine br (fun z => ?_) (fun z => ?_)
        · walk_at "go"
          refine ⟨szs (show 2 ≤ 100000 by decide), w_new fun q H5 hq e5 h5 => ?_⟩
          exact k q H5 o b (e13.trans e5) hom hlo (by simpa using z) h5
        · walk_at "go"
          exact ⟨rfl, more fun b' z' => (by rw [hlo] at z'; injection z' with z'; subst z'; simpa using z), _, rfl⟩
    · rintro σ' H4 ⟨rfl, hno, v, rfl⟩
      rw [List.length_map, List.take_length] at hno
      -- there is such a road
      exfalso
      have hl0 : K96M.lab0 G a = none := by
        unfold labF at hla
        cases q : K96M.lab0 G a with
        | none => rfl
        | some z => rw [q] at hla; cases hla
      have bes : ∀ x l, l ∈ besF G x ↔ ∃ b ∈ G.rd x, ∃ s, K96M.lab0 G b = some (l, s) := fun x l => by
        unfold besF
        rw [List.mem_filterMap]
        constructor
        · rintro ⟨b, hb, e⟩
          cases q : K96M.lab0 G b with
          | none => rw [q] at e; cases e
          | some z =>
            obtain ⟨n, s⟩ := z
            rw [q] at e
            have e : n = l := Option.some.inj e
            exact ⟨b, hb, s, by rw [e] at q; exact q⟩
        · rintro ⟨b, hb, s, e⟩
          exact ⟨b, hb, by rw [e]; rfl⟩
      obtain ⟨m', q1, q2, o, ho, ho0, q3⟩ := good.open_ a ha hl0
      have em : m' = m := by
        rw [← hm]
        refine (mex_uniq (fun l hl => (bes a l).mpr (q1 l hl)) fun z => ?_).symm
        obtain ⟨b, hb, s, e⟩ := (bes a m').mp z
        exact q2 b hb s e
      subst em
      have hlo : labF G o = .endl (setOf (besF G o)) := by unfold labF; rw [ho0]
      have := hno o ho _ hlo
      rw [setOf_bit] at this
      obtain ⟨b, hb, s, e⟩ := (bes o m').mp (of_decide_eq_true this)
      exact q3 b hb s e
end
end K96

set_option Elab.async false
set_option linter.all false
set_option maxRecDepth 100000
set_option maxHeartbeats 4000000
/-! K96N: the plain law of heaps: what worths tell, which moves there are. No program here. -/
namespace K96
open PySem
open K96M (Gr)
/-! ### labels as numbers -/
def numF (G : G0) (x : Str) : Option Nat := (K96M.lab0 G x).map (·.1)
def nz (G : G0) (x : Str) : Nat := (numF G x).getD 0
def stepF (G : G0) (x : Str) : Nat := match K96M.lab0 G x with
  | some (_, s) => s
  | none => 0
def stepsF (G : G0) (hs : List Str) : Nat := (hs.map (stepF G)).sum
def isE (G : G0) (x : Str) : Bool := (K96M.lab0 G x).isNone
def ends (G : G0) (hs : List Str) : List Str := hs.filter (isE G)
def xr (G : G0) (hs : List Str) : Nat := xorL (hs.map (nz G))
def wtL : Lab → Wt
  | .num n _ => .n n
  | .endl b => .e b
def wtF (G : G0) (hs : List Str) : Wt := sumW (hs.map fun x => wtL (labF G x))
abbrev ocF (G : G0) (hs : List Str) : Str := oc (wtF G hs)
theorem lab_num {G : G0} {x : Str} {n s : Nat} (h : K96M.lab0 G x = some (n, s)) : labF G x = .num n s ∧ nz G x = n ∧ stepF G x = s ∧ isE G x = false ∧ numF G x = some n := by
  unfold labF nz stepF isE numF
  rw [h]
  exact ⟨rfl, rfl, rfl, rfl, rfl⟩
theorem lab_end {G : G0} {x : Str} (h : K96M.lab0 G x = none) : labF G x = .endl (setOf (besF G x)) ∧ nz G x = 0 ∧ stepF G x = 0 ∧ isE G x = true ∧ numF G x = none := by
  unfold labF nz stepF isE numF
  rw [h]
  exact ⟨rfl, rfl, rfl, rfl, rfl⟩
theorem mem_bes {G : G0} {x : Str} {l : Nat} : l ∈ besF G x ↔ ∃ b ∈ G.rd x, ∃ s, K96M.lab0 G b = some (l, s) := by
  unfold besF
  rw [List.mem_filterMap]
  constructor
  · rintro ⟨b, hb, e⟩
    cases q : K96M.lab0 G b with
    | none => rw [q] at e; cases e
    | some z =>
      obtain ⟨n, s⟩ := z
      rw [q] at e
      have e : n = l := Option.some.inj e
      exact ⟨b, hb, s, by rw [e] at q; exact q⟩
  · rintro ⟨b, hb, s, e⟩
    exact ⟨b, hb, by rw [e]; rfl⟩
theorem lab_lt {G : G0} (gok : GOk G) {x : Str} {n s : Nat} (h : K96M.lab0 G x = some (n, s)) : n < 9 := Nat.lt_of_lt_of_le ((K96M.good_of gok.ok).most x n s h) gok.many
theorem nz_lt {G : G0} (gok : GOk G) (x : Str) : nz G x < 16 := by
  cases h : K96M.lab0 G x with
  | none => rw [(lab_end h).2.1]; decide
  | some q =>
    obtain ⟨n, s⟩ := q
    rw [(lab_num h).2.1]
    have := lab_lt gok h
    omega
theorem bes_lt {G : G0} (gok : GOk G) {x : Str} {l : Nat} (h : l ∈ besF G x) : l < 9 := by
  obtain ⟨b, _, s, e⟩ := mem_bes.mp h
  exact lab_lt gok e
/-! ### sums by bits -/
theorem xorL_from (ns : List Nat) : ∀ a, ns.foldl (fun a b => a ^^^ b) a = a ^^^ xorL ns := by
  unfold xorL
  induction ns with
  | nil => intro a; simp
  | cons n r ih =>
    intro a
    rw [List.foldl_cons, List.foldl_cons, ih, ih (0 ^^^ n), Nat.zero_xor, Nat.xor_assoc]
theorem xorL_cons (n : Nat) (r : List Nat) : xorL (n :: r) = n ^^^ xorL r := by
  show r.foldl _ (0 ^^^ n) = _
  rw [xorL_from, Nat.zero_xor]
theorem xorL_app (a b : List Nat) : xorL (a ++ b) = xorL a ^^^ xorL b := by
  show (a ++ b).foldl _ 0 = _
  rw [List.foldl_append, xorL_from]
  rfl
theorem xorL_lt {ns : List Nat} (h : ∀ n ∈ ns, n < 16) : xorL ns < 16 := by
  induction ns with
  | nil => decide
  | cons n r ih =>
    rw [xorL_cons]
    exact Nat.xor_lt_two_pow (n := 4) (h n (List.mem_cons_self ..)) (ih fun m hm => h m (List.mem_cons_of_mem _ hm))
theorem xr_app (G : G0) (L R : List Str) : xr G (L ++ R) = xr G L ^^^ xr G R := by
  unfold xr; rw [List.map_append, xorL_app]
theorem xr_cons (G : G0) (a : Str) (R : List Str) : xr G (a :: R) = nz G a ^^^ xr G R := by
  unfold xr; rw [List.map_cons, xorL_cons]
theorem xr_lt {G : G0} (gok : GOk G) (hs : List Str) : xr G hs < 16 := xorL_lt fun n hn => by
  obtain ⟨x, _, rfl⟩ := List.mem_map.mp hn
  exact nz_lt gok x
theorem xr_mid (G : G0) (L : List Str) (a : Str) (R : List Str) : xr G (L ++ a :: R) = nz G a ^^^ (xr G L ^^^ xr G R) := by
  rw [xr_app, xr_cons, ← Nat.xor_assoc, Nat.xor_comm (xr G L), Nat.xor_assoc]
theorem ends_app (G : G0) (L R : List Str) : ends G (L ++ R) = ends G L ++ ends G R := List.filter_append ..
theorem ends_cons_n {G : G0} {a : Str} {R : List Str} (h : isE G a = false) : ends G (a :: R) = ends G R := by
  unfold ends; rw [List.filter_cons, if_neg (by rw [h]; decide)]
theorem ends_cons_e {G : G0} {a : Str} {R : List Str} (h : isE G a = true) : ends G (a :: R) = a :: ends G R := by
  unfold ends; rw [List.filter_cons, if_pos h]
/-- the sum by bits of the numbered alone -/
theorem xr_fm (G : G0) (hs : List Str) : xorL (hs.filterMap (numF G)) = xr G hs := by
  induction hs with
  | nil => rfl
  | cons a r ih =>
    rw [xr_cons, List.filterMap_cons]
    cases h : K96M.lab0 G a with
    | none =>
      obtain ⟨_, h2, _, _, h5⟩ := lab_end h
      rw [h5, h2, Nat.zero_xor]
      exact ih
    | some q =>
      obtain ⟨n, s⟩ := q
      obtain ⟨_, h2, _, _, h5⟩ := lab_num h
      rw [h5, h2, ← ih]
      exact xorL_cons n _
/-! ### the worth of a heap -/
def Rel (w : Wt) (x : Nat) : List Nat → Prop
  | [] => w = .n x
  | [b] => ∃ c, w = .e c ∧ ∀ k, k < 16 → c.testBit k = b.testBit (k ^^^ x)
  | _ :: _ :: _ => w = .e 0
def bitsE : Lab → List Nat
  | .num _ _ => []
  | .endl b => [b]
def numZ : Lab → Nat
  | .num n _ => n
  | .endl _ => 0
theorem turn_zero (n : Nat) : turn 0 n = 0 := by
  unfold turn numsIn
  have e : (List.range 16).filter (Nat.testBit 0) = [] := by decide
  rw [e]
  rfl
theorem rel_fold : ∀ (ls : List Lab) (w : Wt) (x : Nat) (es : List Nat), (∀ L ∈ ls, numZ L < 16) → x < 16 → Rel w x es → Rel ((ls.map wtL).foldl Wt.plus w) (x ^^^ xorL (ls.map numZ)) (es ++ ls.flatMap bitsE)
  | [], w, x, es, _, _, h => by
    show Rel w (x ^^^ 0) (es ++ [])
    rw [Nat.xor_zero, List.append_nil]
    exact h
  | .num n s :: r, w, x, es, hl, hx, h => by
    have hn : n < 16 := hl _ (List.mem_cons_self ..)
    have e1 : x ^^^ xorL ((Lab.num n s :: r).map numZ) = (x ^^^ n) ^^^ xorL (r.map numZ) := by
      rw [List.map_cons, xorL_cons, ← Nat.xor_assoc]
      rfl
    rw [e1]
    refine rel_fold r (w.plus (.n n)) (x ^^^ n) es (fun L hL => hl L (List.mem_cons_of_mem _ hL)) (Nat.xor_lt_two_pow (n := 4) hx hn) ?_
    match es, h with
    | [], h =>
      have h : w = .n x := h
      subst h
      rfl
    | [b], h =>
      obtain ⟨c, rfl, hc⟩ := h
      refine ⟨turn c n, rfl, fun k hk => ?_⟩
      rw [turn_bit hn hk, hc _ (Nat.xor_lt_two_pow (n := 4) hk hn), Nat.xor_assoc, Nat.xor_comm n x]
    | b1 :: b2 :: t, h =>
      have h : w = .e 0 := h
      subst h
      show Wt.e (turn 0 n) = .e 0
      rw [turn_zero]
  | .endl b :: r, w, x, es, hl, hx, h => by
    have e1 : x ^^^ xorL ((Lab.endl b :: r).map numZ) = x ^^^ xorL (r.map numZ) := by
      rw [List.map_cons, xorL_cons]
      show x ^^^ (0 ^^^ _) = _
      rw [Nat.zero_xor]
    have e2 : es ++ (Lab.endl b :: r).flatMap bitsE = (es ++ [b]) ++ r.flatMap bitsE := by
      rw [List.flatMap_cons, ← List.append_assoc]
      rfl
    rw [e1, e2]
    refine rel_fold r (w.plus (.e b)) x (es ++ [b]) (fun L hL => hl L (List.mem_cons_of_mem _ hL)) hx ?_
    match es, h with
    | [], h =>
      have h : w = .n x := h
      subst h
      exact ⟨turn b x, rfl, fun k hk => turn_bit hx hk⟩
    | [b1], h =>
      obtain ⟨c, rfl, hc⟩ := h
      rfl
    | b1 :: b2 :: t, h =>
      have h : w = .e 0 := h
      subst h
      rfl
theorem rel_heap {G : G0} (gok : GOk G) (hs : List Str) : Rel (wtF G hs) (xr G hs) ((ends G hs).map fun x => setOf (besF G x)) := by
  have h := rel_fold (hs.map (labF G)) (.n 0) 0 [] (fun L hL => by
    obtain ⟨x, _, rfl⟩ := List.mem_map.mp hL
    cases h : K96M.lab0 G x with
    | none => rw [(lab_end h).1]; show 0 < 16; decide
    | some q => obtain ⟨n, s⟩ := q; rw [(lab_num h).1]; have := lab_lt gok h; show n < 16; omega) (by decide) rfl
  have e1 : 0 ^^^ xorL ((hs.map (labF G)).map numZ) = xr G hs := by
    rw [Nat.zero_xor, List.map_map]
    unfold xr
    congr 1
    refine List.map_congr_left fun x _ => ?_
    cases h : K96M.lab0 G x with
    | none => show numZ (labF G x) = _; rw [(lab_end h).1, (lab_end h).2.1]; rfl
    | some q => obtain ⟨n, s⟩ := q; show numZ (labF G x) = _; rw [(lab_num h).1, (lab_num h).2.1]; rfl
  have e2 : ([] : List Nat) ++ (hs.map (labF G)).flatMap bitsE = (ends G hs).map fun x => setOf (besF G x) := by
    rw [List.nil_append]
    clear h e1
    induction hs with
    | nil => rfl
    | cons a r ih =>
      rw [List.map_cons, List.flatMap_cons, ih]
      cases h : K96M.lab0 G a with
      | none =>
        rw [(lab_end h).1, ends_cons_e (lab_end h).2.2.2.1]
        rfl
      | some q =>
        obtain ⟨n, s⟩ := q
        rw [(lab_num h).1, ends_cons_n (lab_num h).2.2.2.1]
        rfl
  rw [e1, e2] at h
  unfold wtF sumW
  rw [List.map_map] at h
  exact h
/-! ### outcomes -/
theorem s_lw : ("lost" : Str) ≠ "won" := by decide +kernel
theorem s_ld : ("lost" : Str) ≠ "drawn" := by decide +kernel
theorem s_wd : ("won" : Str) ≠ "drawn" := by decide +kernel
inductive Kind (G : G0) (hs : List Str) : Str → Prop where
  | lost : ends G hs = [] → xr G hs = 0 → Kind G hs "lost"
  | won0 : ends G hs = [] → xr G hs ≠ 0 → Kind G hs "won"
  | won1 (x : Str) : ends G hs = [x] → xr G hs ∈ besF G x → Kind G hs "won"
  | drawn1 (x : Str) : ends G hs = [x] → xr G hs ∉ besF G x → Kind G hs "drawn"
  | drawn2 (x y : Str) (r : List Str) : ends G hs = x :: y :: r → Kind G hs "drawn"
theorem kind {G : G0} (gok : GOk G) (hs : List Str) : Kind G hs (ocF G hs) := by
  have h := rel_heap gok hs
  unfold ocF
  match e : ends G hs with
  | [] =>
    rw [e] at h
    have h : wtF G hs = .n (xr G hs) := h
    rw [h]
    by_cases z : xr G hs = 0
    · have q : oc (.n (xr G hs)) = "lost" := if_pos z
      rw [q]
      exact .lost e z
    · have q : oc (.n (xr G hs)) = "won" := if_neg z
      rw [q]
      exact .won0 e z
  | [x] =>
    rw [e] at h
    obtain ⟨c, hc, hb⟩ := h
    rw [hc]
    have hb0 := hb 0 (by decide)
    rw [Nat.zero_xor, setOf_bit] at hb0
    by_cases z : xr G hs ∈ besF G x
    · rw [decide_eq_true z] at hb0
      have q : oc (.e c) = "won" := if_pos hb0
      rw [q]
      exact .won1 x e z
    · rw [decide_eq_false z] at hb0
      have q : oc (.e c) = "drawn" := if_neg (by rw [hb0]; decide)
      rw [q]
      exact .drawn1 x e z
  | x :: y :: r =>
    rw [e] at h
    have h : wtF G hs = .e 0 := h
    rw [h]
    have q : oc (.e 0) = "drawn" := by
      show (if (0 : Nat).testBit 0 = true then ("won" : Str) else "drawn") = "drawn"
      rw [if_neg (by decide)]
    rw [q]
    exact .drawn2 x y r e
theorem is_lost {G : G0} (gok : GOk G) {hs : List Str} : ocF G hs = "lost" ↔ ends G hs = [] ∧ xr G hs = 0 := by
  have h := kind gok hs
  constructor
  · intro e
    rw [e] at h
    generalize hz : ("lost" : Str) = z at h
    cases h with
    | lost a b => exact ⟨a, b⟩
    | won0 a b => exact absurd hz s_lw
    | won1 x a b => exact absurd hz s_lw
    | drawn1 x a b => exact absurd hz s_ld
    | drawn2 x y r a => exact absurd hz s_ld
  · rintro ⟨a, b⟩
    generalize hz : ocF G hs = z at h
    cases h with
    | lost a b => rfl
    | won0 _ b' => exact absurd b b'
    | won1 x a' b' => rw [a] at a'; cases a'
    | drawn1 x a' b' => rw [a] at a'; cases a'
    | drawn2 x y r a' => rw [a] at a'; cases a'
theorem is_won {G : G0} (gok : GOk G) {hs : List Str} : ocF G hs = "won" ↔ (ends G hs = [] ∧ xr G hs ≠ 0) ∨ ∃ x, ends G hs = [x] ∧ xr G hs ∈ besF G x := by
  have h := kind gok hs
  constructor
  · intro e
    rw [e] at h
    generalize hz : ("won" : Str) = z at h
    cases h with
    | lost a b => exact absurd hz.symm s_lw
    | won0 a b => exact .inl ⟨a, b⟩
    | won1 x a b => exact .inr ⟨x, a, b⟩
    | drawn1 x a b => exact absurd hz s_wd
    | drawn2 x y r a => exact absurd hz s_wd
  · intro q
    generalize hz : ocF G hs = z at h
    cases h with
    | lost a b =>
      rcases q with ⟨_, q⟩ | ⟨x, q, _⟩
      · exact absurd b q
      · rw [a] at q; cases q
    | won0 _ b' => rfl
    | won1 x a' b' => rfl
    | drawn1 x a b =>
      rcases q with ⟨q, _⟩ | ⟨y, q, q2⟩
      · rw [a] at q; cases q
      · rw [a] at q; cases q; exact absurd q2 b
    | drawn2 x y r a =>
      rcases q with ⟨q, _⟩ | ⟨y, q, q2⟩
      · rw [a] at q; cases q
      · rw [a] at q; cases q
theorem is_drawn {G : G0} (gok : GOk G) {hs : List Str} : ocF G hs = "drawn" ↔ (∃ x, ends G hs = [x] ∧ xr G hs ∉ besF G x) ∨ ∃ x y r, ends G hs = x :: y :: r := by
  have h := kind gok hs
  constructor
  · intro e
    rw [e] at h
    generalize hz : ("drawn" : Str) = z at h
    cases h with
    | lost a b => exact absurd hz.symm s_ld
    | won0 a b => exact absurd hz.symm s_wd
    | won1 x a b => exact absurd hz.symm s_wd
    | drawn1 x a b => exact .inl ⟨x, a, b⟩
    | drawn2 x y r a => exact .inr ⟨x, y, r, a⟩
  · intro q
    generalize hz : ocF G hs = z at h
    cases h with
    | lost a b => rcases q with ⟨x, q, _⟩ | ⟨x, y, r, q⟩ <;> (rw [a] at q; cases q)
    | won0 a b => rcases q with ⟨x, q, _⟩ | ⟨x, y, r, q⟩ <;> (rw [a] at q; cases q)
    | won1 x a b =>
      rcases q with ⟨x, q, q2⟩ | ⟨x, y, r, q⟩
      · rw [a] at q; cases q; exact absurd b q2
      · rw [a] at q; cases q
    | drawn1 x a b => rfl
    | drawn2 x y r a => rfl
/-- one of three -/
theorem three {G : G0} (gok : GOk G) (hs : List Str) : ocF G hs = "lost" ∨ ocF G hs = "won" ∨ ocF G hs = "drawn" := by
  have h := kind gok hs
  generalize ocF G hs = z at h
  cases h with
  | lost _ _ => exact .inl rfl
  | won0 _ _ => exact .inr (.inl rfl)
  | won1 _ _ _ => exact .inr (.inl rfl)
  | drawn1 _ _ _ => exact .inr (.inr rfl)
  | drawn2 _ _ _ _ => exact .inr (.inr rfl)
/-! ### one token moved -/
theorem cut_at {hs : List Str} {i : Nat} {a : Str} (h : hs[i]? = some a) : hs = hs.take i ++ a :: hs.drop (i + 1) ∧ ∀ b, hs.set i b = hs.take i ++ b :: hs.drop (i + 1) := by
  have hi := (List.getElem?_eq_some_iff.mp h).1
  have e : hs[i] = a := (List.getElem?_eq_some_iff.mp h).2
  refine ⟨?_, fun b => ?_⟩
  · have := List.take_append_drop i hs
    rw [List.drop_eq_getElem_cons hi, e] at this
    exact this.symm
  · rw [List.set_eq_take_append_cons_drop, if_pos hi]
theorem steps_mid (G : G0) (L : List Str) (a : Str) (R : List Str) : stepsF G (L ++ a :: R) = stepF G a + (stepsF G L + stepsF G R) := by
  unfold stepsF
  rw [List.map_append, List.map_cons, List.sum_append, List.sum_cons]
  omega
/-- all that leave a lost heap -/
def mlF (G : G0) (hs : List Str) : List (Nat × Str) := (movesF G hs).filter fun m => decide (ocF G (hs.set m.1 m.2) = "lost")
theorem mem_mlF {G : G0} {hs : List Str} {m : Nat × Str} : m ∈ mlF G hs ↔ m ∈ movesF G hs ∧ ocF G (hs.set m.1 m.2) = "lost" := by
  unfold mlF
  rw [List.mem_filter, decide_eq_true_eq]
theorem xor_ne {a b : Nat} (h : a ≠ b) : a ^^^ b ≠ 0 := fun q => h (by
  have : a ^^^ b ^^^ b = 0 ^^^ b := by rw [q]
  rw [Nat.xor_assoc, Nat.xor_self, Nat.xor_zero, Nat.zero_xor] at this
  exact this)
theorem xor_eq {a b : Nat} (h : a ^^^ b = 0) : a = b := Classical.byContradiction fun q => xor_ne q h
theorem lt_of_bit {x y : Nat} (d : Nat) (hx : x.testBit d = false) (hy : y.testBit d = true) (h : ∀ j, d < j → x.testBit j = y.testBit j) : x < y := by
  have e : x / 2 ^ (d + 1) = y / 2 ^ (d + 1) := Nat.eq_of_testBit_eq fun i => by
    rw [Nat.testBit_div_two_pow, Nat.testBit_div_two_pow]
    exact h _ (by omega)
  have h1 : x % 2 ^ (d + 1) < 2 ^ d := Nat.lt_pow_two_of_testBit _ fun i hi => by
    rw [Nat.testBit_mod_two_pow]
    by_cases q : i = d
    · rw [q, hx, Bool.and_false]
    · rw [decide_eq_false (by omega), Bool.false_and]
  have h2 : 2 ^ d ≤ y % 2 ^ (d + 1) := Nat.ge_two_pow_of_testBit (by
    rw [Nat.testBit_mod_two_pow, hy, decide_eq_true (by omega)]
    rfl)
  have a1 := Nat.div_add_mod x (2 ^ (d + 1))
  have a2 := Nat.div_add_mod y (2 ^ (d + 1))
  rw [e] at a1
  omega
/-- the rule of sums by bits -/
theorem nim {ns : List Nat} {m : Nat} (h : m < xorL ns) : ∃ (i : Nat) (k : Nat), ns[i]? = some k ∧ k ^^^ (xorL ns ^^^ m) < k := by
  have hy : xorL ns ^^^ m ≠ 0 := xor_ne (by omega)
  have hd1 : (xorL ns ^^^ m).testBit (xorL ns ^^^ m).log2 = true := Nat.testBit_log2 hy
  have hd2 : ∀ j, (xorL ns ^^^ m).log2 < j → (xorL ns ^^^ m).testBit j = false := fun j hj => Nat.testBit_lt_two_pow ((Nat.log2_lt hy).mp hj)
  generalize (xorL ns ^^^ m).log2 = d at hd1 hd2
  have hx : (xorL ns).testBit d = true := by
    cases q : (xorL ns).testBit d with
    | true => rfl
    | false =>
      exfalso
      rw [Nat.testBit_xor, q, Bool.false_xor] at hd1
      have : xorL ns < m := lt_of_bit d q hd1 fun j hj => by
        have := hd2 j hj
        rw [Nat.testBit_xor] at this
        cases e1 : (xorL ns).testBit j <;> cases e2 : m.testBit j <;> rw [e1, e2] at this <;> first | rfl | cases this
      omega
  have key : ∀ (ns : List Nat), (xorL ns).testBit d = true → ∃ (i : Nat) (k : Nat), ns[i]? = some k ∧ k.testBit d = true := by
    intro ns
    induction ns with
    | nil => intro h; simp [xorL] at h
    | cons n r ih =>
      intro h
      rw [xorL_cons, Nat.testBit_xor] at h
      cases q : n.testBit d with
      | true => exact ⟨0, n, rfl, q⟩
      | false =>
        rw [q, Bool.false_xor] at h
        obtain ⟨i, k, h1, h2⟩ := ih h
        exact ⟨i + 1, k, h1, h2⟩
  obtain ⟨i, k, h1, h2⟩ := key ns hx
  refine ⟨i, k, h1, lt_of_bit d ?_ h2 fun j hj => ?_⟩
  · rw [Nat.testBit_xor, h2, hd1]
    rfl
  · rw [Nat.testBit_xor, hd2 j hj, Bool.xor_false]
/-- a numbered token goes so that the sum is m -/
theorem nim_move {G : G0} (gok : GOk G) {hs : List Str} (ho : ∀ x ∈ hs, x ∈ G.ns) {m : Nat} (h : m < xr G hs) :
    ∃ (i : Nat) (a b : Str) (n s t : Nat), hs[i]? = some a ∧ K96M.lab0 G a = some (n, s) ∧ b ∈ G.rd a ∧ K96M.lab0 G b = some (n ^^^ (xr G hs ^^^ m), t) ∧ t < s := by
  obtain ⟨i, k, h1, h2⟩ := nim (ns := hs.map (nz G)) h
  rw [List.getElem?_map] at h1
  cases e : hs[i]? with
  | none => rw [e] at h1; cases h1
  | some a =>
    rw [e] at h1
    have hk : nz G a = k := Option.some.inj h1
    cases hl : K96M.lab0 G a with
    | none =>
      exfalso
      rw [(lab_end hl).2.1] at hk
      omega
    | some q =>
      obtain ⟨n, s⟩ := q
      rw [(lab_num hl).2.1] at hk
      subst hk
      obtain ⟨b, hb, t, ht, hs'⟩ := (K96M.good_of gok.ok).down a n s hl _ h2
      exact ⟨i, a, b, n, s, t, e, hl, hb, ht, hs'⟩
/-! ### won, lost, drawn -/
theorem ends_nil {G : G0} {L R : List Str} {a : Str} (h : ends G (L ++ a :: R) = []) : ends G L = [] ∧ ends G R = [] ∧ isE G a = false := by
  rw [ends_app] at h
  obtain ⟨h1, h2⟩ := List.append_eq_nil_iff.mp h
  cases q : isE G a with
  | true => rw [ends_cons_e q] at h2; cases h2
  | false => rw [ends_cons_n q] at h2; exact ⟨h1, h2, rfl⟩
theorem lab_of_n {G : G0} {a : Str} (h : isE G a = false) : ∃ n s, K96M.lab0 G a = some (n, s) := by
  unfold isE at h
  cases q : K96M.lab0 G a with
  | none => rw [q] at h; cases h
  | some z => exact ⟨z.1, z.2, rfl⟩
theorem lab_of_e {G : G0} {a : Str} (h : isE G a = true) : K96M.lab0 G a = none := by
  unfold isE at h
  exact Option.isNone_iff_eq_none.mp h
theorem ends_in {G : G0} {hs : List Str} {x : Str} (h : x ∈ ends G hs) : x ∈ hs ∧ isE G x = true := List.mem_filter.mp h
/-- from a won heap there is a move to a lost one -/
theorem won_has {G : G0} (gok : GOk G) {hs : List Str} (ho : ∀ x ∈ hs, x ∈ G.ns) (h : ocF G hs = "won") : ∃ m, m ∈ mlF G hs := by
  rcases (is_won gok).mp h with ⟨h1, h2⟩ | ⟨x, h1, h2⟩
  · obtain ⟨i, a, b, n, s, t, hi, hl, hb, hlb, _⟩ := nim_move gok ho (m := 0) (Nat.pos_of_ne_zero h2)
    obtain ⟨c1, c2⟩ := cut_at hi
    refine ⟨(i, b), mem_mlF.mpr ⟨mem_movesF.mpr ⟨a, hi, hb⟩, ?_⟩⟩
    show ocF G (hs.set i b) = "lost"
    rw [c2 b]
    rw [c1] at h1 h2 hlb
    obtain ⟨e1, e2, _⟩ := ends_nil h1
    refine (is_lost gok).mpr ⟨?_, ?_⟩
    · rw [ends_app, ends_cons_n (lab_num hlb).2.2.2.1, e1, e2]
      rfl
    · rw [xr_mid, (lab_num hlb).2.1, xr_mid, (lab_num hl).2.1, Nat.xor_zero]
      rw [← Nat.xor_assoc n n, Nat.xor_self, Nat.zero_xor, Nat.xor_self]
  · obtain ⟨b, hb, t, hlb⟩ := mem_bes.mp h2
    have hx : x ∈ ends G hs := by rw [h1]; exact List.mem_singleton.mpr rfl
    obtain ⟨hxh, hxe⟩ := ends_in hx
    obtain ⟨i, hi⟩ := List.mem_iff_getElem?.mp hxh
    obtain ⟨c1, c2⟩ := cut_at hi
    refine ⟨(i, b), mem_mlF.mpr ⟨mem_movesF.mpr ⟨x, hi, hb⟩, ?_⟩⟩
    show ocF G (hs.set i b) = "lost"
    rw [c2 b]
    rw [c1] at h1 hlb
    rw [ends_app, ends_cons_e hxe] at h1
    have e1 : ends G (hs.take i) = [] ∧ ends G (hs.drop (i + 1)) = [] := by
      have q := congrArg List.length h1
      rw [List.length_append, List.length_cons, List.length_singleton] at q
      exact ⟨List.eq_nil_of_length_eq_zero (by omega), List.eq_nil_of_length_eq_zero (by omega)⟩
    refine (is_lost gok).mpr ⟨?_, ?_⟩
    · rw [ends_app, ends_cons_n (lab_num hlb).2.2.2.1, e1.1, e1.2]
      rfl
    · rw [xr_mid, (lab_num hlb).2.1, xr_mid, (lab_end (lab_of_e hxe)).2.1, Nat.zero_xor, Nat.xor_self]
/-- all tokens of a lost heap are numbered -/
theorem lost_nums {G : G0} (gok : GOk G) {hs : List Str} (h : ocF G hs = "lost") : ∀ x ∈ hs, ∃ n s, K96M.lab0 G x = some (n, s) := fun x hx => by
  obtain ⟨h1, _⟩ := (is_lost gok).mp h
  refine lab_of_n ?_
  cases q : isE G x with
  | false => rfl
  | true =>
    have : x ∈ ends G hs := List.mem_filter.mpr ⟨hx, q⟩
    rw [h1] at this
    cases this
/-- whatever is moved from a lost heap, what is left is won, and an answer leaves a lost heap of a lesser count -/
theorem lost_move {G : G0} (gok : GOk G) {hs : List Str} (ho : ∀ x ∈ hs, x ∈ G.ns) (h : ocF G hs = "lost") {m : Nat × Str} (hm : m ∈ movesF G hs) :
    ocF G (hs.set m.1 m.2) = "won" ∧ ∃ m' ∈ mlF G (hs.set m.1 m.2), stepsF G ((hs.set m.1 m.2).set m'.1 m'.2) < stepsF G hs := by
  obtain ⟨i, b⟩ := m
  obtain ⟨a, hi, hb⟩ := mem_movesF.mp hm
  have hi : hs[i]? = some a := hi
  have hb : b ∈ G.rd a := hb
  show ocF G (hs.set i b) = "won" ∧ ∃ m' ∈ mlF G (hs.set i b), stepsF G ((hs.set i b).set m'.1 m'.2) < stepsF G hs
  have ha : a ∈ G.ns := ho a (List.mem_of_getElem? hi)
  have hbn := gok.ok.cl a ha b hb
  obtain ⟨n, s, hla⟩ := lost_nums gok h a (List.mem_of_getElem? hi)
  obtain ⟨h1, h2⟩ := (is_lost gok).mp h
  obtain ⟨c1, c2⟩ := cut_at hi
  have good := K96M.good_of gok.ok
  have hS : stepsF G hs = s + (stepsF G (hs.take i) + stepsF G (hs.drop (i + 1))) := by
    conv => lhs; rw [c1]
    rw [steps_mid, (lab_num hla).2.2.1]
  have hX : xr G (hs.take i) ^^^ xr G (hs.drop (i + 1)) = n := by
    rw [c1, xr_mid, (lab_num hla).2.1] at h2
    exact (xor_eq h2).symm
  rw [c1] at h1
  obtain ⟨e1, e2, _⟩ := ends_nil h1
  -- what is left
  have hset := c2 b
  have hib : (hs.set i b)[i]? = some b := List.getElem?_set_self (lt_of_at hi)
  cases hlb : K96M.lab0 G b with
  | some q =>
    obtain ⟨l, t⟩ := q
    have hne : l ≠ n := fun z => good.unlike a n s hla b hb t (by rw [hlb, z])
    have hw0 : ends G (hs.set i b) = [] := by rw [hset, ends_app, ends_cons_n (lab_num hlb).2.2.2.1, e1, e2]; rfl
    have hx0 : xr G (hs.set i b) = l ^^^ n := by rw [hset, xr_mid, (lab_num hlb).2.1, hX]
    have hx1 : xr G (hs.set i b) ≠ 0 := by rw [hx0]; exact xor_ne hne
    have hwon : ocF G (hs.set i b) = "won" := (is_won gok).mpr (.inl ⟨hw0, hx1⟩)
    refine ⟨hwon, ?_⟩
    rcases good.back a n s hla b hb with ⟨l', t', hl', hlt, htt⟩ | ⟨c, hc, t', hlc, htt⟩
    · -- a lesser number: any good answer
      rw [hlb] at hl'
      obtain ⟨rfl, rfl⟩ := Prod.mk.inj (Option.some.inj hl')
      have hon : ∀ x ∈ hs.set i b, x ∈ G.ns := fun x hx => by
        rw [hset] at hx
        rcases List.mem_append.mp hx with q | q
        · exact ho x (List.mem_of_mem_take q)
        · rcases List.mem_cons.mp q with q | q
          · rw [q]; exact hbn
          · exact ho x (List.mem_of_mem_drop q)
      obtain ⟨j, a2, b2, n2, s2, t2, hj, hl2, hb2, hlb2, hts2⟩ := nim_move gok hon (m := 0) (Nat.pos_of_ne_zero hx1)
      obtain ⟨d1, d2⟩ := cut_at hj
      refine ⟨(j, b2), mem_mlF.mpr ⟨mem_movesF.mpr ⟨a2, hj, hb2⟩, ?_⟩, ?_⟩
      · show ocF G ((hs.set i b).set j b2) = "lost"
        rw [d2 b2]
        have hw0' := hw0
        rw [d1] at hw0'
        obtain ⟨f1, f2, _⟩ := ends_nil hw0'
        refine (is_lost gok).mpr ⟨?_, ?_⟩
        · rw [ends_app, ends_cons_n (lab_num hlb2).2.2.2.1, f1, f2]
          rfl
        · rw [xr_mid, (lab_num hlb2).2.1, Nat.xor_zero]
          have e : xr G (hs.set i b) = n2 ^^^ (xr G ((hs.set i b).take j) ^^^ xr G ((hs.set i b).drop (j + 1))) := by
            conv => lhs; rw [d1]
            rw [xr_mid, (lab_num hl2).2.1]
          rw [e, ← Nat.xor_assoc n2 n2, Nat.xor_self, Nat.zero_xor, Nat.xor_self]
      · show stepsF G ((hs.set i b).set j b2) < _
        have e3 : stepsF G (hs.set i b) = s2 + (stepsF G ((hs.set i b).take j) + stepsF G ((hs.set i b).drop (j + 1))) := by
          conv => lhs; rw [d1]
          rw [steps_mid, (lab_num hl2).2.2.1]
        have e4 : stepsF G (hs.set i b) = t + (stepsF G (hs.take i) + stepsF G (hs.drop (i + 1))) := by
          rw [hset, steps_mid, (lab_num hlb).2.2.1]
        rw [d2 b2, steps_mid, (lab_num hlb2).2.2.1, hS]
        omega
    · refine ⟨(i, c), mem_mlF.mpr ⟨mem_movesF.mpr ⟨b, hib, hc⟩, ?_⟩, ?_⟩
      · show ocF G ((hs.set i b).set i c) = "lost"
        rw [List.set_set, c2 c]
        refine (is_lost gok).mpr ⟨?_, ?_⟩
        · rw [ends_app, ends_cons_n (lab_num hlc).2.2.2.1, e1, e2]
          rfl
        · rw [xr_mid, (lab_num hlc).2.1, hX, Nat.xor_self]
      · show stepsF G ((hs.set i b).set i c) < _
        rw [List.set_set, c2 c, steps_mid, (lab_num hlc).2.2.1, hS]
        omega
  | none =>
    rcases good.back a n s hla b hb with ⟨l', t', hl', _⟩ | ⟨c, hc, t', hlc, htt⟩
    · rw [hlb] at hl'; cases hl'
    · refine ⟨(is_won gok).mpr (.inr ⟨b, ?_, ?_⟩), (i, c), mem_mlF.mpr ⟨mem_movesF.mpr ⟨b, hib, hc⟩, ?_⟩, ?_⟩
      · rw [hset, ends_app, ends_cons_e (lab_end hlb).2.2.2.1, e1, e2]
        rfl
      · rw [hset, xr_mid, (lab_end hlb).2.1, Nat.zero_xor, hX]
        exact mem_bes.mpr ⟨c, hc, t', hlc⟩
      · show ocF G ((hs.set i b).set i c) = "lost"
        rw [List.set_set, c2 c]
        refine (is_lost gok).mpr ⟨?_, ?_⟩
        · rw [ends_app, ends_cons_n (lab_num hlc).2.2.2.1, e1, e2]
          rfl
        · rw [xr_mid, (lab_num hlc).2.1, hX, Nat.xor_self]
      · show stepsF G ((hs.set i b).set i c) < _
        rw [List.set_set, c2 c, steps_mid, (lab_num hlc).2.2.1, hS]
        omega
/-- no move from a drawn heap leaves a lost one -/
theorem drawn_not {G : G0} (gok : GOk G) {hs : List Str} (h : ocF G hs = "drawn") {m : Nat × Str} (hm : m ∈ movesF G hs) : ocF G (hs.set m.1 m.2) ≠ "lost" := by
  obtain ⟨i, b⟩ := m
  obtain ⟨a, hi, hb⟩ := mem_movesF.mp hm
  have hi : hs[i]? = some a := hi
  have hb : b ∈ G.rd a := hb
  show ocF G (hs.set i b) ≠ "lost"
  intro hl
  obtain ⟨h1, h2⟩ := (is_lost gok).mp hl
  obtain ⟨c1, c2⟩ := cut_at hi
  rw [c2 b] at h1 h2
  obtain ⟨e1, e2, e3⟩ := ends_nil h1
  obtain ⟨n, s, hlb⟩ := lab_of_n e3
  rcases (is_drawn gok).mp h with ⟨x, q1, q2⟩ | ⟨x, y, r, q⟩
  · rw [c1, ends_app, e1, List.nil_append] at q1
    cases qa : isE G a with
    | false => rw [ends_cons_n qa, e2] at q1; cases q1
    | true =>
      rw [ends_cons_e qa, e2] at q1
      have hax : a = x := List.head_eq_of_cons_eq q1
      refine q2 (mem_bes.mpr ⟨b, by rw [← hax]; exact hb, s, ?_⟩)
      rw [c1, xr_mid, (lab_end (lab_of_e qa)).2.1, Nat.zero_xor]
      rw [xr_mid, (lab_num hlb).2.1] at h2
      rw [← xor_eq h2]
      exact hlb
  · rw [c1, ends_app, e1, List.nil_append] at q
    cases qa : isE G a with
    | false => rw [ends_cons_n qa, e2] at q; cases q
    | true => rw [ends_cons_e qa, e2] at q; cases q
/-! ### the drawer's move -/
/-- an endless place leads to an endless one -/
theorem endless_road {G : G0} (gok : GOk G) {a : Str} (ha : a ∈ G.ns) (h : isE G a = true) : ∃ o ∈ G.rd a, isE G o = true := by
  obtain ⟨m, _, _, o, ho, hl, _⟩ := (K96M.good_of gok.ok).open_ a ha (lab_of_e h)
  exact ⟨o, ho, (lab_end hl).2.2.2.1⟩
theorem drawn_two {G : G0} (gok : GOk G) {hs : List Str} {i : Nat} {a b : Str} (h : 2 ≤ (ends G hs).length) (hi : hs[i]? = some a) (ha : isE G a = true) (hb : isE G b = true) : ocF G (hs.set i b) = "drawn" := by
  obtain ⟨c1, c2⟩ := cut_at hi
  have e : (ends G (hs.set i b)).length = (ends G hs).length := by
    rw [c2 b]
    conv => rhs; rw [c1]
    rw [ends_app, ends_app, ends_cons_e ha, ends_cons_e hb, List.length_append, List.length_append, List.length_cons, List.length_cons]
  rw [← e] at h
  refine (is_drawn gok).mpr (.inr ?_)
  match q : ends G (hs.set i b) with
  | [] => rw [q] at h; simp at h
  | [x] => rw [q] at h; simp at h
  | x :: y :: r => exact ⟨x, y, r, rfl⟩
theorem drawn_eq {G : G0} (gok : GOk G) {hs : List Str} {i : Nat} {a o : Str} (h : ends G hs = [a]) (hi : hs[i]? = some a) (ho : isE G o = true) (hn : xr G hs ∉ besF G o) : ocF G (hs.set i o) = "drawn" := by
  have ha : isE G a = true := (ends_in (by rw [h]; exact List.mem_singleton.mpr rfl : a ∈ ends G hs)).2
  obtain ⟨c1, c2⟩ := cut_at hi
  have h' := h
  rw [c1, ends_app, ends_cons_e ha] at h'
  have e1 : ends G (hs.take i) = [] ∧ ends G (hs.drop (i + 1)) = [] := by
    have q := congrArg List.length h'
    rw [List.length_append, List.length_cons, List.length_singleton] at q
    exact ⟨List.eq_nil_of_length_eq_zero (by omega), List.eq_nil_of_length_eq_zero (by omega)⟩
  refine (is_drawn gok).mpr (.inl ⟨o, ?_, ?_⟩)
  · rw [c2 o, ends_app, ends_cons_e ho, e1.1, e1.2]
    rfl
  · have e : xr G (hs.set i o) = xr G hs := by
      rw [c2 o]
      conv => rhs; rw [c1]
      rw [xr_mid, xr_mid, (lab_end (lab_of_e ha)).2.1, (lab_end (lab_of_e ho)).2.1]
    rw [e]
    exact hn
theorem drawn_sum {G : G0} (gok : GOk G) {hs : List Str} {i : Nat} {a b x : Str} (h : ends G hs = [x]) (hi : hs[i]? = some a) (ha : isE G a = false) (hb : isE G b = false) (hn : xr G (hs.set i b) ∉ besF G x) : ocF G (hs.set i b) = "drawn" := by
  obtain ⟨c1, c2⟩ := cut_at hi
  refine (is_drawn gok).mpr (.inl ⟨x, ?_, hn⟩)
  rw [← h, c2 b]
  conv => rhs; rw [c1]
  rw [ends_app, ends_app, ends_cons_n ha, ends_cons_n hb]
/-- where the sum is more than the least lacking number a numbered token brings it there -/
theorem sum_move {G : G0} (gok : GOk G) {hs : List Str} (ho : ∀ x ∈ hs, x ∈ G.ns) {m : Nat} (h : m < xr G hs) :
    ∃ (i : Nat) (a b : Str), hs[i]? = some a ∧ b ∈ G.rd a ∧ isE G a = false ∧ isE G b = false ∧ xr G (hs.set i b) = m := by
  obtain ⟨i, a, b, n, s, t, hi, hl, hb, hlb, _⟩ := nim_move gok ho h
  obtain ⟨c1, c2⟩ := cut_at hi
  refine ⟨i, a, b, hi, hb, (lab_num hl).2.2.2.1, (lab_num hlb).2.2.2.1, ?_⟩
  have e : xr G hs = n ^^^ (xr G (hs.take i) ^^^ xr G (hs.drop (i + 1))) := by
    conv => lhs; rw [c1]
    rw [xr_mid, (lab_num hl).2.1]
  rw [c2 b, xr_mid, (lab_num hlb).2.1, e]
  generalize xr G (hs.take i) ^^^ xr G (hs.drop (i + 1)) = y
  rw [← Nat.xor_assoc n, ← Nat.xor_assoc n n, Nat.xor_self, Nat.zero_xor, Nat.xor_comm y m, Nat.xor_assoc, Nat.xor_self, Nat.xor_zero]
end K96

set_option Elab.async false
set_option linter.all false
set_option maxRecDepth 100000
set_option maxHeartbeats 4000000
/-! K96H: outcomes, winners. -/
namespace K96
open PySem PySem.Spec PyProof.Rows L2
open Evl (Ex)
open K96M (Gr)
local macro_rules | `(tactic| walk_at "go") => `(tactic| repeat (first
  | with_reducible refine w_seq ?_
  | with_reducible refine w_asg ?_
  | with_reducible refine w_name ?_
  | with_reducible refine w_var rfl ?_
  | with_reducible refine w_c ?_
  | with_reducible refine w_op ?_
  | with_reducible refine w_I0 ?_
  | with_reducible refine w_drop ?_
  | with_reducible refine w_ret ?_
  | with_reducible refine w_if ?_
  | with_reducible refine w_next ?_
  | with_reducible refine w_test ?_
  | with_reducible refine w_B ?_
  | with_reducible refine w_bl ?_
  | with_reducible refine w_not ?_
  | with_reducible refine w_and ?_
  | with_reducible refine w_or ?_
  | with_reducible refine w_andV ?_
  | with_reducible refine w_orV ?_
  | with_reducible refine w_notV ?_
  | with_reducible refine w_cons ?_
  | with_reducible refine w_nil ?_
  | with_reducible refine w_cb ?_
  | with_reducible refine w_call ?_
  | with_reducible refine w_isN ?_
  | with_reducible refine w_notN ?_
  | with_reducible refine w_chain ?_
  | with_reducible refine w_sl ?_
  | with_reducible refine w_nopart ?_
  | with_reducible refine w_tupT ?_
  | with_reducible refine w_lstT ?_
  | with_reducible refine w_eq rfl ?_
  | with_reducible refine w_ne rfl ?_
  | with_reducible refine w_for ?_
  | with_reducible refine w_iL ?_
  | with_reducible refine w_iT ?_
  | with_reducible refine w_iR1 ?_
  | with_reducible refine w_iR2 ?_
  | with_reducible refine w_iE ?_
  | with_reducible refine w_iS ?_
  | with_reducible refine w_lc ?_
  | with_reducible refine w_nm ?_
  | with_reducible refine w_din ?_
  | with_reducible refine w_dnotin ?_
  | with_reducible refine w_dput ?_
  | with_reducible refine w_dget1 ?_
  | with_reducible refine w_dget2 ?_
  | with_reducible refine w_bm ?_
  | with_reducible refine w_bm0 ?_
  | with_reducible refine w_sfld ?_
  | with_reducible refine w_make ?_
  | with_reducible refine w_part ?_
  | with_reducible refine w_aug rfl ?_
  | with_reducible refine w_ip ?_
  | with_reducible refine w_yes ?_
  | with_reducible refine w_gcs ?_
  | with_reducible refine w_gnil ?_
  | with_reducible refine w_dget ?_
  | with_reducible refine w_fld ?_
  | with_reducible refine w_meth ?_))
local macro_rules | `(tactic| walk_at "ex") => `(tactic| repeat (first | assumption | exact Ex.refl _ | refine Ex.trans ?_ (by assumption)))
theorem wtL_ok {G : G0} (gok : GOk G) (x : Str) : (wtL (labF G x)).ok := by
  cases h : K96M.lab0 G x with
  | none =>
    rw [(lab_end h).1]
    show setOf (besF G x) < 65536
    exact setOf_lt (b := 16) fun n hn => (by have := bes_lt gok hn; omega)
  | some q =>
    obtain ⟨n, s⟩ := q
    rw [(lab_num h).1]
    show n < 16
    have := lab_lt gok h
    omega
section
variable {P : Program} {w : World} {K : PySem.W.Frag} {mg : Str → Option Value} {base : Heap}
/-- how a worth ends: by its class -/
theorem w_out {ba bb : Addr} {σ : L2.St} {H : Hp} {Q : VK} {t : TE} (W : Wt) (h : ∀ R : VK, (∀ a H1, WAt K H1 a W → Q (.str (oc W)) H1 → R (.ref a) H1) → t σ H R) :
    tAlt (tMeth (He.ga K "Numbered") "outcome" (sp_Nout K) [] E0 t tNil) (tMeth (He.ga K "Endless") "outcome" (sp_Eout K) [] E0 t tNil) σ H Q := by
  cases W with
  | n k =>
    refine w_altL (w_meth (h _ fun a H1 hw q => ?_))
    obtain ⟨_, dx, hx⟩ := hw.n'
    exact ⟨a, dx, _, rfl, hx, rfl, a, k, rfl, hw, q⟩
  | e k =>
    refine w_altR (w_meth (h _ fun a H1 hw q => ?_))
    obtain ⟨_, dx, hx⟩ := hw.e'
    exact ⟨a, dx, _, rfl, hx, rfl, a, k, rfl, hw, q⟩
def sp_worth_by (K : PySem.W.Frag) : Sp := fun vs H Q _ => ∃ (t : Addr) (L : Lab), vs = [.ref t] ∧ LabAt H t L ∧ (wtL L).ok ∧ ∀ p H2, Ex H H2 → WAt K H2 p (wtL L) → Q (.ref p) H2
theorem sc_worth_by : FnScope ["label"] ["label"] (defScope s_worth_by) := ⟨rfl, rfl, rfl, by decide +kernel, rfl, by decide +kernel, by decide +kernel⟩
theorem D_worth_by (T : Tx K mg) : Def P w K mg base 4 (He.ga K "worth_by") ["label"] (sp_worth_by K) := by
  refine Def.make T (d := d_worth_by) 25 rfl rfl rfl sc_worth_by (fun _ _ _ _ _ _ us hl => match us, hl with | [_], _ => rfl) (fun vs H Q E h => ?_) (fun cdv A outer s H vs Q E hr h => ?_)
  · obtain ⟨t, L, rfl, _⟩ := h
    rfl
  · obtain ⟨t, L, rfl, ht, hok, k⟩ := h
    have nd := sc_worth_by.nd
    refine ⟨_, (pss_cons (ps_if (pt_cmpR op_eq (pe_ix ix_tup (pv 0) pe_int (fun _ _ => rfl)) pe_str (nomark _)) (pss_one (ps_ret (PE.nm (pe_makeX (D_Numbered_init T) (hr.mono (by decide)) T.k_Numbered rfl T.g_Numbered (pa_cons (pe_ix ix_tup (pv 0) pe_int (fun _ _ => rfl)) pa_nil))))) pss_nil)
    (pss_one (ps_ret (PE.nm (pe_makeX (D_Endless_init T) (hr.mono (by decide)) T.k_Endless rfl T.g_Endless (pa_cons (pe_ix ix_tup (pv 0) pe_int (fun _ _ => rfl)) pa_nil)))))), ?_⟩
    walk_at "go"
    cases L with
    | num n s =>
      refine w_ixT (SqT.of ht) rfl ?_
      walk_at "go"
      refine brT (decide_eq_true rfl) ?_
      walk_at "go"
      refine w_ixT (SqT.of ht) rfl ?_
      walk_at "go"
      exact mkN hok fun x H3 _ e3 hw => k x H3 e3 hw
    | endl b =>
      refine w_ixT (SqT.of ht) rfl ?_
      walk_at "go"
      refine brF ne_en ?_
      walk_at "go"
      refine w_ixT (SqT.of ht) rfl ?_
      walk_at "go"
      exact mkE hok fun x H3 _ e3 hw => k x H3 e3 hw
def sp_worth_in (K : PySem.W.Frag) : Sp := fun vs H Q _ => ∃ (d h : Addr) (G : G0) (hs : List Str), vs = [.ref d, .ref h] ∧ LsAt H d G ∧ LAt H h hs ∧ GOk G ∧ HOk' G hs ∧ ∀ p H2, Ex H H2 → WAt K H2 p (wtF G hs) → Q (.ref p) H2
theorem WAt.mt {H H' : Hp} {a : Addr} {x : Wt} (h : WAt K H a x) (e : ∀ C dx fs, H a = some (.ins C dx fs) → H' a = some (.ins C dx fs)) : WAt K H' a x := by
  cases x with
  | n k => obtain ⟨h1, dx, h2⟩ := h; exact ⟨h1, dx, e _ _ _ h2⟩
  | e b => obtain ⟨h1, dx, h2⟩ := h; exact ⟨h1, dx, e _ _ _ h2⟩
theorem sc_worth_in : FnScope ["labels", "heap", "name"] ["labels", "heap"] (defScope s_worth_in) := ⟨rfl, rfl, rfl, by decide +kernel, rfl, by decide +kernel, by decide +kernel⟩
theorem D_worth_in (T : Tx K mg) : Def P w K mg base 7 (He.ga K "worth_in") ["labels", "heap"] (sp_worth_in K) := by
  refine Def.make T (d := d_worth_in) 26 rfl rfl rfl sc_worth_in (fun _ _ _ _ _ _ us hl => match us, hl with | [_, _], _ => rfl) (fun vs H Q E h => ?_) (fun cdv A outer s H vs Q E hr h => ?_)
  · obtain ⟨d, h, G, hs, rfl, _⟩ := h
    rfl
  · obtain ⟨d, h, G, hs, rfl, hD, hL, gok, hO, k⟩ := h
    have nd := sc_worth_in.nd
    have hu := hu_of hr
    have hlen := hO.len
    refine ⟨_, (pss_one (ps_ret (pe_callX (D_sum_of T) (hr.mono (by decide)) rfl T.g_sum_of (pa_cons (pe_lc (own := [("name", 2)]) rfl nd (pi_list (pv 1)) (blkOk_by (N := ["labels", "heap", "name"]) (sc := defScope s_worth_in) (by decide +kernel)) (fun _ _ _ _ _ => (pg_name (i := 2) nd rfl (Or.inl rfl))) (fun _ _ _ _ _ => pts_nil) (fun _ _ _ _ _ => (pe_callX (D_worth_by T) (hr.mono (by decide)) rfl T.g_worth_by (pa_cons (pe_dget hu (pv 0) (pv 2) (fun _ _ => rfl)) pa_nil)))) pa_nil)))), ?_⟩
    walk_at "go"
    -- kept across writes to the list that grows
    refine ⟨h, rfl, ⟨_, SqL.of hL⟩, fun D hDn => ?_⟩
    refine lc_it (walk_list (K := K) (a := h) (xs := hs.map sV)) (fun i H' => Ex H H' ∧ ∃ us : List Addr, H' D = some (.lst (us.map V.ref)) ∧ Paired (WAt K H') us ((hs.take i).map fun x => wtL (labF G x))) ⟨Ex.new hDn, [], upd_same, .nil⟩ (fun i H' _ ⟨e, _⟩ => Evl.ex_l e (SqL.of hL)) ?_ ?_
    · rintro i y H' H'' hi ⟨e, us, hus, hp⟩ ⟨rfl, hy⟩
      obtain ⟨x, hx, rfl⟩ := map_at hy
      walk_at "go"
      refine ⟨rfl, ?_⟩
      walk_at "go"
      refine brT rfl ?_
      walk_at "go"
      obtain ⟨t, ht, hta⟩ := (hD.up e).get (hO.ins x (List.mem_of_getElem? hx))
      refine ⟨d, _, rfl, ht, ?_⟩
      walk_at "go"
      refine ⟨t, _, rfl, hta, wtL_ok gok x, fun p H2 e2 hw => ?_⟩
      have hus2 : H2 D = some (.lst (us.map V.ref)) := e2 _ _ hus
      have hul : us.length ≤ 8 := by
        have q := Paired.length hp
        rw [List.length_map, List.length_take] at q
        omega
      refine ⟨_, hus2, szl (by rw [List.length_map]; omega), Ex.mut (e.trans e2) hDn, us ++ [p], by rw [List.map_append]; exact upd_same, ?_⟩
      have keep : ∀ {a : Addr} {z : Wt}, WAt K H2 a z → WAt K (upd H2 D (.lst (us.map V.ref ++ [.ref p]))) a z := fun {a z} hz => hz.mt fun C dx fs q => by
        rw [upd_ne fun zz => by rw [zz, hus2] at q; cases q]
        exact q
      rw [tk hx, List.map_append]
      exact (Paired.mapP hp fun _ _ q => keep (q.up e2)).snoc (keep hw)
    · rintro H' ⟨e, us, hus, hp⟩
      walk_at "go"
      rw [List.length_map, List.take_length] at hp
      exact ⟨D, us, _, rfl, hus, hp, fun p H2 e2 hw => k p H2 (e.trans e2) hw⟩
def sp_heap_worth (K : PySem.W.Frag) : Sp := fun vs H Q _ => ∃ (g h : Addr) (G : G0) (hs : List Str), vs = [.ref g, .ref h] ∧ GAt K H g G ∧ LAt H h hs ∧ GOk G ∧ Txt G ∧ HOk' G hs ∧ ∀ p H2, Ex H H2 → WAt K H2 p (wtF G hs) → Q (.ref p) H2
theorem sc_heap_worth : FnScope ["ground", "heap"] ["ground", "heap"] (defScope s_heap_worth) := ⟨rfl, rfl, rfl, by decide +kernel, rfl, by decide +kernel, by decide +kernel⟩
theorem D_heap_worth (T : Tx K mg) : Def P w K mg base 8 (He.ga K "heap_worth") ["ground", "heap"] (sp_heap_worth K) := by
  refine Def.make T (d := d_heap_worth) 27 rfl rfl rfl sc_heap_worth (fun _ _ _ _ _ _ us hl => match us, hl with | [_, _], _ => rfl) (fun vs H Q E h => ?_) (fun cdv A outer s H vs Q E hr h => ?_)
  · obtain ⟨g, h, G, hs, rfl, _⟩ := h
    rfl
  · obtain ⟨g, h, G, hs, rfl, hG, hL, gok, tx, hO, k⟩ := h
    have nd := sc_heap_worth.nd
    refine ⟨_, (pss_cons (ps_expr (pe_callX (D_need_heap T) (hr.mono (by decide)) rfl T.g_need_heap (pa_cons (pv 0) (pa_cons (pv 1) pa_nil))))
    (pss_one (ps_ret (pe_callX (D_worth_in T) (hr.mono (by decide)) rfl T.g_worth_in (pa_cons (pe_callX (D_labels_of T) (hr.mono (by decide)) rfl T.g_labels_of (pa_cons (pv 0) pa_nil)) (pa_cons (pv 1) pa_nil)))))), ?_⟩
    walk_at "go"
    refine ⟨g, h, G, hs, rfl, hG, hL, hO, fun H1 e1 => ?_⟩
    walk_at "go"
    refine ⟨g, G, rfl, hG.up e1, gok, tx, fun d H2 e2 hD => ?_⟩
    walk_at "go"
    exact ⟨d, h, G, hs, rfl, hD, e2 _ _ (e1 _ _ hL), gok, hO, fun p H3 e3 hw => k p H3 ((e1.trans e2).trans e3) hw⟩
def sp_outcome (K : PySem.W.Frag) : Sp := fun vs H Q _ => ∃ (g h : Addr) (G : G0) (hs : List Str), vs = [.ref g, .ref h] ∧ GAt K H g G ∧ LAt H h hs ∧ GOk G ∧ Txt G ∧ HOk' G hs ∧ ∀ H2, Ex H H2 → Q (.str (ocF G hs)) H2
theorem sc_outcome : FnScope ["ground", "heap", "self"] ["ground", "heap"] (defScope s_outcome) := ⟨rfl, rfl, rfl, by decide +kernel, rfl, by decide +kernel, by decide +kernel⟩
theorem D_outcome (T : Tx K mg) : Def P w K mg base 9 (He.ga K "outcome") ["ground", "heap"] (sp_outcome K) := by
  refine Def.make T (d := d_outcome) 28 rfl rfl rfl sc_outcome (fun _ _ _ _ _ _ us hl => match us, hl with | [_, _], _ => rfl) (fun vs H Q E h => ?_) (fun cdv A outer s H vs Q E hr h => ?_)
  · obtain ⟨g, h, G, hs, rfl, _⟩ := h
    rfl
  · obtain ⟨g, h, G, hs, rfl, hG, hL, gok, tx, hO, k⟩ := h
    have nd := sc_outcome.nd
    refine ⟨_, (pss_one (ps_ret (PE.alt (pe_methX0 (D_Numbered_outcome T) (hr.mono (by decide)) T.c_Numbered T.m_Numbered_outcome (pe_callX (D_heap_worth T) (hr.mono (by decide)) rfl T.g_heap_worth (pa_cons (pv 0) (pa_cons (pv 1) pa_nil)))) (pe_methX0 (D_Endless_outcome T) (hr.mono (by decide)) T.c_Endless T.m_Endless_outcome (pe_callX (D_heap_worth T) (hr.mono (by decide)) rfl T.g_heap_worth (pa_cons (pv 0) (pa_cons (pv 1) pa_nil))))))), ?_⟩
    walk_at "go"
    refine w_out (ba := h) (bb := h) (wtF G hs) fun R hR => ?_
    walk_at "go"
    exact ⟨g, h, G, hs, rfl, hG, hL, gok, tx, hO, fun p H2 e2 hw => hR p H2 hw (k H2 e2)⟩
def sp_labels_for (K : PySem.W.Frag) : Sp := fun vs H Q _ => ∃ (g h : Addr) (G : G0) (hs : List Str), vs = [.ref g, .ref h] ∧ GAt K H g G ∧ LAt H h hs ∧ GOk G ∧ Txt G ∧ HOk' G hs ∧ ∀ p H2, Ex H H2 → LsAt H2 p G → Q (.ref p) H2
theorem sc_labels_for : FnScope ["ground", "heap"] ["ground", "heap"] (defScope s_labels_for) := ⟨rfl, rfl, rfl, by decide +kernel, rfl, by decide +kernel, by decide +kernel⟩
theorem D_labels_for (T : Tx K mg) : Def P w K mg base 6 (He.ga K "labels_for") ["ground", "heap"] (sp_labels_for K) := by
  refine Def.make T (d := d_labels_for) 29 rfl rfl rfl sc_labels_for (fun _ _ _ _ _ _ us hl => match us, hl with | [_, _], _ => rfl) (fun vs H Q E h => ?_) (fun cdv A outer s H vs Q E hr h => ?_)
  · obtain ⟨g, h, G, hs, rfl, _⟩ := h
    rfl
  · obtain ⟨g, h, G, hs, rfl, hG, hL, gok, tx, hO, k⟩ := h
    have nd := sc_labels_for.nd
    refine ⟨_, (pss_cons (ps_expr (pe_callX (D_need_heap T) (hr.mono (by decide)) rfl T.g_need_heap (pa_cons (pv 0) (pa_cons (pv 1) pa_nil))))
    (pss_one (ps_ret (pe_callX (D_labels_of T) (hr.mono (by decide)) rfl T.g_labels_of (pa_cons (pv 0) pa_nil))))), ?_⟩
    walk_at "go"
    refine ⟨g, h, G, hs, rfl, hG, hL, hO, fun H1 e1 => ?_⟩
    walk_at "go"
    exact ⟨g, G, rfl, hG.up e1, gok, tx, fun d H2 e2 hD => k d H2 (e1.trans e2) hD⟩
def sp_need_outcome (K : PySem.W.Frag) : Sp := fun vs H Q _ => ∃ (d h : Addr) (G : G0) (hs : List Str), vs = [.ref d, .ref h, .str (ocF G hs)] ∧ LsAt H d G ∧ LAt H h hs ∧ GOk G ∧ HOk' G hs ∧ ∀ H2, Ex H H2 → Q .non H2
theorem sc_need_outcome : FnScope ["labels", "heap", "wanted", "found"] ["labels", "heap", "wanted"] (defScope s_need_outcome) := ⟨rfl, rfl, rfl, by decide +kernel, rfl, by decide +kernel, by decide +kernel⟩
theorem D_need_outcome (T : Tx K mg) : Def P w K mg base 8 (He.ga K "need_outcome") ["labels", "heap", "wanted"] (sp_need_outcome K) := by
  refine Def.make T (d := d_need_outcome) 30 rfl rfl rfl sc_need_outcome (fun _ _ _ _ _ _ us hl => match us, hl with | [_, _, _], _ => rfl) (fun vs H Q E h => ?_) (fun cdv A outer s H vs Q E hr h => ?_)
  · obtain ⟨g, h, G, hs, rfl, _⟩ := h
    rfl
  · obtain ⟨d, h, G, hs, rfl, hD, hL, gok, hO, k⟩ := h
    have nd := sc_need_outcome.nd
    refine ⟨_, (pss_cons (ps_set (i := 3) nd rfl (Or.inl rfl) (PE.alt (pe_methX0 (D_Numbered_outcome T) (hr.mono (by decide)) T.c_Numbered T.m_Numbered_outcome (pe_callX (D_worth_in T) (hr.mono (by decide)) rfl T.g_worth_in (pa_cons (pv 0) (pa_cons (pv 1) pa_nil)))) (pe_methX0 (D_Endless_outcome T) (hr.mono (by decide)) T.c_Endless T.m_Endless_outcome (pe_callX (D_worth_in T) (hr.mono (by decide)) rfl T.g_worth_in (pa_cons (pv 0) (pa_cons (pv 1) pa_nil))))))
    (pss_one (ps_if (pt_cmpR op_ne (pv 3) (pv 2) (nomark _)) (pss_one ps_never) pss_nil))), ?_⟩
    walk_at "go"
    refine w_out (ba := h) (bb := h) (wtF G hs) fun R hR => ?_
    walk_at "go"
    refine ⟨d, h, G, hs, rfl, hD, hL, gok, hO, fun p H2 e2 hw => hR p H2 hw ?_⟩
    walk_at "go"
    refine brF ?_ ?_
    · rw [decide_eq_true rfl]
      rfl
    walk_at "go"
    exact k H2 e2
/-! ### moves_to_lost -/
/-- a move with the heap that it leaves, apart from f -/
def PlAt (f : Addr) (H : Hp) (hs : List Str) (p : Addr) (m : Nat × Str) : Prop := ∃ t l, H p = some (.tup [.ref t, .ref l]) ∧ MAt H t m ∧ LAt H l (hs.set m.1 m.2) ∧ l ≠ f
theorem PlAt.up {f : Addr} {H H' : Hp} {hs : List Str} {p : Addr} {m : Nat × Str} (h : PlAt f H hs p m) (e : Ex H H') : PlAt f H' hs p m := by
  obtain ⟨t, l, h1, h2, h3, h4⟩ := h
  exact ⟨t, l, e _ _ h1, e _ _ h2, e _ _ h3, h4⟩
theorem PlAt.mt {f : Addr} {H : Hp} {hs : List Str} {p : Addr} {m : Nat × Str} {ys : List V} {o : HO} (h : PlAt f H hs p m) (hf : H f = some (.lst ys)) : PlAt f (upd H f o) hs p m := by
  obtain ⟨t, l, h1, h2, h3, h4⟩ := h
  refine ⟨t, l, ?_, ?_, ?_, h4⟩
  · rw [upd_ne fun z => by rw [z, hf] at h1; cases h1]
    exact h1
  · show upd H f o t = _
    rw [upd_ne fun z => by rw [z] at h2; have h2 : H f = _ := h2; rw [hf] at h2; cases h2]
    exact h2
  · show upd H f o l = _
    rw [upd_ne h4]
    exact h3
theorem hset {G : G0} {hs : List Str} {m : Nat × Str} (gok : GOk G) (hO : HOk' G hs) (hm : m ∈ movesF G hs) : HOk' G (hs.set m.1 m.2) := by
  obtain ⟨a, h1, h2⟩ := mem_movesF.mp hm
  refine ⟨by rw [List.length_set]; exact hO.len, fun x hx => ?_⟩
  rcases List.mem_or_eq_of_mem_set hx with q | q
  · exact hO.ins x q
  · rw [q]
    exact gok.ok.cl a (hO.ins a (List.mem_of_getElem? h1)) _ h2
theorem moves_len {G : G0} {hs : List Str} (gok : GOk G) (hO : HOk' G hs) : (movesF G hs).length ≤ 112 := by
  have q2 : (movesF G hs).length ≤ 14 * hs.length := movesFrom_len gok (hs := hs) (k := 0) hO.ins
  have q3 := hO.len
  omega
def sp_moves_to_lost (K : PySem.W.Frag) : Sp := fun vs H Q _ => ∃ (g d h : Addr) (G : G0) (hs : List Str), vs = [.ref g, .ref d, .ref h] ∧ GAt K H g G ∧ LsAt H d G ∧ LAt H h hs ∧ GOk G ∧ HOk' G hs ∧
  ∀ f H2 us, Ex H H2 → H2 f = some (.lst (us.map V.ref)) → Paired (PlAt f H2 hs) us (mlF G hs) → Q (.ref f) H2
theorem sc_moves_to_lost : FnScope ["ground", "labels", "heap", "found", "move", "left"] ["ground", "labels", "heap"] (defScope s_moves_to_lost) := ⟨rfl, rfl, rfl, by decide +kernel, rfl, by decide +kernel, by decide +kernel⟩
theorem D_moves_to_lost (T : Tx K mg) : Def P w K mg base 8 (He.ga K "moves_to_lost") ["ground", "labels", "heap"] (sp_moves_to_lost K) := by
  refine Def.make T (d := d_moves_to_lost) 31 rfl rfl rfl sc_moves_to_lost (fun _ _ _ _ _ _ us hl => match us, hl with | [_, _, _], _ => rfl) (fun vs H Q E h => ?_) (fun cdv A outer s H vs Q E hr h => ?_)
  · obtain ⟨g, d, h, G, hs, rfl, _⟩ := h
    rfl
  · obtain ⟨g, d, h, G, hs, rfl, hG, hD, hL, gok, hO, k⟩ := h
    have nd := sc_moves_to_lost.nd
    have hml := moves_len gok hO
    refine ⟨_, (pss_cons (ps_set (i := 3) nd rfl (Or.inl rfl) (PE.nm (pe_lst pa_nil)))
    (pss_cons (ps_for PassesOwn.never rfl (pi_list (pe_callX (D_moves_of T) (hr.mono (by decide)) rfl T.g_moves_of (pa_cons (pv 0) (pa_cons (pv 2) pa_nil)))) (pg_name (i := 4) nd rfl (Or.inl rfl))
    (pss_cons (ps_set (i := 5) nd rfl (Or.inl rfl) (pe_callX (D_after T) (hr.mono (by decide)) rfl T.g_after (pa_cons (pv 0) (pa_cons (pv 2) (pa_cons (pv 4) pa_nil)))))
    (pss_one (ps_if (pt_cmpR op_eq (PE.alt (pe_methX0 (D_Numbered_outcome T) (hr.mono (by decide)) T.c_Numbered T.m_Numbered_outcome (pe_callX (D_worth_in T) (hr.mono (by decide)) rfl T.g_worth_in (pa_cons (pv 1) (pa_cons (pv 5) pa_nil)))) (pe_methX0 (D_Endless_outcome T) (hr.mono (by decide)) T.c_Endless T.m_Endless_outcome (pe_callX (D_worth_in T) (hr.mono (by decide)) rfl T.g_worth_in (pa_cons (pv 1) (pa_cons (pv 5) pa_nil))))) pe_str (nomark _)) (pss_one (ps_expr (pe_bm PySem.F.plainAttrs_list PySem.F.slot_list_append PySem.F.type_list_append mt_append (pv 3) (pa_cons (PE.nm (pe_tup (pa_cons (pv 4) (pa_cons (pv 5) pa_nil)))) pa_nil)))) pss_nil))))
    (pss_one (ps_ret (pv 3))))), ?_⟩
    walk_at "go"
    refine ⟨szs (Nat.zero_le _), w_new fun f H1 hf e1 hf1 => ?_⟩
    walk_at "go"
    refine ⟨g, h, G, hs, rfl, hG.up e1, e1 _ _ hL, gok, hO, fun p H2 hp e2 hM => ?_⟩
    have hpf : p ≠ f := fun z => by rw [z, hf1] at hp; cases hp
    obtain ⟨ts, hts, hpair⟩ := hM
    refine ⟨p, rfl, ⟨_, SqL.of hts⟩, for_list (K := K) (a := p) (xs := ts.map V.ref) (fun i σ' H3 => Ex H H3 ∧ H3 p = some (.lst (ts.map V.ref)) ∧ Paired (MAt H3) ts (movesF G hs) ∧ (∃ us : List Addr, H3 f = some (.lst (us.map V.ref)) ∧ Paired (PlAt f H3 hs) us (((movesF G hs).take i).filter fun m => decide (ocF G (hs.set m.1 m.2) = "lost"))) ∧ ∃ v1 v2, σ' = [some (.ref g), some (.ref d), some (.ref h), some (.ref f), v1, v2]) ⟨e1.trans e2, hts, hpair, ⟨[], e2 _ _ hf1, .nil⟩, none, none, rfl⟩ (fun i σ' H3 _ ⟨_, q, _⟩ => SqL.of q) ?_ ?_⟩
    · rintro i y σ' H3 hi ⟨e3, hp3, hpair3, ⟨us, hus, hpl⟩, v1, v2, rfl⟩
      obtain ⟨t, ht, rfl⟩ := map_at hi
      obtain ⟨m, hm, hmt⟩ := Paired.at_ hpair3 ht
      have hmm : m ∈ movesF G hs := List.mem_of_getElem? hm
      walk_at "go"
      refine ⟨g, h, t, G, hs, m, rfl, hG.up e3, e3 _ _ hL, hO, hmt, hmm, fun l H4 hl e4 hl4 => ?_⟩
      have e34 := e3.trans e4
      have hlf : l ≠ f := fun z => by rw [z, hus] at hl; cases hl
      walk_at "go"
      refine w_out (ba := h) (bb := h) (wtF G (hs.set m.1 m.2)) fun R hR => ?_
      walk_at "go"
      refine ⟨d, l, G, _, rfl, hD.up e34, hl4, gok, hset gok hO hmm, fun q H5 e5 hw => hR q H5 hw ?_⟩
      walk_at "go"
      have hf5 : H5 f = some (.lst (us.map V.ref)) := e5 _ _ (e4 _ _ hus)
      have hpl5 := Paired.mapP hpl fun _ _ q => PlAt.up q (e4.trans e5)
      have hul : us.length ≤ 112 := by
        have q1 := Paired.length hpl
        have q2 := List.length_filter_le (fun m : Nat × Str => decide (ocF G (hs.set m.1 m.2) = "lost")) ((movesF G hs).take i)
        rw [List.length_take] at q2
        omega
      by_cases z : ocF G (hs.set m.1 m.2) = "lost"
      · refine brT (decide_eq_true (congrArg V.str z)) ?_
        walk_at "go"
        refine ⟨.inl ⟨rfl, _, SqL.of hf5⟩, ?_⟩
        walk_at "go"
        refine ⟨szs (show 2 ≤ 100000 by decide), w_new fun r H6 hr6 e6 h6 => ?_⟩
        have hf6 : H6 f = some (.lst (us.map V.ref)) := e6 _ _ hf5
        refine ⟨f, _, _, rfl, rfl, hf6, szl (by rw [List.length_map]; omega), ?_⟩
        have e36 : Ex H3 H6 := (e4.trans e5).trans e6
        refine ⟨Ex.mut (e3.trans e36) hf, ?_, ?_, ⟨us ++ [r], ?_, ?_⟩, _, _, rfl⟩
        · rw [upd_ne hpf]
          exact e36 _ _ hp3
        · exact Paired.mapP hpair3 fun _ _ q => Tm.updL hf6 _ _ (e36 _ _ q)
        · rw [List.map_append]
          exact upd_same
        · rw [tk hm, List.filter_append, List.filter_cons, if_pos (decide_eq_true z)]
          refine Paired.snoc (Paired.mapP hpl5 fun _ _ q => PlAt.mt (PlAt.up q e6) hf6) (PlAt.mt ⟨t, l, h6, e36 _ _ hmt, e6 _ _ (e5 _ _ hl4), hlf⟩ hf6)
      · refine brF (decide_eq_false fun q => z (V.str.inj q)) ?_
        walk_at "go"
        have e35 : Ex H3 H5 := e4.trans e5
        refine ⟨e3.trans e35, e35 _ _ hp3, Paired.mapP hpair3 fun _ _ q => e35 _ _ q, ⟨us, hf5, ?_⟩, _, _, rfl⟩
        rw [tk hm, List.filter_append, List.filter_cons, if_neg (by rw [decide_eq_false z]; exact Bool.false_ne_true)]
        show Paired _ us (_ ++ [])
        rw [List.append_nil]
        exact hpl5
    · rintro σ' H3 ⟨e3, hp3, hpair3, ⟨us, hus, hpl⟩, v1, v2, rfl⟩
      walk_at "go"
      have hlen : (movesF G hs).take (ts.map V.ref).length = movesF G hs := List.take_of_length_le (by rw [List.length_map, Paired.length hpair]; exact Nat.le_refl _)
      rw [hlen] at hpl
      exact k f H3 us e3 hus hpl
/-! ### steps, the best move -/
def sp_steps_of (K : PySem.W.Frag) : Sp := fun vs H Q _ => ∃ (d h : Addr) (G : G0) (hs : List Str), vs = [.ref d, .ref h] ∧ LsAt H d G ∧ LAt H h hs ∧ HOk' G hs ∧ (∀ x ∈ hs, ∃ n s, K96M.lab0 G x = some (n, s)) ∧ ∀ H2, Ex H H2 → Q (nV (stepsF G hs)) H2
theorem sum_nat : ∀ (ns : List Nat), (ns.map fun (n : Nat) => (n : Int)).sum = ((ns.sum : Nat) : Int)
  | [] => rfl
  | n :: r => by rw [List.map_cons, List.sum_cons, List.sum_cons, sum_nat r, Int.natCast_add]
theorem sc_steps_of : FnScope ["labels", "heap", "name"] ["labels", "heap"] (defScope s_steps_of) := ⟨rfl, rfl, rfl, by decide +kernel, rfl, by decide +kernel, by decide +kernel⟩
theorem D_steps_of (T : Tx K mg) : Def P w K mg base 1 (He.ga K "steps_of") ["labels", "heap"] (sp_steps_of K) := by
  refine Def.make T (d := d_steps_of) 32 rfl rfl rfl sc_steps_of (fun _ _ _ _ _ _ us hl => match us, hl with | [_, _], _ => rfl) (fun vs H Q E h => ?_) (fun cdv A outer s H vs Q E hr h => ?_)
  · obtain ⟨d, h, G, hs, rfl, _⟩ := h
    rfl
  · obtain ⟨d, h, G, hs, rfl, hD, hL, hO, hn, k⟩ := h
    have nd := sc_steps_of.nd
    have hu := hu_of hr
    have hlen := hO.len
    refine ⟨_, (pss_one (ps_ret (pe_callB (cr_sum rfl) (by rfl) T.f_sum (by decide +kernel) (pa_cons (pe_lc (own := [("name", 2)]) rfl nd (pi_list (pv 1)) (blkOk_by (N := ["labels", "heap", "name"]) (sc := defScope s_steps_of) (by decide +kernel)) (fun _ _ _ _ _ => (pg_name (i := 2) nd rfl (Or.inl rfl))) (fun _ _ _ _ _ => pts_nil) (fun _ _ _ _ _ => (pe_ix (r := rIxT K) ix_tup (pe_dget hu (pv 0) (pv 2) (fun _ _ => rfl)) pe_int (fun _ _ => rfl)))) pa_nil)))), ?_⟩
    walk_at "go"
    refine ⟨h, rfl, ⟨_, SqL.of hL⟩, lc_L (K := K) (SqL.of hL) (fun i ys H' => ys = ((hs.take i).map (stepF G)).map nV) (fun _ _ _ _ _ q => q) rfl (by rw [List.length_map]; omega) ?_ ?_⟩
    · rintro i y ys H3 hi e3 hys N M hN hM
      obtain ⟨x, hx, rfl⟩ := map_at hi
      walk_at "go"
      refine ⟨rfl, ?_⟩
      walk_at "go"
      refine brT rfl ?_
      walk_at "go"
      have hxm : x ∈ hs := List.mem_of_getElem? hx
      obtain ⟨t, ht, hta⟩ := (hD.up e3).get (hO.ins x hxm)
      refine ⟨d, _, rfl, ht, ?_⟩
      walk_at "go"
      obtain ⟨n, s, hl⟩ := hn x hxm
      rw [(lab_num hl).1] at hta
      refine w_ixT (SqT.of hta) rfl ?_
      refine hN _ _ (Ex.refl _) ?_
      rw [tk hx, List.map_append, List.map_append, hys, List.map_cons, (lab_num hl).2.2.1]
      rfl
    · rintro D ys H3 hD3 e3 h3 _ hys
      walk_at "go"
      rw [List.length_map, List.take_length] at hys
      refine ⟨D, (hs.map (stepF G)).map fun (n : Nat) => (n : Int), rfl, ?_, ?_⟩
      · rw [List.map_map]
        refine SqL.of ?_
        rw [h3, hys]
        rfl
      · rw [sum_nat]
        exact k H3 e3
def BestAt (H : Hp) (G : G0) (hs : List Str) (ms : List (Nat × Str)) (v : V) : Prop := ∃ t mt m, v = .ref t ∧ H t = some (.tup [.ref mt, nV (stepsF G (hs.set m.1 m.2))]) ∧ MAt H mt m ∧ m ∈ ms ∧ ∀ m' ∈ ms, stepsF G (hs.set m.1 m.2) ≤ stepsF G (hs.set m'.1 m'.2)
theorem BestAt.up {H H' : Hp} {G : G0} {hs : List Str} {ms : List (Nat × Str)} {v : V} (h : BestAt H G hs ms v) (e : Ex H H') : BestAt H' G hs ms v := by
  obtain ⟨t, mt, m, h1, h2, h3, h4⟩ := h
  exact ⟨t, mt, m, h1, e _ _ h2, e _ _ h3, h4⟩
def sp_best_move (K : PySem.W.Frag) : Sp := fun vs H Q _ => ∃ (g d h : Addr) (G : G0) (hs : List Str), vs = [.ref g, .ref d, .ref h] ∧ GAt K H g G ∧ LsAt H d G ∧ LAt H h hs ∧ GOk G ∧ HOk' G hs ∧ mlF G hs ≠ [] ∧
  ∀ v H2, Ex H H2 → BestAt H2 G hs (mlF G hs) v → Q v H2
theorem lt_V (a b : Nat) : decide ((a : Int) < (b : Int)) = decide (a < b) := by
  by_cases z : a < b
  · rw [decide_eq_true z, decide_eq_true (by omega)]
  · rw [decide_eq_false z, decide_eq_false (by omega)]
theorem sc_best_move : FnScope ["ground", "labels", "heap", "best", "move", "left", "count"] ["ground", "labels", "heap"] (defScope s_best_move) := ⟨rfl, rfl, rfl, by decide +kernel, rfl, by decide +kernel, by decide +kernel⟩
theorem D_best_move (T : Tx K mg) : Def P w K mg base 9 (He.ga K "best_move") ["ground", "labels", "heap"] (sp_best_move K) := by
  refine Def.make T (d := d_best_move) 33 rfl rfl rfl sc_best_move (fun _ _ _ _ _ _ us hl => match us, hl with | [_, _, _], _ => rfl) (fun vs H Q E h => ?_) (fun cdv A outer s H vs Q E hr h => ?_)
  · obtain ⟨g, d, h, G, hs, rfl, _⟩ := h
    rfl
  · obtain ⟨g, d, h, G, hs, rfl, hG, hD, hL, gok, hO, hne, k⟩ := h
    have nd := sc_best_move.nd
    refine ⟨_, (pss_cons (ps_set (i := 3) nd rfl (Or.inl rfl) pe_non)
    (pss_cons (ps_for PassesOwn.never rfl (pi_list (pe_callX (D_moves_to_lost T) (hr.mono (by decide)) rfl T.g_moves_to_lost (pa_cons (pv 0) (pa_cons (pv 1) (pa_cons (pv 2) pa_nil))))) (pg_tup rfl (pgs_cons (pg_name (i := 4) nd rfl (Or.inl rfl)) (pgs_cons (pg_name (i := 5) nd rfl (Or.inl rfl)) pgs_nil)))
    (pss_cons (ps_set (i := 6) nd rfl (Or.inl rfl) (pe_callX (D_steps_of T) (hr.mono (by decide)) rfl T.g_steps_of (pa_cons (pv 1) (pa_cons (pv 5) pa_nil))))
    (pss_one (ps_if (PW.pt (pw_or (pt_cmp (pc_isN (pv 3))) (pw_or1 (pt_cmpR op_lt (pv 6) (pe_ix ix_tup (pv 3) pe_int (fun _ _ => rfl)) (nomark _))))) (pss_one (ps_set (i := 3) nd rfl (Or.inl rfl) (PE.nm (pe_tup (pa_cons (pv 4) (pa_cons (pv 6) pa_nil)))))) pss_nil))))
    (pss_one (ps_ret (pv 3))))), ?_⟩
    walk_at "go"
    refine ⟨g, d, h, G, hs, rfl, hG, hD, hL, gok, hO, fun f H1 us e1 hf hp => ?_⟩
    refine ⟨f, rfl, ⟨_, SqL.of hf⟩, for_list (K := K) (a := f) (xs := us.map V.ref) (fun i σ' H3 => Ex H1 H3 ∧ ∃ v1 v2 v3 b, σ' = [some (.ref g), some (.ref d), some (.ref h), some b, v1, v2, v3] ∧ ((i = 0 ∧ b = .non) ∨ (0 < i ∧ BestAt H3 G hs ((mlF G hs).take i) b))) ⟨Ex.refl _, none, none, none, .non, rfl, .inl ⟨rfl, rfl⟩⟩ (fun i σ' H3 _ ⟨e, _⟩ => SqL.of (e _ _ hf)) ?_ ?_⟩
    · rintro i y σ' H3 hi ⟨e3, v1, v2, v3, b, rfl, hb⟩
      obtain ⟨p, hp1, rfl⟩ := map_at hi
      obtain ⟨m, hm, t, l, q1, q2, q3, _⟩ := Paired.at_ hp hp1
      have hmm := mem_mlF.mp (List.mem_of_getElem? hm)
      have q1 := e3 _ _ q1
      refine w_gtup ⟨p, _, rfl, SqT.of q1, rfl, ?_⟩
      walk_at "go"
      have e13 := e1.trans e3
      have hset' := hset gok hO hmm.1
      refine ⟨d, l, G, _, rfl, hD.up e13, e3 _ _ q3, hset', fun x hx => lost_nums gok hmm.2 x hx, fun H4 e4 => ?_⟩
      have q2 : MAt H4 t m := e4 _ _ (e3 _ _ q2)
      walk_at "go"
      have take : ∀ H5 q, Ex H4 H5 → H5 q = some (.tup [.ref t, nV (stepsF G (hs.set m.1 m.2))]) → (∀ m' ∈ (mlF G hs).take i, stepsF G (hs.set m.1 m.2) ≤ stepsF G (hs.set m'.1 m'.2)) → BestAt H5 G hs ((mlF G hs).take (i + 1)) (.ref q) := fun H5 q e5 h5 hle => by
        refine ⟨q, t, m, rfl, h5, e5 _ _ q2, ?_, fun m' hm' => ?_⟩
        · rw [tk hm]
          exact List.mem_append_right _ (List.mem_singleton.mpr rfl)
        · rw [tk hm] at hm'
          rcases List.mem_append.mp hm' with z | z
          · exact hle m' z
          · rw [List.mem_singleton.mp z]
            exact Nat.le_refl _
      rcases hb with ⟨rfl, rfl⟩ | ⟨hi0, hb⟩
      · refine brT (decide_eq_true rfl) ?_
        refine brT rfl ?_
        walk_at "go"
        refine ⟨szs (show 2 ≤ 100000 by decide), w_new fun q H5 hq e5 h5 => ?_⟩
        exact ⟨(e3.trans e4).trans e5, _, _, _, _, rfl, .inr ⟨Nat.succ_pos _, take H5 q e5 h5 fun m' hm' => by rw [List.take_zero] at hm'; cases hm'⟩⟩
      · obtain ⟨bt, bm, m0, rfl, b1, b2, b3, b4⟩ := hb.up e4
        refine brF rfl ?_
        walk_at "go"
        refine w_ixT (SqT.of b1) rfl ?_
        refine w_I0 ?_
        walk_at "go"
        rw [lt_V]
        refine br (fun z => ?_) (fun z => ?_)
        · walk_at "go"
          refine ⟨szs (show 2 ≤ 100000 by decide), w_new fun q H5 hq e5 h5 => ?_⟩
          exact ⟨(e3.trans e4).trans e5, _, _, _, _, rfl, .inr ⟨Nat.succ_pos _, take H5 q e5 h5 fun m' hm' => by
            have := b4 m' hm'
            have := of_decide_eq_true z
            omega⟩⟩
        · walk_at "go"
          refine ⟨e3.trans e4, _, _, _, _, rfl, .inr ⟨Nat.succ_pos _, bt, bm, m0, rfl, b1, b2, ?_, fun m' hm' => ?_⟩⟩
          · rw [tk hm]
            exact List.mem_append_left _ b3
          · rw [tk hm] at hm'
            rcases List.mem_append.mp hm' with q | q
            · exact b4 m' q
            · rw [List.mem_singleton.mp q]
              have := of_decide_eq_false z
              omega
    · rintro σ' H3 ⟨e3, v1, v2, v3, b, rfl, hb⟩
      walk_at "go"
      have hlen : us.length = (mlF G hs).length := Paired.length hp
      rcases hb with ⟨z, _⟩ | ⟨_, hb⟩
      · exfalso
        rw [List.length_map, hlen] at z
        exact hne (List.eq_nil_of_length_eq_zero z)
      · rw [List.length_map, hlen, List.take_length] at hb
        exact k b H3 (e1.trans e3) hb
/-! ### most moves -/
/-- so many moves at most -/
def Most (G : G0) (hs : List Str) (c : Nat) : Prop := (ocF G hs = "won" → ∃ m ∈ mlF G hs, (∀ m' ∈ mlF G hs, stepsF G (hs.set m.1 m.2) ≤ stepsF G (hs.set m'.1 m'.2)) ∧ c = 1 + 2 * stepsF G (hs.set m.1 m.2)) ∧ (ocF G hs = "lost" → c = 2 * stepsF G hs)
def sp_most_moves (K : PySem.W.Frag) : Sp := fun vs H Q _ => ∃ (g h : Addr) (G : G0) (hs : List Str), vs = [.ref g, .ref h] ∧ GAt K H g G ∧ LAt H h hs ∧ GOk G ∧ Txt G ∧ HOk' G hs ∧ ocF G hs ≠ "drawn" ∧ ∀ c H2, Ex H H2 → Most G hs c → Q (nV c) H2
theorem sc_most_moves : FnScope ["ground", "heap", "labels"] ["ground", "heap"] (defScope s_most_moves) := ⟨rfl, rfl, rfl, by decide +kernel, rfl, by decide +kernel, by decide +kernel⟩
theorem D_most_moves (T : Tx K mg) : Def P w K mg base 10 (He.ga K "most_moves") ["ground", "heap"] (sp_most_moves K) := by
  refine Def.make T (d := d_most_moves) 34 rfl rfl rfl sc_most_moves (fun _ _ _ _ _ _ us hl => match us, hl with | [_, _], _ => rfl) (fun vs H Q E h => ?_) (fun cdv A outer s H vs Q E hr h => ?_)
  · obtain ⟨g, h, G, hs, rfl, _⟩ := h
    rfl
  · obtain ⟨g, h, G, hs, rfl, hG, hL, gok, tx, hO, hnd, k⟩ := h
    have nd := sc_most_moves.nd
    refine ⟨_, (pss_cons (ps_set (i := 2) nd rfl (Or.inl rfl) (pe_callX (D_labels_for T) (hr.mono (by decide)) rfl T.g_labels_for (pa_cons (pv 0) (pa_cons (pv 1) pa_nil))))
    (pss_cons (ps_if (pt_cmpR op_eq (PE.alt (pe_methX0 (D_Numbered_outcome T) (hr.mono (by decide)) T.c_Numbered T.m_Numbered_outcome (pe_callX (D_worth_in T) (hr.mono (by decide)) rfl T.g_worth_in (pa_cons (pv 2) (pa_cons (pv 1) pa_nil)))) (pe_methX0 (D_Endless_outcome T) (hr.mono (by decide)) T.c_Endless T.m_Endless_outcome (pe_callX (D_worth_in T) (hr.mono (by decide)) rfl T.g_worth_in (pa_cons (pv 2) (pa_cons (pv 1) pa_nil))))) pe_str (nomark _)) (pss_one (ps_ret (pe_op op_add pe_int (pe_op op_mul pe_int (pe_ix ix_tup (pe_callX (D_best_move T) (hr.mono (by decide)) rfl T.g_best_move (pa_cons (pv 0) (pa_cons (pv 2) (pa_cons (pv 1) pa_nil)))) pe_int (fun _ _ => rfl)))))) pss_nil)
    (pss_cons (ps_expr (pe_callX (D_need_outcome T) (hr.mono (by decide)) rfl T.g_need_outcome (pa_cons (pv 2) (pa_cons (pv 1) (pa_cons pe_str pa_nil)))))
    (pss_one (ps_ret (pe_op op_mul pe_int (pe_callX (D_steps_of T) (hr.mono (by decide)) rfl T.g_steps_of (pa_cons (pv 2) (pa_cons (pv 1) pa_nil))))))))), ?_⟩
    walk_at "go"
    refine ⟨g, h, G, hs, rfl, hG, hL, gok, tx, hO, fun d H1 e1 hD => ?_⟩
    walk_at "go"
    refine w_out (ba := h) (bb := h) (wtF G hs) fun R hR => ?_
    walk_at "go"
    refine ⟨d, h, G, hs, rfl, hD, e1 _ _ hL, gok, hO, fun p H2 e2 hw => hR p H2 hw ?_⟩
    walk_at "go"
    have e12 := e1.trans e2
    by_cases z : ocF G hs = "won"
    · refine brT (decide_eq_true (congrArg V.str z)) ?_
      walk_at "go"
      have hne : mlF G hs ≠ [] := by
        obtain ⟨m, hm⟩ := won_has gok hO.ins z
        exact List.ne_nil_of_mem hm
      refine ⟨g, d, h, G, hs, rfl, hG.up e12, hD.up e2, e12 _ _ hL, gok, hO, hne, fun v H3 e3 hb => ?_⟩
      obtain ⟨t, mt, m, rfl, b1, b2, b3, b4⟩ := hb
      walk_at "go"
      refine w_ixT (SqT.of b1) rfl ?_
      walk_at "go"
      refine w_I (.inl ⟨by decide, by decide⟩) ?_
      walk_at "go"
      refine k (1 + 2 * stepsF G (hs.set m.1 m.2)) H3 (e12.trans e3) ⟨fun _ => ⟨m, b3, b4, rfl⟩, fun q => ?_⟩
      rw [z] at q
      exact absurd q.symm s_lw
    · have zl : ocF G hs = "lost" := by
        rcases three gok hs with q | q | q
        · exact q
        · exact absurd q z
        · exact absurd q hnd
      refine brF (decide_eq_false fun q => z (V.str.inj q)) ?_
      walk_at "go"
      refine ⟨d, h, G, hs, by rw [zl], hD.up e2, e12 _ _ hL, gok, hO, fun H3 e3 => ?_⟩
      walk_at "go"
      refine ⟨d, h, G, hs, rfl, hD.up (e2.trans e3), (e12.trans e3) _ _ hL, hO, lost_nums gok zl, fun H4 e4 => ?_⟩
      walk_at "go"
      refine w_I (.inl ⟨by decide, by decide⟩) ?_
      refine k (2 * stepsF G hs) H4 ((e12.trans e3).trans e4) ⟨fun q => absurd q z, fun _ => rfl⟩
end
end K96

set_option Elab.async false
set_option linter.all false
set_option maxRecDepth 100000
set_option maxHeartbeats 4000000
/-! K96I: drawers. -/
namespace K96
open PySem PySem.Spec PyProof.Rows L2
open Evl (Ex)
open K96M (Gr)
local macro_rules | `(tactic| walk_at "go") => `(tactic| repeat (first
  | with_reducible refine w_seq ?_
  | with_reducible refine w_asg ?_
  | with_reducible refine w_name ?_
  | with_reducible refine w_var rfl ?_
  | with_reducible refine w_c ?_
  | with_reducible refine w_op ?_
  | with_reducible refine w_I0 ?_
  | with_reducible refine w_drop ?_
  | with_reducible refine w_ret ?_
  | with_reducible refine w_if ?_
  | with_reducible refine w_next ?_
  | with_reducible refine w_test ?_
  | with_reducible refine w_B ?_
  | with_reducible refine w_bl ?_
  | with_reducible refine w_not ?_
  | with_reducible refine w_and ?_
  | with_reducible refine w_or ?_
  | with_reducible refine w_andV ?_
  | with_reducible refine w_orV ?_
  | with_reducible refine w_notV ?_
  | with_reducible refine w_cons ?_
  | with_reducible refine w_nil ?_
  | with_reducible refine w_cb ?_
  | with_reducible refine w_call ?_
  | with_reducible refine w_isN ?_
  | with_reducible refine w_notN ?_
  | with_reducible refine w_chain ?_
  | with_reducible refine w_sl ?_
  | with_reducible refine w_nopart ?_
  | with_reducible refine w_tupT ?_
  | with_reducible refine w_lstT ?_
  | with_reducible refine w_eq rfl ?_
  | with_reducible refine w_ne rfl ?_
  | with_reducible refine w_for ?_
  | with_reducible refine w_iL ?_
  | with_reducible refine w_iT ?_
  | with_reducible refine w_iR1 ?_
  | with_reducible refine w_iR2 ?_
  | with_reducible refine w_iE ?_
  | with_reducible refine w_iS ?_
  | with_reducible refine w_lc ?_
  | with_reducible refine w_nm ?_
  | with_reducible refine w_din ?_
  | with_reducible refine w_dnotin ?_
  | with_reducible refine w_dput ?_
  | with_reducible refine w_dget1 ?_
  | with_reducible refine w_dget2 ?_
  | with_reducible refine w_bm ?_
  | with_reducible refine w_bm0 ?_
  | with_reducible refine w_sfld ?_
  | with_reducible refine w_make ?_
  | with_reducible refine w_part ?_
  | with_reducible refine w_aug rfl ?_
  | with_reducible refine w_ip ?_
  | with_reducible refine w_yes ?_
  | with_reducible refine w_gcs ?_
  | with_reducible refine w_gnil ?_
  | with_reducible refine w_dget ?_
  | with_reducible refine w_fld ?_
  | with_reducible refine w_meth ?_))
local macro_rules | `(tactic| walk_at "ex") => `(tactic| repeat (first | assumption | exact Ex.refl _ | refine Ex.trans ?_ (by assumption)))
/-- the tokens of endless places -/
def tokF (G : G0) (hs : List Str) : List Nat := (List.range hs.length).filter fun i => match hs[i]? with
  | some x => isE G x
  | none => false
def tokB (G : G0) (hs : List Str) (i : Nat) : Bool := match hs[i]? with
  | some x => isE G x
  | none => false
theorem tok_ends (G : G0) (hs : List Str) : ∀ n, n ≤ hs.length → ((List.range n).filter (tokB G hs)).filterMap (fun i => hs[i]?) = ends G (hs.take n)
  | 0, _ => rfl
  | n + 1, h => by
    have hx : hs[n]? = some hs[n] := List.getElem?_eq_getElem (by omega)
    rw [List.range_succ, List.filter_append, List.filterMap_append, tok_ends G hs n (by omega), tk hx, ends_app]
    congr 1
    have hb : tokB G hs n = isE G hs[n] := by unfold tokB; rw [hx]
    cases q : isE G hs[n] with
    | true =>
      rw [List.filter_cons, if_pos (by rw [hb, q]), ends_cons_e q, List.filter_nil, List.filterMap_cons, hx]
      rfl
    | false =>
      rw [List.filter_cons, if_neg (by rw [hb, q]; exact Bool.false_ne_true), ends_cons_n q]
      rfl
theorem tok_all (G : G0) (hs : List Str) : (tokF G hs).filterMap (fun i => hs[i]?) = ends G hs := by
  have h := tok_ends G hs hs.length (Nat.le_refl _)
  rw [List.take_length] at h
  exact h
theorem tok_len (G : G0) (hs : List Str) : (tokF G hs).length = (ends G hs).length := by
  rw [← tok_all G hs]
  have key : ∀ (l : List Nat), (∀ i ∈ l, i < hs.length) → (l.filterMap fun i => hs[i]?).length = l.length := by
    intro l
    induction l with
    | nil => intro _; rfl
    | cons i r ih =>
      intro h
      rw [List.filterMap_cons, List.getElem?_eq_getElem (h i (List.mem_cons_self ..))]
      show _ + 1 = _ + 1
      rw [ih fun j hj => h j (List.mem_cons_of_mem _ hj)]
  exact (key _ fun i hi => List.mem_range.mp (List.mem_filter.mp hi).1).symm
theorem tok_at {G : G0} {hs : List Str} {i : Nat} (h : i ∈ tokF G hs) : ∃ x, hs[i]? = some x ∧ isE G x = true := by
  obtain ⟨_, h2⟩ := List.mem_filter.mp h
  cases q : hs[i]? with
  | none => rw [q] at h2; cases h2
  | some x => rw [q] at h2; exact ⟨x, rfl, h2⟩
/-- the numbers of the set of an endless place lack what those beside it lack -/
theorem mex_bits {G : G0} (gok : GOk G) (x : Str) : mex (numsIn (setOf (besF G x))) = mex (besF G x) := by
  have hm := mex_spec (besF G x)
  have mem : ∀ l, l ∈ numsIn (setOf (besF G x)) ↔ l ∈ besF G x := fun l => by
    unfold numsIn
    rw [List.mem_filter, setOf_bit, decide_eq_true_eq, List.mem_range]
    constructor
    · exact fun h => h.2
    · exact fun h => ⟨(by have := bes_lt gok h; omega), h⟩
  exact mex_uniq (fun l hl => (mem l).mpr (hm.1 l hl)) fun z => hm.2 ((mem _).mp z)
theorem lab_isE {G : G0} {x : Str} {c : Nat} (h : labF G x = .endl c) : isE G x = true := by
  cases q : K96M.lab0 G x with
  | none => exact (lab_end q).2.2.2.1
  | some z => obtain ⟨n, s⟩ := z; rw [(lab_num q).1] at h; cases h
theorem pg_tupK {X : Cx} {K : PySem.W.Frag} {es : List Expr} {k : Nat} {t : TGs} {n : Nat} {pos : Pos} (hK : X.K = K) (hc : X.calm = true) (h : PGs X es t)
    (hn : (assignEach es X.env).length = n := by rfl) (hst : (assignEach es X.env).findIdx? (·.1) = none := by rfl) : PG X (.Tuple es k pos) (gTup K n t) := by
  subst hK
  exact pg_tup hc h hn hst
section
variable {P : Program} {w : World} {K : PySem.W.Frag} {mg : Str → Option Value} {base : Heap}
def sp_endless_tokens (K : PySem.W.Frag) : Sp := fun vs H Q _ => ∃ (d h : Addr) (G : G0) (hs : List Str), vs = [.ref d, .ref h] ∧ LsAt H d G ∧ LAt H h hs ∧ HOk' G hs ∧ ∀ p H2, Ex H H2 → H2 p = some (.lst ((tokF G hs).map nV)) → Q (.ref p) H2
theorem sc_endless_tokens : FnScope ["labels", "heap", "token", "name"] ["labels", "heap"] (defScope s_endless_tokens) := ⟨rfl, rfl, rfl, by decide +kernel, rfl, by decide +kernel, by decide +kernel⟩
theorem D_endless_tokens (T : Tx K mg) : Def P w K mg base 1 (He.ga K "endless_tokens") ["labels", "heap"] (sp_endless_tokens K) := by
  refine Def.make T (d := d_endless_tokens) 35 rfl rfl rfl sc_endless_tokens (fun _ _ _ _ _ _ us hl => match us, hl with | [_, _], _ => rfl) (fun vs H Q E h => ?_) (fun cdv A outer s H vs Q E hr h => ?_)
  · obtain ⟨d, h, G, hs, rfl, _⟩ := h
    rfl
  · obtain ⟨d, h, G, hs, rfl, hD, hL, hO, k⟩ := h
    have nd := sc_endless_tokens.nd
    have hu := hu_of hr
    have hlen := hO.len
    refine ⟨_, (pss_one (ps_ret (pe_lc (own := [("token", 2), ("name", 3)]) rfl nd (pi_enum (by rfl) T.f_enumerate (pa_cons (pv 1) pa_nil)) (blkOk_by (N := ["labels", "heap", "token", "name"]) (sc := defScope s_endless_tokens) (by decide +kernel)) (fun _ _ _ _ _ => (pg_tupK (K := K) (n := 2) rfl rfl (pgs_cons (pg_name (i := 2) nd rfl (Or.inl rfl)) (pgs_cons (pg_name (i := 3) nd rfl (Or.inl rfl)) pgs_nil)))) (fun _ _ _ _ _ => (pts_one (pt_cmpR op_eq (pe_ix (r := rIxT K) ix_tup (pe_dget hu (pv 0) (pv 3) (fun _ _ => rfl)) pe_int (fun _ _ => rfl)) pe_str (nomark _)))) (fun _ _ _ _ _ => (pv 2))))), ?_⟩
    walk_at "go"
    refine ⟨h, _, rfl, SqL.of hL, lc_E (K := K) (SqL.of hL) (fun i ys H' => ys = ((List.range i).filter (tokB G hs)).map nV) (fun _ _ _ _ _ q => q) rfl (by rw [List.length_map]; omega) ?_ ?_⟩
    · rintro i y T' ys H3 H4 hi e3 hys e4 hT N M hN hM
      obtain ⟨x, hx, rfl⟩ := map_at hi
      refine w_gtup ⟨T', _, rfl, SqT.of hT, rfl, ?_⟩
      walk_at "go"
      refine ⟨rfl, ?_⟩
      walk_at "go"
      have hxm : x ∈ hs := List.mem_of_getElem? hx
      obtain ⟨t, ht, hta⟩ := (hD.up (e3.trans e4)).get (hO.ins x hxm)
      refine ⟨d, _, rfl, ht, ?_⟩
      walk_at "go"
      have hb : tokB G hs i = isE G x := by unfold tokB; rw [hx]
      cases hl : K96M.lab0 G x with
      | some q =>
        obtain ⟨n, s⟩ := q
        rw [(lab_num hl).1] at hta
        refine w_ixT (SqT.of hta) rfl ?_
        walk_at "go"
        refine brF ne_ne ?_
        refine hM _ (Ex.refl _) ?_
        rw [List.range_succ, List.filter_append, List.filter_cons, if_neg (by rw [hb, (lab_num hl).2.2.2.1]; exact Bool.false_ne_true), hys]
        show _ = List.map nV (_ ++ [])
        rw [List.append_nil]
      | none =>
        rw [(lab_end hl).1] at hta
        refine w_ixT (SqT.of hta) rfl ?_
        walk_at "go"
        refine brT (decide_eq_true rfl) ?_
        walk_at "go"
        refine hN _ _ (Ex.refl _) ?_
        rw [List.range_succ, List.filter_append, List.filter_cons, if_pos (by rw [hb, (lab_end hl).2.2.2.1]), hys, List.map_append]
        rfl
    · rintro D ys H3 hD3 e3 h3 _ hys
      rw [List.length_map] at hys
      exact k D H3 e3 (by rw [h3, hys]; rfl)
def sp_numbered_sum (K : PySem.W.Frag) : Sp := fun vs H Q _ => ∃ (d h : Addr) (G : G0) (hs : List Str), vs = [.ref d, .ref h] ∧ LsAt H d G ∧ LAt H h hs ∧ HOk' G hs ∧ ∀ H2, Ex H H2 → Q (nV (xr G hs)) H2
theorem sc_numbered_sum : FnScope ["labels", "heap", "name"] ["labels", "heap"] (defScope s_numbered_sum) := ⟨rfl, rfl, rfl, by decide +kernel, rfl, by decide +kernel, by decide +kernel⟩
theorem D_numbered_sum (T : Tx K mg) : Def P w K mg base 2 (He.ga K "numbered_sum") ["labels", "heap"] (sp_numbered_sum K) := by
  refine Def.make T (d := d_numbered_sum) 36 rfl rfl rfl sc_numbered_sum (fun _ _ _ _ _ _ us hl => match us, hl with | [_, _], _ => rfl) (fun vs H Q E h => ?_) (fun cdv A outer s H vs Q E hr h => ?_)
  · obtain ⟨d, h, G, hs, rfl, _⟩ := h
    rfl
  · obtain ⟨d, h, G, hs, rfl, hD, hL, hO, k⟩ := h
    have nd := sc_numbered_sum.nd
    have hu := hu_of hr
    have hlen := hO.len
    refine ⟨_, (pss_one (ps_ret (pe_callX (D_summed T) (hr.mono (by decide)) rfl T.g_summed (pa_cons (pe_lc (own := [("name", 2)]) rfl nd (pi_list (pv 1)) (blkOk_by (N := ["labels", "heap", "name"]) (sc := defScope s_numbered_sum) (by decide +kernel)) (fun _ _ _ _ _ => (pg_name (i := 2) nd rfl (Or.inl rfl))) (fun _ _ _ _ _ => (pts_one (pt_cmpR op_eq (pe_ix (r := rIxT K) ix_tup (pe_dget hu (pv 0) (pv 2) (fun _ _ => rfl)) pe_int (fun _ _ => rfl)) pe_str (nomark _)))) (fun _ _ _ _ _ => (pe_ix (r := rIxT K) ix_tup (pe_dget hu (pv 0) (pv 2) (fun _ _ => rfl)) pe_int (fun _ _ => rfl)))) pa_nil)))), ?_⟩
    walk_at "go"
    refine ⟨h, rfl, ⟨_, SqL.of hL⟩, lc_L (K := K) (SqL.of hL) (fun i ys H' => ys = ((hs.take i).filterMap (numF G)).map nV) (fun _ _ _ _ _ q => q) rfl (by rw [List.length_map]; omega) ?_ ?_⟩
    · rintro i y ys H3 hi e3 hys N M hN hM
      obtain ⟨x, hx, rfl⟩ := map_at hi
      walk_at "go"
      refine ⟨rfl, ?_⟩
      walk_at "go"
      have hxm : x ∈ hs := List.mem_of_getElem? hx
      obtain ⟨t, ht, hta⟩ := (hD.up e3).get (hO.ins x hxm)
      refine ⟨d, _, rfl, ht, ?_⟩
      walk_at "go"
      have ft := fm_take (p := numF G) hx
      cases hl : K96M.lab0 G x with
      | some q =>
        obtain ⟨n, s⟩ := q
        rw [(lab_num hl).1] at hta
        refine w_ixT (SqT.of hta) rfl ?_
        walk_at "go"
        refine brT (decide_eq_true rfl) ?_
        walk_at "go"
        refine ⟨d, _, rfl, ht, ?_⟩
        walk_at "go"
        refine w_ixT (SqT.of hta) rfl ?_
        refine hN _ _ (Ex.refl _) ?_
        rw [ft, hys, (lab_num hl).2.2.2.2, List.map_append]
        rfl
      | none =>
        rw [(lab_end hl).1] at hta
        refine w_ixT (SqT.of hta) rfl ?_
        walk_at "go"
        refine brF ne_en ?_
        refine hM _ (Ex.refl _) ?_
        rw [ft, hys, (lab_end hl).2.2.2.2]
        show _ = List.map nV (_ ++ [])
        rw [List.append_nil]
    · rintro D ys H3 hD3 e3 h3 _ hys
      walk_at "go"
      rw [List.length_map, List.take_length] at hys
      refine ⟨D, hs.filterMap (numF G), rfl, SqL.of (by rw [h3, hys]), ?_⟩
      rw [xr_fm]
      exact k H3 e3
def sp_to_endless (K : PySem.W.Frag) : Sp := fun vs H Q _ => ∃ (g d h : Addr) (G : G0) (hs : List Str) (i : Nat) (a : Str), vs = [.ref g, .ref d, .ref h, nV i] ∧ GAt K H g G ∧ LsAt H d G ∧ LAt H h hs ∧ GOk G ∧ HOk' G hs ∧ hs[i]? = some a ∧ isE G a = true ∧
  ∀ t H2 o, Ex H H2 → o ∈ G.rd a → isE G o = true → MAt H2 t (i, o) → Q (.ref t) H2
theorem sc_to_endless : FnScope ["ground", "labels", "heap", "token", "place"] ["ground", "labels", "heap", "token"] (defScope s_to_endless) := ⟨rfl, rfl, rfl, by decide +kernel, rfl, by decide +kernel, by decide +kernel⟩
theorem D_to_endless (T : Tx K mg) : Def P w K mg base 2 (He.ga K "to_endless") ["ground", "labels", "heap", "token"] (sp_to_endless K) := by
  refine Def.make T (d := d_to_endless) 37 rfl rfl rfl sc_to_endless (fun _ _ _ _ _ _ us hl => match us, hl with | [_, _, _, _], _ => rfl) (fun vs H Q E h => ?_) (fun cdv A outer s H vs Q E hr h => ?_)
  · obtain ⟨g, d, h, G, hs, i, a, rfl, _⟩ := h
    rfl
  · obtain ⟨g, d, h, G, hs, n, a, rfl, hG, hD, hL, gok, hO, hi, ha, k⟩ := h
    have nd := sc_to_endless.nd
    have hu := hu_of hr
    have han := hO.ins a (List.mem_of_getElem? hi)
    obtain ⟨dx, _, _, hg, _⟩ := id hG
    refine ⟨_, (pss_cons (ps_for PassesOwn.never rfl (pi_list (pe_methX (D_Ground_roads_from T) (hr.mono (by decide)) T.c_Ground T.m_Ground_roads_from (pv 0) (pa_cons (pe_ix ix_list (pv 2) (pv 3) (fun _ _ => rfl)) pa_nil))) (pg_name (i := 4) nd rfl (Or.inl rfl))
    (pss_one (ps_if (pt_cmpR op_eq (pe_ix ix_tup (pe_dget hu (pv 1) (pv 4) (fun _ _ => rfl)) pe_int (fun _ _ => rfl)) pe_str (nomark _)) (pss_one (ps_ret (PE.nm (pe_tup (pa_cons (pv 3) (pa_cons (pv 4) pa_nil)))))) pss_nil)))
    (pss_one (ps_ret pe_non))), ?_⟩
    walk_at "go"
    refine ⟨g, dx, _, rfl, hg, rfl, ?_⟩
    walk_at "go"
    refine w_ixL (SqL.of hL) (v := sV a) (atI_nat (by rw [List.getElem?_map, hi]; rfl)) ?_
    walk_at "go"
    refine ⟨g, G, a, rfl, hG, han, fun p H1 hp e1 hP => ?_⟩
    refine ⟨p, rfl, ⟨_, SqL.of hP⟩, for_list (K := K) (a := p) (xs := (G.rd a).map sV) (fun j σ' H4 => H4 = H1 ∧ (∀ o ∈ (G.rd a).take j, isE G o = false) ∧ ∃ v, σ' = [some (.ref g), some (.ref d), some (.ref h), some (nV n), v]) ⟨rfl, fun o ho => (by rw [List.take_zero] at ho; cases ho), none, rfl⟩ (fun i σ' H4 _ ⟨e, _⟩ => by rw [e]; exact SqL.of hP) ?_ ?_⟩
    · rintro j y σ' H4 hj ⟨rfl, hno, v, rfl⟩
      obtain ⟨o, ho, rfl⟩ := map_at hj
      have hom : o ∈ G.rd a := List.mem_of_getElem? ho
      obtain ⟨t2, ht2, hto⟩ := (hD.up e1).get (gok.ok.cl a han o hom)
      walk_at "go"
      refine ⟨d, _, rfl, ht2, ?_⟩
      walk_at "go"
      cases hl : K96M.lab0 G o with
      | some q =>
        obtain ⟨m, s⟩ := q
        rw [(lab_num hl).1] at hto
        refine w_ixT (SqT.of hto) rfl ?_
        walk_at "go"
        refine brF ne_ne ?_
        walk_at "go"
        refine ⟨rfl, fun o' ho' => ?_, _, rfl⟩
        rw [tk ho] at ho'
        rcases List.mem_append.mp ho' with q | q
        · exact hno o' q
        · rw [List.mem_singleton.mp q]; exact (lab_num hl).2.2.2.1
      | none =>
        rw [(lab_end hl).1] at hto
        refine w_ixT (SqT.of hto) rfl ?_
        walk_at "go"
        refine brT (decide_eq_true rfl) ?_
        walk_at "go"
        refine ⟨szs (show 2 ≤ 100000 by decide), w_new fun q H5 hq e5 h5 => ?_⟩
        exact k q H5 o (e1.trans e5) hom (lab_end hl).2.2.2.1 h5
    · rintro σ' H4 ⟨rfl, hno, v, rfl⟩
      exfalso
      rw [List.length_map, List.take_length] at hno
      obtain ⟨o, ho, ho2⟩ := endless_road gok han ha
      rw [hno o ho] at ho2
      cases ho2
def sp_to_sum (K : PySem.W.Frag) : Sp := fun vs H Q _ => ∃ (g d h : Addr) (G : G0) (hs : List Str) (c : Nat), vs = [.ref g, .ref d, .ref h, nV c] ∧ GAt K H g G ∧ LsAt H d G ∧ LAt H h hs ∧ GOk G ∧ HOk' G hs ∧ c < xr G hs ∧
  ∀ t H2 m a, Ex H H2 → m ∈ movesF G hs → hs[m.1]? = some a → isE G a = false → isE G m.2 = false → xr G (hs.set m.1 m.2) = c → MAt H2 t m → Q (.ref t) H2
theorem nV_inj {a b : Nat} : decide (nV a = nV b) = decide (a = b) := by
  by_cases z : a = b
  · rw [decide_eq_true z, decide_eq_true (congrArg nV z)]
  · rw [decide_eq_false z]
    exact decide_eq_false fun q => z (by have := V.int.inj q; omega)
theorem sc_to_sum : FnScope ["ground", "labels", "heap", "wanted", "move"] ["ground", "labels", "heap", "wanted"] (defScope s_to_sum) := ⟨rfl, rfl, rfl, by decide +kernel, rfl, by decide +kernel, by decide +kernel⟩
theorem D_to_sum (T : Tx K mg) : Def P w K mg base 4 (He.ga K "to_sum") ["ground", "labels", "heap", "wanted"] (sp_to_sum K) := by
  refine Def.make T (d := d_to_sum) 38 rfl rfl rfl sc_to_sum (fun _ _ _ _ _ _ us hl => match us, hl with | [_, _, _, _], _ => rfl) (fun vs H Q E h => ?_) (fun cdv A outer s H vs Q E hr h => ?_)
  · obtain ⟨g, d, h, G, hs, c, rfl, _⟩ := h
    rfl
  · obtain ⟨g, d, h, G, hs, c, rfl, hG, hD, hL, gok, hO, hc, k⟩ := h
    have nd := sc_to_sum.nd
    have hu := hu_of hr
    refine ⟨_, (pss_cons (ps_for PassesOwn.never rfl (pi_list (pe_callX (D_moves_of T) (hr.mono (by decide)) rfl T.g_moves_of (pa_cons (pv 0) (pa_cons (pv 2) pa_nil)))) (pg_name (i := 4) nd rfl (Or.inl rfl))
    (pss_one (ps_if (PW.pt (pw_and (pt_cmpR op_eq (pe_ix ix_tup (pe_dget hu (pv 1) (pe_ix ix_list (pv 2) (pe_ix ix_tup (pv 4) pe_int (fun _ _ => rfl)) (fun _ _ => rfl)) (fun _ _ => rfl)) pe_int (fun _ _ => rfl)) pe_str (nomark _)) (pw_and1 (pt_cmpR op_eq (pe_ix ix_tup (pe_dget hu (pv 1) (pe_ix ix_tup (pv 4) pe_int (fun _ _ => rfl)) (fun _ _ => rfl)) pe_int (fun _ _ => rfl)) pe_str (nomark _))))) (pss_one (ps_if (pt_cmpR op_eq (pe_callX (D_numbered_sum T) (hr.mono (by decide)) rfl T.g_numbered_sum (pa_cons (pv 1) (pa_cons (pe_callX (D_after T) (hr.mono (by decide)) rfl T.g_after (pa_cons (pv 0) (pa_cons (pv 2) (pa_cons (pv 4) pa_nil)))) pa_nil))) (pv 3) (nomark _)) (pss_one (ps_ret (pv 4))) pss_nil)) pss_nil)))
    (pss_one (ps_ret pe_non))), ?_⟩
    walk_at "go"
    refine ⟨g, h, G, hs, rfl, hG, hL, gok, hO, fun p H1 hp e1 hM => ?_⟩
    obtain ⟨ts, hts, hpair⟩ := hM
    refine ⟨p, rfl, ⟨_, SqL.of hts⟩, for_list (K := K) (a := p) (xs := ts.map V.ref) (fun i σ' H3 => Ex H1 H3 ∧ (∀ m ∈ (movesF G hs).take i, ∀ a, hs[m.1]? = some a → isE G a = false → isE G m.2 = false → xr G (hs.set m.1 m.2) ≠ c) ∧ ∃ v, σ' = [some (.ref g), some (.ref d), some (.ref h), some (nV c), v]) ⟨Ex.refl _, fun m hm => (by rw [List.take_zero] at hm; cases hm), none, rfl⟩ (fun i σ' H3 _ ⟨e, _⟩ => SqL.of (e _ _ hts)) ?_ ?_⟩
    · rintro i y σ' H3 hi ⟨e3, hno, v, rfl⟩
      obtain ⟨t, ht, rfl⟩ := map_at hi
      obtain ⟨m, hm, hmt⟩ := Paired.at_ hpair ht
      have hmm : m ∈ movesF G hs := List.mem_of_getElem? hm
      have hmt : MAt H3 t m := e3 _ _ hmt
      obtain ⟨a, ha, hb⟩ := mem_movesF.mp hmm
      have e13 := e1.trans e3
      have han := hO.ins a (List.mem_of_getElem? ha)
      have a0 : atI [nV m.1, sV m.2] 0 = some (nV m.1) := rfl
      have a1 : atI [nV m.1, sV m.2] 1 = some (sV m.2) := rfl
      have more : (∀ a, hs[m.1]? = some a → isE G a = false → isE G m.2 = false → xr G (hs.set m.1 m.2) ≠ c) → ∀ m ∈ (movesF G hs).take (i + 1), ∀ a, hs[m.1]? = some a → isE G a = false → isE G m.2 = false → xr G (hs.set m.1 m.2) ≠ c := fun q m' hm' => by
        rw [tk hm] at hm'
        rcases List.mem_append.mp hm' with z | z
        · exact hno m' z
        · rw [List.mem_singleton.mp z]; exact q
      obtain ⟨u1, hu1, hua⟩ := (hD.up e13).get han
      obtain ⟨u2, hu2, hub⟩ := (hD.up e13).get (gok.ok.cl a han _ hb)
      walk_at "go"
      refine w_ixT (SqT.of hmt) a0 ?_
      walk_at "go"
      refine w_ixL (SqL.of (e13 _ _ hL)) (v := sV a) (atI_nat (by rw [List.getElem?_map, ha]; rfl)) ?_
      refine ⟨d, _, rfl, hu1, ?_⟩
      walk_at "go"
      cases hla : K96M.lab0 G a with
      | none =>
        rw [(lab_end hla).1] at hua
        refine w_ixT (SqT.of hua) rfl ?_
        walk_at "go"
        refine brF ne_en ?_
        refine brF rfl ?_
        walk_at "go"
        refine ⟨e3, more fun a' ha' hE => ?_, _, rfl⟩
        rw [ha] at ha'
        cases ha'
        rw [(lab_end hla).2.2.2.1] at hE
        cases hE
      | some q =>
        obtain ⟨n, s⟩ := q
        rw [(lab_num hla).1] at hua
        refine w_ixT (SqT.of hua) rfl ?_
        walk_at "go"
        refine brT (decide_eq_true rfl) ?_
        walk_at "go"
        refine w_ixT (SqT.of hmt) a1 ?_
        refine ⟨d, _, rfl, hu2, ?_⟩
        walk_at "go"
        cases hlb : K96M.lab0 G m.2 with
        | none =>
          rw [(lab_end hlb).1] at hub
          refine w_ixT (SqT.of hub) rfl ?_
          walk_at "go"
          refine brF ne_en ?_
          walk_at "go"
          refine ⟨e3, more fun a' ha' _ hE => ?_, _, rfl⟩
          rw [(lab_end hlb).2.2.2.1] at hE
          cases hE
        | some q2 =>
          obtain ⟨n2, s2⟩ := q2
          rw [(lab_num hlb).1] at hub
          refine w_ixT (SqT.of hub) rfl ?_
          walk_at "go"
          refine brT (decide_eq_true rfl) ?_
          walk_at "go"
          refine ⟨g, h, t, G, hs, m, rfl, hG.up e13, e13 _ _ hL, hO, hmt, hmm, fun l H4 hl e4 hl4 => ?_⟩
          walk_at "go"
          refine ⟨d, l, G, _, rfl, hD.up (e13.trans e4), hl4, hset gok hO hmm, fun H5 e5 => ?_⟩
          walk_at "go"
          rw [nV_inj]
          refine br (fun z => ?_) (fun z => ?_)
          · walk_at "go"
            exact k t H5 m a ((e13.trans e4).trans e5) hmm ha (lab_num hla).2.2.2.1 (lab_num hlb).2.2.2.1 (of_decide_eq_true z) ((e4.trans e5) _ _ hmt)
          · walk_at "go"
            exact ⟨(e3.trans e4).trans e5, more fun _ _ _ _ => of_decide_eq_false z, _, rfl⟩
    · rintro σ' H3 ⟨e3, hno, v, rfl⟩
      exfalso
      have hlen : (movesF G hs).take (ts.map V.ref).length = movesF G hs := List.take_of_length_le (by rw [List.length_map, Paired.length hpair]; exact Nat.le_refl _)
      rw [hlen] at hno
      obtain ⟨i, a, b, h1, h2, h3, h4, h5⟩ := sum_move gok hO.ins hc
      exact hno (i, b) (mem_movesF.mpr ⟨a, h1, h2⟩) a h1 h3 h4 h5
def sp_drawn_move (K : PySem.W.Frag) : Sp := fun vs H Q _ => ∃ (g d h : Addr) (G : G0) (hs : List Str), vs = [.ref g, .ref d, .ref h] ∧ GAt K H g G ∧ LsAt H d G ∧ LAt H h hs ∧ GOk G ∧ Txt G ∧ HOk' G hs ∧ ocF G hs = "drawn" ∧
  ∀ t H2 m, Ex H H2 → MAt H2 t m → m ∈ movesF G hs → ocF G (hs.set m.1 m.2) = "drawn" → Q (.ref t) H2
theorem sc_drawn_move : FnScope ["ground", "labels", "heap", "tokens", "place", "wanted"] ["ground", "labels", "heap"] (defScope s_drawn_move) := ⟨rfl, rfl, rfl, by decide +kernel, rfl, by decide +kernel, by decide +kernel⟩
theorem D_drawn_move (T : Tx K mg) : Def P w K mg base 7 (He.ga K "drawn_move") ["ground", "labels", "heap"] (sp_drawn_move K) := by
  refine Def.make T (d := d_drawn_move) 39 rfl rfl rfl sc_drawn_move (fun _ _ _ _ _ _ us hl => match us, hl with | [_, _, _], _ => rfl) (fun vs H Q E h => ?_) (fun cdv A outer s H vs Q E hr h => ?_)
  · obtain ⟨g, d, h, G, hs, rfl, _⟩ := h
    rfl
  · obtain ⟨g, d, h, G, hs, rfl, hG, hD, hL, gok, tx, hO, hdr, k⟩ := h
    have nd := sc_drawn_move.nd
    have hu := hu_of hr
    have hdr' := (is_drawn gok).mp hdr
    have tl := tok_len G hs
    refine ⟨_, (pss_cons (ps_set (i := 3) nd rfl (Or.inl rfl) (pe_callX (D_endless_tokens T) (hr.mono (by decide)) rfl T.g_endless_tokens (pa_cons (pv 1) (pa_cons (pv 2) pa_nil))))
    (pss_cons (ps_if (pt_cmpR op_gt (pe_callB call_len_seq (by rfl) T.f_len (by decide +kernel) (pa_cons (pv 3) pa_nil)) pe_int (nomark _)) (pss_one (ps_ret (pe_callX (D_to_endless T) (hr.mono (by decide)) rfl T.g_to_endless (pa_cons (pv 0) (pa_cons (pv 1) (pa_cons (pv 2) (pa_cons (pe_ix ix_list (pv 3) pe_int (fun _ _ => rfl)) pa_nil))))))) pss_nil)
    (pss_cons (ps_set (i := 4) nd rfl (Or.inl rfl) (pe_ix ix_list (pv 2) (pe_ix ix_list (pv 3) pe_int (fun _ _ => rfl)) (fun _ _ => rfl)))
    (pss_cons (ps_set (i := 5) nd rfl (Or.inl rfl) (pe_callX (D_lacking T) (hr.mono (by decide)) rfl T.g_lacking (pa_cons (pe_callX (D_numbers_in T) (hr.mono (by decide)) rfl T.g_numbers_in (pa_cons (pe_ix ix_tup (pe_dget hu (pv 1) (pv 4) (fun _ _ => rfl)) pe_int (fun _ _ => rfl)) pa_nil)) pa_nil)))
    (pss_cons (ps_if (pt_cmpR op_eq (pe_callX (D_numbered_sum T) (hr.mono (by decide)) rfl T.g_numbered_sum (pa_cons (pv 1) (pa_cons (pv 2) pa_nil))) (pv 5) (nomark _)) (pss_one (ps_ret (PE.nm (pe_tup (pa_cons (pe_ix ix_list (pv 3) pe_int (fun _ _ => rfl)) (pa_cons (pe_ix ix_tup (pe_callX (D_open_road T) (hr.mono (by decide)) rfl T.g_open_road (pa_cons (pv 0) (pa_cons (pv 4) pa_nil))) pe_int (fun _ _ => rfl)) pa_nil)))))) pss_nil)
    (pss_one (ps_ret (pe_callX (D_to_sum T) (hr.mono (by decide)) rfl T.g_to_sum (pa_cons (pv 0) (pa_cons (pv 1) (pa_cons (pv 2) (pa_cons (pv 5) pa_nil)))))))))))), ?_⟩
    walk_at "go"
    refine ⟨d, h, G, hs, rfl, hD, hL, hO, fun p H1 e1 hP => ?_⟩
    walk_at "go"
    have hal := tok_all G hs
    match htok : tokF G hs with
    | [] =>
      exfalso
      rw [htok] at tl
      rcases hdr' with ⟨x, q, _⟩ | ⟨x, y, r, q⟩ <;> (rw [q] at tl; simp at tl)
    | i :: rest =>
      rw [htok] at hP hal tl
      obtain ⟨a, hi, ha⟩ := tok_at (G := G) (hs := hs) (i := i) (by rw [htok]; exact List.mem_cons_self ..)
      have han := hO.ins a (List.mem_of_getElem? hi)
      have p0 : atI ((i :: rest).map nV) 0 = some (nV i) := atI_nat (j := 0) rfl
      refine ⟨p, _, rfl, .inl (SqL.of hP), ?_⟩
      walk_at "go"
      have lens : (decide ((((i :: rest).map nV).length : Int) > 1)) = decide (1 < rest.length + 1) := by
        rw [List.length_map, List.length_cons]
        by_cases z : 1 < rest.length + 1
        · rw [decide_eq_true z, decide_eq_true (by omega)]
        · rw [decide_eq_false z, decide_eq_false (by omega)]
      refine br (fun z => ?_) (fun z => ?_)
      · walk_at "go"
        refine w_ixL (SqL.of hP) p0 ?_
        walk_at "go"
        refine ⟨g, d, h, G, hs, i, a, rfl, hG.up e1, hD.up e1, e1 _ _ hL, gok, hO, hi, ha, fun t H2 o e2 ho hoE hm => ?_⟩
        have two : 2 ≤ (ends G hs).length := by
          have := of_decide_eq_true z
          rw [List.length_map] at this
          rw [← tl]
          rw [List.length_cons] at this ⊢
          omega
        exact k t H2 (i, o) (e1.trans e2) hm (mem_movesF.mpr ⟨a, hi, ho⟩) (drawn_two gok two hi ha hoE)
      · walk_at "go"
        have one : rest = [] := by
          have := of_decide_eq_false z
          rw [List.length_map, List.length_cons] at this
          exact List.eq_nil_of_length_eq_zero (by omega)
        subst one
        have he : ends G hs = [a] := by
          rw [← hal, List.filterMap_cons, hi]
          rfl
        have hnb : xr G hs ∉ besF G a := by
          rcases hdr' with ⟨x, q, q2⟩ | ⟨x, y, r, q⟩
          · rw [he] at q; cases q; exact q2
          · rw [he] at q; cases q
        have hl0 := lab_of_e ha
        obtain ⟨t, ht, hta⟩ := (hD.up e1).get han
        rw [(lab_end hl0).1] at hta
        refine w_ixL (SqL.of hP) p0 ?_
        refine w_ixL (SqL.of (e1 _ _ hL)) (v := sV a) (atI_nat (by rw [List.getElem?_map, hi]; rfl)) ?_
        walk_at "go"
        refine ⟨d, _, rfl, ht, ?_⟩
        walk_at "go"
        refine w_ixT (SqT.of hta) rfl ?_
        walk_at "go"
        refine ⟨_, rfl, fun q H2 hq e2 hq2 => ?_⟩
        walk_at "go"
        refine ⟨q, _, rfl, SqL.of hq2, ?_⟩
        rw [mex_bits gok]
        walk_at "go"
        have e12 := e1.trans e2
        refine ⟨d, h, G, hs, rfl, hD.up e12, e12 _ _ hL, hO, fun H3 e3 => ?_⟩
        walk_at "go"
        have e13 := e12.trans e3
        have hm := mex_spec (besF G a)
        rw [nV_inj]
        refine br (fun z => ?_) (fun z => ?_)
        · have z := of_decide_eq_true z
          walk_at "go"
          refine w_ixL (SqL.of ((e2.trans e3) _ _ hP)) p0 ?_
          walk_at "go"
          refine ⟨g, G, a, _, rfl, hG.up e13, gok, tx, han, (lab_end hl0).1, fun u H4 o b e4 ho hlo hb h4 => ?_⟩
          walk_at "go"
          refine w_ixT (SqT.of h4) rfl ?_
          walk_at "go"
          refine ⟨szs (show 2 ≤ 100000 by decide), w_new fun v H5 hv e5 h5 => ?_⟩
          have hoE := lab_isE hlo
          have hb2 : b = setOf (besF G o) := by
            rw [(lab_end (lab_of_e hoE)).1] at hlo
            injection hlo with hlo
            exact hlo.symm
          rw [hb2, setOf_bit] at hb
          exact k v H5 (i, o) ((e13.trans e4).trans e5) h5 (mem_movesF.mpr ⟨a, hi, ho⟩) (drawn_eq gok he hi hoE (by rw [z]; exact of_decide_eq_false hb))
        · have z := of_decide_eq_false z
          walk_at "go"
          have hlt : mex (besF G a) < xr G hs := by
            rcases Nat.lt_trichotomy (xr G hs) (mex (besF G a)) with q | q | q
            · exact absurd (hm.1 _ q) hnb
            · exact absurd q z
            · exact q
          refine ⟨g, d, h, G, hs, _, rfl, hG.up e13, hD.up e13, e13 _ _ hL, gok, hO, hlt, fun t H4 m b e4 hmm hb hbE hmE hx hmt => ?_⟩
          exact k t H4 m (e13.trans e4) hmt hmm (drawn_sum gok he hb hbE hmE (by rw [hx]; exact hm.2))
end
end K96

set_option Elab.async false
set_option linter.all false
set_option maxRecDepth 100000
set_option maxHeartbeats 4000000
/-! K96P: a nested def that a def gives back: its cells are told of in the heap, and taken out while it runs. -/
namespace K96
open PySem PySem.Spec PyProof.Rows L2 LamX NdefX
open Evl (Ex)
/-- a cell that holds v -/
def CellO (c : Addr) (v : V) : HO := .ext fun h => ∃ u, RelV v u ∧ h.IsCell c (some u)
theorem cellO_ok {P : Program} {w : World} {H : Hp} {h : Heap} {c : Addr} {v : V} {u : Value} (r : RelV v u) (x : h.IsCell c (some u)) : ObjOk P w H h c (CellO c v) := by
  refine ⟨⟨u, r, x⟩, ?_, fun h1 h2 ⟨u', r', o, e, d⟩ k => ⟨u', r', o, k o e, d⟩⟩
  obtain ⟨o, e, _⟩ := x
  exact ⟨o, e⟩
theorem cellO_at {P : Program} {w : World} {H : Hp} {h : Heap} {c : Addr} {v : V} (hok : HOk P w H h) (e : H c = some (CellO c v)) : ∃ u, RelV v u ∧ h.IsCell c (some u) := by
  obtain ⟨z, _, _⟩ := hok c _ e
  exact z
/-- the entries of a source -/
def srcK (n s t : Int) : List (Key × V) := [(.inr "number", .int n), (.inr "seed", .int s), (.inr "turn", .int t)]
def notS (o : HO) : Prop := ∀ n s t, o ≠ .dK (srcK n s t)
/-- a thing that is no table, no source and no other -/
def plO : HO → Prop
  | .tbl _ => False
  | .ext _ => False
  | .dK kvs => ∀ n s t, kvs ≠ srcK n s t
  | _ => True
theorem plO.ns {o : HO} (h : plO o) : notS o := fun n s t z => by
  subst z
  exact h n s t rfl
/-- all but sources and tables stand -/
def Es (H H' : Hp) : Prop := ∀ a o, H a = some o → (∀ ps, o ≠ .tbl ps) → notS o → H' a = some o
/-- all but sources stand -/
def Et (H H' : Hp) : Prop := ∀ a o, H a = some o → notS o → H' a = some o
/-- all plain things stand -/
def Ew (H H' : Hp) : Prop := ∀ a o, H a = some o → plO o → H' a = some o
theorem Ew.of {H H' : Hp} (e : Ex H H') : Ew H H' := fun a o h _ => e a o h
theorem Ew.ofN {H H' : Hp} (e : ExtN H H') : Ew H H' := fun a o h p => e a o h fun ps z => by rw [z] at p; exact p
theorem Et.of {H H' : Hp} (e : Ex H H') : Et H H' := fun a o h _ => e a o h
theorem Et.trans {H H1 H2 : Hp} (a : Et H H1) (b : Et H1 H2) : Et H H2 := fun c o h p => b c o (a c o h p) p
theorem Et.refl (H : Hp) : Et H H := fun _ _ h _ => h
theorem Es.ofN {H H' : Hp} (e : ExtN H H') : Es H H' := fun a o h p _ => e a o h p
theorem Es.of {H H' : Hp} (e : Ex H H') : Es H H' := fun a o h _ _ => e a o h
theorem Es.ofT {H H' : Hp} (e : Et H H') : Es H H' := fun a o h _ p => e a o h p
theorem Es.trans {H H1 H2 : Hp} (a : Es H H1) (b : Es H1 H2) : Es H H2 := fun c o h p q => b c o (a c o h p q) p q
theorem Ew.ofS {H H' : Hp} (e : Es H H') : Ew H H' := fun a o h p => e a o h (fun ps z => by rw [z] at p; exact p) p.ns
theorem Et.ew {H H' : Hp} (e : Et H H') : Ew H H' := fun a o h p => e a o h p.ns
theorem Et.tm {H H' : Hp} (e : Et H H') : Tm H H' := fun a xs h => e a _ h fun _ _ _ z => by cases z
theorem Et.mut {H H1 : Hp} {p : Addr} {o : HO} (e : Et H H1) (h : H p = none) : Et H (upd H1 p o) := fun a u ha n => by
  rw [upd_ne fun z => by rw [z, h] at ha; cases ha]
  exact e a u ha n
theorem Ew.trans {H H1 H2 : Hp} (a : Ew H H1) (b : Ew H1 H2) : Ew H H2 := fun c o h p => b c o (a c o h p) p
theorem Ew.refl (H : Hp) : Ew H H := fun _ _ h _ => h
theorem exN {H H' : Hp} (e : Ex H H') : ExtN H H' := ExtN.of e
/-! ### cells taken out, put back -/
def cutH (cs : List Addr) (H : Hp) : Hp := fun a => if a ∈ cs then none else H a
def mixH (cs : List Addr) (H H2 : Hp) : Hp := fun a => if a ∈ cs then H a else H2 a
theorem cut_in {cs : List Addr} {H : Hp} {a : Addr} (h : a ∈ cs) : cutH cs H a = none := if_pos h
theorem cut_out {cs : List Addr} {H : Hp} {a : Addr} (h : a ∉ cs) : cutH cs H a = H a := if_neg h
theorem mix_in {cs : List Addr} {H H2 : Hp} {a : Addr} (h : a ∈ cs) : mixH cs H H2 a = H a := if_pos h
theorem mix_out {cs : List Addr} {H H2 : Hp} {a : Addr} (h : a ∉ cs) : mixH cs H H2 a = H2 a := if_neg h
/-- all of cs are cells -/
def Cells (cs : List Addr) (H : Hp) : Prop := ∀ c ∈ cs, ∃ v, H c = some (CellO c v)
theorem Cells.out {cs : List Addr} {H : Hp} (C : Cells cs H) {a : Addr} {o : HO} (h : H a = some o) (p : ∀ φ, o ≠ .ext φ) : a ∉ cs := fun z => by
  obtain ⟨v, e⟩ := C a z
  rw [h] at e
  exact p _ (Option.some.inj e)
theorem Cells.ew {cs : List Addr} {H : Hp} (C : Cells cs H) : Ew H (cutH cs H) := fun a o h p => by
  rw [cut_out (C.out h fun φ z => by rw [z] at p; exact p)]
  exact h
theorem cut_ok {P : Program} {w : World} {cs : List Addr} {H : Hp} {h : Heap} (x : HOk P w H h) (C : Cells cs H) : HOk P w (cutH cs H) h := fun a o e => by
  by_cases z : a ∈ cs
  · rw [cut_in z] at e; cases e
  · rw [cut_out z] at e
    refine (x a o e).stay (fun b u _ q => q) (fun b q => ?_) fun b xs q => ?_
    · rw [cut_out (C.out q fun φ z => by cases z)]; exact q
    · rw [cut_out (C.out q fun φ z => by cases z)]; exact q
theorem mix_ex {cs : List Addr} {H H2 : Hp} (e : Ex (cutH cs H) H2) : Ex H (mixH cs H H2) := fun a o h => by
  by_cases z : a ∈ cs
  · rw [mix_in z]; exact h
  · rw [mix_out z]
    exact e a o (by rw [cut_out z]; exact h)
theorem mix_ew {cs : List Addr} {H H2 : Hp} (n : ∀ c ∈ cs, H2 c = none) : Ex H2 (mixH cs H H2) := fun a o h => by
  rw [mix_out fun z => by rw [n a z] at h; cases h]
  exact h
/-- the end of a call, the cells put back -/
theorem ce_mix {P : Program} {w : World} {outer : List Env} {cs : List Addr} {H : Hp} {s s' : Shared} {u : Value} {Q : VK} (hok : HOk P w H s.heap) (C : Cells cs H)
    (h : CE outer P w (cutH cs H) s (fun v H2 => (∀ c ∈ cs, H2 c = none) → Q v (mixH cs H H2)) u s') : CE outer P w H s Q u s' := by
  obtain ⟨v, H2, os, bare, un, hok2, r, q⟩ := h
  have cn : ∀ c ∈ cs, H2 c = none := fun c hc => by
    obtain ⟨v, e⟩ := C c hc
    obtain ⟨u, _, o, eo, _⟩ := cellO_at hok e
    exact un.free c o eo (cut_in hc) (by simp)
  have out : ∀ {a : Addr} {o : HO}, H a = some o → (∀ φ, o ≠ .ext φ) → a ∉ cs := fun h p => C.out h p
  refine ⟨v, mixH cs H H2, os, bare, ⟨fun b o e n hf hx => ?_, fun b o e n hf hx => ?_, fun b o e n hx => ?_, fun b o e hx => un.there b o e hx, fun b xs e => ?_, fun b o u' e => ?_, fun b ps e => ?_⟩, fun a o e => ?_, r, q cn⟩
  · refine un.keep b o e ?_ hf hx
    unfold cutH; split <;> first | rfl | exact n
  · refine un.slot b o e ?_ hf hx
    unfold cutH; split <;> first | rfl | exact n
  · have hb : b ∉ cs := fun z => by obtain ⟨v, q⟩ := C b z; rw [n] at q; cases q
    rw [mix_out hb]
    exact un.free b o e (by rw [cut_out hb]; exact n) hx
  · have hb := out e fun φ z => by cases z
    rw [mix_out hb]
    exact un.tups b xs (by rw [cut_out hb]; exact e)
  · have hb := out e fun φ z => by cases z
    rw [mix_out hb]
    exact un.frzs b o u' (by rw [cut_out hb]; exact e)
  · have hb := out e fun φ z => by cases z
    obtain ⟨more, q⟩ := un.tbls b ps (by rw [cut_out hb]; exact e)
    exact ⟨more, by rw [mix_out hb]; exact q⟩
  · by_cases z : a ∈ cs
    · rw [mix_in z] at e
      obtain ⟨v', e'⟩ := C a z
      rw [e] at e'
      obtain rfl := Option.some.inj e'
      obtain ⟨u', r', oc, eo, ed⟩ := cellO_at hok e
      obtain ⟨sl, q⟩ := un.any eo (cut_in z) (by simp)
      exact cellO_ok r' ⟨_, q, ed⟩
    · rw [mix_out z] at e
      exact (hok2 a o e).stay (fun b u _ q => q) (fun b q => mix_ew cn b _ q) fun b xs q => mix_ew cn b _ q
/-! ### a function with its cells -/
structure Clo (H : Hp) (f : Addr) (F : NF) (fr : List Str) (ws : List V) : Prop where
  fn : H f = some (FnO f F)
  code : H F.c = some (CodeO F.c F.qual)
  len : ws.length = fr.length
  has : ∀ (i : Nat) (y : Str), fr[i]? = some y → ∃ c v, F.cl.lookup y = some c ∧ ws[i]? = some v ∧ H c = some (CellO c v)
  only : ∀ y c, F.cl.lookup y = some c → y ∈ fr
  inj : ∀ x y c, F.cl.lookup x = some c → F.cl.lookup y = some c → x = y
theorem Clo.es {H H' : Hp} {f : Addr} {F : NF} {fr : List Str} {ws : List V} (c : Clo H f F fr ws) (e : Es H H') : Clo H' f F fr ws := by
  refine ⟨e _ _ c.fn (fun ps z => by unfold FnO at z; cases z) (fun _ _ _ z => by unfold FnO at z; cases z), e _ _ c.code (fun ps z => by unfold CodeO at z; cases z) (fun _ _ _ z => by unfold CodeO at z; cases z), c.len, fun i y h => ?_, c.only, c.inj⟩
  obtain ⟨a, v, h1, h2, h3⟩ := c.has i y h
  exact ⟨a, v, h1, h2, e _ _ h3 (fun ps z => by unfold CellO at z; cases z) fun _ _ _ z => by unfold CellO at z; cases z⟩
theorem Clo.ext {H H' : Hp} {f : Addr} {F : NF} {fr : List Str} {ws : List V} (c : Clo H f F fr ws) (e : ExtN H H') : Clo H' f F fr ws := c.es (Es.ofN e)
theorem tabsN_et {T : List NTab} {H H' : Hp} (t : TabsN T H) (e : Et H H') : TabsN T H' := fun p hp => by
  obtain ⟨ps, h1, h2, h3⟩ := t p hp
  refine ⟨ps, e _ _ h1 (fun _ _ _ z => by cases z), h2, fun pos cv hc => ?_⟩
  obtain ⟨c, e1, e2⟩ := h3 pos cv hc
  exact ⟨c, e1, e _ _ e2 fun _ _ _ z => by unfold CodeO at z; cases z⟩
/-- its cells -/
def csOf (F : NF) (fr : List Str) : List Addr := fr.filterMap fun y => F.cl.lookup y
theorem Clo.cells {H : Hp} {f : Addr} {F : NF} {fr : List Str} {ws : List V} (c : Clo H f F fr ws) : Cells (csOf F fr) H := fun a ha => by
  obtain ⟨y, hy, e⟩ := List.mem_filterMap.mp ha
  obtain ⟨i, hi⟩ := List.mem_iff_getElem?.mp hy
  obtain ⟨a', v, h1, _, h3⟩ := c.has i y hi
  rw [e] at h1
  cases h1
  exact ⟨v, h3⟩
theorem Clo.at_ {P : Program} {w : World} {H : Hp} {h : Heap} {f : Addr} {F : NF} {fr : List Str} {ws : List V} (c : Clo H f F fr ws) (hok : HOk P w H h) : CellsAt F.cl fr (ws.map some) h (cutH (csOf F fr) H) := by
  refine ⟨by rw [List.length_map]; exact c.len, fun y a e => ?_, c.inj, fun i y hi => ?_⟩
  · have hy := c.only y a e
    have hm : a ∈ csOf F fr := List.mem_filterMap.mpr ⟨y, hy, e⟩
    obtain ⟨i, hi⟩ := List.mem_iff_getElem?.mp hy
    obtain ⟨a', v, h1, _, h3⟩ := c.has i y hi
    rw [e] at h1
    cases h1
    obtain ⟨u, _, hc⟩ := cellO_at hok h3
    exact ⟨cut_in hm, _, hc⟩
  · obtain ⟨a, v, h1, h2, h3⟩ := c.has i y hi
    refine ⟨a, h1, fun v' hv' => ?_⟩
    rw [List.getElem?_map, h2] at hv'
    cases hv'
    exact cellO_at hok h3
theorem notEx {o : HO} (h : ∀ φ, o ≠ .ext φ) : True := trivial
/-! ### a call of such a function by a name -/
/-- f(..), f a name that holds a function whose cells are told of -/
def tCallC (P : Program) (w : World) (K : PySem.W.Frag) (mg : Str → Option Value) (base : Heap) (k i : Nat) (t : TA) : TE := fun σ H Q => ∃ f F fr ws, σ[i]? = some (some (.ref f)) ∧ Clo H f F fr ws ∧
  t σ H fun vs H1 => Clo H1 f F fr ws ∧ ∃ ps sp, NOk P w K mg base CX0 k f F ps fr sp ∧ sp (ws.map some) vs (cutH (csOf F fr) H1) (fun v H2 => (∀ c ∈ csOf F fr, H2 c = none) → Q v (mixH (csOf F fr) H1 H2)) E0
section
variable {X : Cx} {i j k : Nat} {x : Str} {t : TA} {e : Expr} {es : List Expr} {p pos : Pos}
theorem pe_callC (hr : Room k X.A) (hN : X.N[i]? = some x) (hv : Vis X.env.scope x) (ha : PA X (e :: es) t)
    (hd : (x == ("__debug__" : Str)) = false := by decide) (hcd : (x == ("__classdict__" : Str)) = false := by decide)
    (he : starEach (e :: es) X.env = (false, eval e X.env) :: starEach es X.env := by rfl) (hpl : (backTo pos (starEach es X.env)).any (·.1) = false := by rfl) :
    PE X (.Call (.Name x p) (e :: es) [] pos) (tCallC X.prog X.w X.K X.mg X.base k i t) := by
  refine ⟨fun pins s σ H Q I h => ?_⟩
  obtain ⟨f, F, fr, ws, hs, hc, ht⟩ := h
  refine wpAny_Call_Name_kw (thn ((pe_var (pos := p) hN hv hd hcd).run pins s σ H (fun v H1 => v = .ref f ∧ H1 = H) I ⟨.ref f, hs, rfl, rfl⟩) fun u s1 ⟨v, H1, I1, r1, q1⟩ => ?_)
  obtain ⟨ev, eH⟩ := q1
  subst ev
  rw [eH] at I1
  obtain rfl : u = Value.ref f := r1
  refine PySem.W.callWith_F (first := []) (fnAt_of I1 hc.fn) (thn (ha.run pos pins s1 σ H _ I1 ht) fun us s2 ⟨vs, H2, I2, r, h1, ps, sp, Fn, q⟩ => ⟨fnAt_of I2 h1.fn, ?_⟩) he hpl
  show wpAny _ _ (call (.ref f) us) _ _ _
  have C := h1.cells
  have fnx : ∀ {a : Addr} {φ : Heap → Prop}, H2 a = some (.ext φ) → (∀ v, HO.ext φ ≠ CellO a v) → a ∉ csOf F fr := fun {a φ} e n z => by
    obtain ⟨v, q⟩ := C a z
    rw [e] at q
    exact n v (Option.some.inj q)
  have nf : f ∉ csOf F fr := fun z => by
    obtain ⟨v, q⟩ := C f z
    obtain ⟨u, _, o, e1, e2⟩ := cellO_at I2.hok q
    obtain ⟨od, sl, doc, pm, ctv, ho⟩ := fnO_at I2.hok h1.fn
    rw [e1] at ho
    cases ho
    cases e2
  have nc : F.c ∉ csOf F fr := fun z => by
    obtain ⟨v, q⟩ := C F.c z
    obtain ⟨u, _, o, e1, e2⟩ := cellO_at I2.hok q
    obtain ⟨c', oc, vs', t', z1, z2, z3, _⟩ := codeO_at I2.hok h1.code
    cases z1
    rw [e1] at z2
    cases z2
    rw [e2] at z3
    cases z3
  have E := I2.env0
  have env' : Env0 X.prog X.w X.K X.mg X.base X.A X.stack s2 (cutH (csOf F fr) H2) := ⟨E.frames, E.mod, fun b o e => ⟨(E.bs b o e).1, by unfold cutH; split <;> first | rfl | exact (E.bs b o e).2⟩, E.bsz, E.funs, fun b hb => by unfold cutH; split <;> first | rfl | exact E.frf b hb, cut_ok E.hok C, E.bare⟩
  refine wpAny_call (codeAny_mono (Fn.run X.A X.stack s2 (cutH (csOf F fr) H2) us vs (ws.map some) _ E0 hr env' (by rw [cut_out nf]; exact h1.fn) (by rw [cut_out nc]; exact h1.code) (h1.at_ I2.hok) r q) fun r s' hq => ?_)
  cases r with
  | error e => exact hq.elim
  | ok fl =>
    cases fl with
    | ret u => exact I2.after (ce_mix I2.hok C hq)
    | next => exact False.elim hq
    | brk => exact False.elim hq
    | cont => exact False.elim hq
end
/-! ### a def that gives such a function back -/
/-- statements, the last of which gives something back: the names' values are told too -/
structure PSr (X : Cx) (st : List Stmt) (t : (L2.St → Hp → V → Prop) → L2.St → Hp → Prop) : Prop where
  run : ∀ (s : Shared) (σ : L2.St) (H : Hp) (R : L2.St → Hp → V → Prop), Inv X [] σ H s → t R σ H → wpAny (model X.prog X.w) X.A (execs st X.env) (fun fl s' => ∃ u v σ' H', fl = .ret u ∧ Inv X [] σ' H' s' ∧ RelV v u ∧ R σ' H' v) X.xe s
section
variable {X : Cx}
theorem psr_ret {e : Expr} {pos : Pos} {te : TE} (he : PE X e te) : PSr X [.Return (some e) pos] (fun R σ H => te σ H fun v H1 => R σ H1 v) :=
  ⟨fun s σ H R I h => wpAny_execs_cons (wpAny_Return_some (thn (he.run [] s σ H _ I h) fun v s1 ⟨x, H1, I1, r1, q1⟩ => ⟨v, x, σ, H1, rfl, I1, r1, q1⟩))⟩
theorem psr_cons {st : Stmt} {rest : List Stmt} {t : TS} {u : (L2.St → Hp → V → Prop) → L2.St → Hp → Prop} (h1 : PS X st t) (h2 : PSr X rest u) : PSr X (st :: rest) (fun R σ H => t { nx := fun σ' H' => u R σ' H', rt := fun _ _ => False } σ H) := by
  refine ⟨fun s σ H R I h => ?_⟩
  refine wpAny_execs_cons (thn (h1.run [] s σ H _ I h) fun f s1 q => ?_)
  cases f with
  | next =>
    obtain ⟨σ', H', I', q⟩ := q
    exact h2.run s1 σ' H' R I' q
  | ret v =>
    obtain ⟨_, _, _, _, _, q⟩ := q
    exact q.elim
  | brk =>
    obtain ⟨_, _, _, q⟩ := q
    exact q.elim
  | cont =>
    obtain ⟨_, _, _, q⟩ := q
    exact q.elim
end
/-- cells told of: names ys with values zs -/
def Told (H : Hp) (cells : List (Str × Addr)) : List (Str × V) → Prop
  | [] => True
  | (y, v) :: r => (∃ c, cells.lookup y = some c ∧ H c = some (CellO c v)) ∧ Told H cells r
theorem Told.ex {H H' : Hp} {cells : List (Str × Addr)} (e : Ex H H') : ∀ {l : List (Str × V)}, Told H cells l → Told H' cells l
  | [], _ => trivial
  | (y, v) :: r, ⟨⟨c, h1, h2⟩, h3⟩ => ⟨⟨c, h1, e _ _ h2⟩, Told.ex e h3⟩
theorem add_cells {P : Program} {w : World} {cells : List (Str × Addr)} {h0 h : Heap} {H0 : Hp} {fs : List Addr} (inj : ∀ x y c, cells.lookup x = some c → cells.lookup y = some c → x = y) :
    ∀ (l : List (Str × V)) (H : Hp), (l.map (·.1)).Nodup → (∀ p ∈ l, ∃ c u, cells.lookup p.1 = some c ∧ h0.objs.size ≤ c ∧ RelV p.2 u ∧ h.IsCell c (some u) ∧ H c = none) → Un fs [] H0 H h0 h → HOk P w H h →
      ∃ H', Ex H H' ∧ Un fs [] H0 H' h0 h ∧ HOk P w H' h ∧ Told H' cells l
  | [], H, _, _, un, hok => ⟨H, Ex.refl H, un, hok, trivial⟩
  | (y, v) :: r, H, nd, ha, un, hok => by
    obtain ⟨c, u, h1, h2, h3, h4, h5⟩ := ha _ (List.mem_cons_self ..)
    have nd' := List.nodup_cons.mp nd
    have e : Ex H (upd H c (CellO c v)) := Ex.new h5
    have un' : Un fs [] H0 (upd H c (CellO c v)) h0 h := by
      refine ⟨un.keep, un.slot, fun b o eb n hx => ?_, un.there, fun b xs q => e _ _ (un.tups b xs q), fun b o u q => e _ _ (un.frzs b o u q), fun b ps q => ?_⟩
      · rw [upd_ne (Nat.ne_of_lt (Nat.lt_of_lt_of_le (Heap.lt_size eb) h2))]
        exact un.free b o eb n hx
      · obtain ⟨more, z⟩ := un.tbls b ps q
        exact ⟨more, e _ _ z⟩
    have hok' : HOk P w (upd H c (CellO c v)) h := fun a o ea => by
      by_cases z : a = c
      · subst z
        rw [upd_same] at ea
        cases ea
        exact cellO_ok h3 h4
      · rw [upd_ne z] at ea
        exact (hok a o ea).stay (fun b u _ q => q) (fun b q => e _ _ q) fun b xs q => e _ _ q
    obtain ⟨H', a1, a2, a3, a4⟩ := add_cells inj r (upd H c (CellO c v)) nd'.2 (fun p hp => by
      obtain ⟨c', u', q1, q2, q3, q4, q5⟩ := ha p (List.mem_cons_of_mem _ hp)
      refine ⟨c', u', q1, q2, q3, q4, ?_⟩
      rw [upd_ne fun z => nd'.1 (by
        rw [z] at q1
        rw [← inj p.1 y c q1 h1]
        exact List.mem_map.mpr ⟨p, hp, rfl⟩)]
      exact q5) un' hok'
    exact ⟨H', e.trans a1, a2, a3, ⟨c, h1, a1 _ _ upd_same⟩, a4⟩
/-- the named values that stand in cells -/
def AtS (N : List Str) (sc : Scope) (σ : L2.St) : List (Str × V) → Prop
  | [] => True
  | (y, v) :: r => (∃ i : Nat, N[i]? = some y ∧ σ[i]? = some (some v) ∧ sc.names.lookup y = some .cell) ∧ AtS N sc σ r
theorem AtS.mem {N : List Str} {sc : Scope} {σ : L2.St} : ∀ {l : List (Str × V)}, AtS N sc σ l → ∀ p ∈ l, ∃ i : Nat, N[i]? = some p.1 ∧ σ[i]? = some (some p.2) ∧ sc.names.lookup p.1 = some .cell
  | (y, v) :: r, ⟨h1, h2⟩, p, hp => by
    rcases List.mem_cons.mp hp with z | z
    · rw [z]; exact h1
    · exact AtS.mem h2 p z
/-- THE RULE for such a def: l, the captured names with their values at the end -/
theorem fn_ofR {P : Program} {w : World} {K : PySem.W.Frag} {mg : Str → Option Value} {base : Heap} {k : Nat} {f : Addr} {name qual : Str} {params : Arguments} {body : List Stmt} {scope : Scope} {dV kV doc pm cdv ct oc : Value} {an od : Option Addr}
    {osl : Array (Option Value)} {N ps : List Str} {sp : Sp} (lk : K.lookup f = some ⟨oc, od, .func (PySem.W.fnOf name qual params body scope dV kV doc pm an cdv ct), osl⟩) (hcd : PySem.W.codeIn K cdv qual = true) (S : FnScope N ps scope)
    (len : ∀ vs H Q E, sp vs H Q E → vs.length = ps.length)
    (hbody : ∀ (A : Around) (outer : List Env) (s : Shared) (H : Hp) (vs : List V) (Q : VK) (E : XK), Room k (A.deeper (envOfC qual scope s.heap.objs.size f cdv)) → sp vs H Q E →
      ∃ t, PSr (cxOf CX0 P w K mg base N qual scope f cdv A outer s H E) body t ∧ t (fun σ' H' v => (cxOf CX0 P w K mg base N qual scope f cdv A outer s H E).Ok → ∃ l, AtS N scope σ' l ∧ (l.map (·.1)).Nodup ∧ ∀ H'', Ex H' H'' → Told H'' (envOfC qual scope s.heap.objs.size f cdv).cells l → Q v H'') (start N vs) H) :
    FnOk P w K mg base CX0 (k + 1) f (PySem.W.fnOf name qual params body scope dV kV doc pm an cdv ct) ps sp := by
  refine ⟨len, fun A outer s H args us vs Q E hr e0 hb r hsp => ?_⟩
  have hl := len _ _ _ _ hsp
  have KX : K.In s.heap := e0.mod.kin.keeps fun b o e => (e0.bs b o e).1
  have lim : s.heap.NoLimit := e0.mod.nolimit.keeps fun b o e => (e0.bs b o e).1
  have hkind : ∀ y ∈ ps.zip us, scope.names.lookup y.1 = some .local ∨ (scope.names.lookup y.1 = some .cell ∧ ((cellsFrom (s.heap.objs.size + 1) scope.names []).lookup y.1).isSome = true) := fun ⟨n, v⟩ hy => by
    rcases S.par n (List.of_mem_zip hy).1 with q | q
    · exact .inl q
    · exact .inr ⟨q, PySem.W.cellsFrom_some _ _ _ (.inl q)⟩
  refine codeAny_call_function hr.depth (KX _ _ lk) rfl S.co S.gen rfl (PySem.W.codeRec_of KX hcd) (hb _ _ _ _ ?_)
  refine wpAny_newFunctionEnv_cells S.kind hkind fun env he s1 x => ?_
  subst he
  refine ⟨lim.keeps x.toInCall.keep, codeAny_func ?_⟩
  obtain ⟨t, ht, hq⟩ := hbody A outer s H vs Q E (hr.deeper _) hsp
  have I : Inv (cxOf CX0 P w K mg base N qual scope f cdv A outer s H E) [] (start N vs) H s1 := inv_start S hr.hd e0 hl r x
  refine wpAny_mono (ht.run s1 (start N vs) H _ I hq) (fun fl s' hs => ?_) fun e s' hs => hs
  obtain ⟨u, v, σ', H', rfl, J, rv, q⟩ := hs
  obtain ⟨l, hl1, hl2, q⟩ := q J.ok
  obtain ⟨m, hn, hlk⟩ := id J.loc
  obtain ⟨H'', a1, a2, a3, a4⟩ := add_cells (P := P) (w := w) (h := s'.heap) (h0 := s.heap) (H0 := H) (fs := frs outer) (cells := (envOfC qual scope s.heap.objs.size f cdv).cells) J.ok.inj l H' hl2 (fun p hp => by
    obtain ⟨i, h1, h2, h3⟩ := hl1.mem p hp
    obtain ⟨u, r, lk2⟩ := hlk i p.1 p.2 h1 h2 (.inr (.inl h3))
    rcases lk2 with ⟨z, _⟩ | ⟨_, c, hc, hcell⟩
    · have z : scope.names.lookup p.1 = some .local := z
      rw [h3] at z
      cases z
    · exact ⟨c, u, hc, J.ok.cab p.1 c rfl hc, r, hcell, J.freeC p.1 c hc⟩) J.base J.hok
  exact ⟨v, H'', J.os, J.bare, a2, a3, rv, q H'' a1 a4⟩
section
variable {P : Program} {w : World} {K : PySem.W.Frag} {mg : Str → Option Value} {base : Heap}
theorem Def.makeR (T : Tx K mg) {d : He.DefD} (i : Nat) (hi : fn[i]? = some d) (e1 : d.dfl = []) (e2 : d.kwd = []) {N ps : List Str} {k : Nat} {sp : Sp} (S : FnScope N ps d.scope)
    (hb : ∀ (kV doc pm : Value) (an : Option Addr) (cdv ct : Value) (us : List Value), us.length = ps.length → bindArgs (PySem.W.fnOf d.name d.qual d.params d.body d.scope .none kV doc pm an cdv ct) ⟨us, []⟩ = pure (ps.zip us))
    (len : ∀ vs H Q E, sp vs H Q E → vs.length = ps.length)
    (hbody : ∀ (oc : Value) (od : Option Addr) (dV kV doc pm : Value) (an : Option Addr) (cdv ct : Value) (osl : Array (Option Value)), K.lookup (He.fAd K d.at_) = some ⟨oc, od, .func (PySem.W.fnOf d.name d.qual d.params d.body d.scope dV kV doc pm an cdv ct), osl⟩ → PySem.W.codeIn K cdv d.qual = true →
      ∀ (A : Around) (outer : List Env) (s : Shared) (H : Hp) (vs : List V) (Q : VK) (E : XK), Room k (A.deeper (envOfC d.qual d.scope s.heap.objs.size (He.fAd K d.at_) cdv)) → sp vs H Q E →
      ∃ t, PSr (cxOf CX0 P w K mg base N d.qual d.scope (He.fAd K d.at_) cdv A outer s H E) d.body t ∧ t (fun σ' H' v => (cxOf CX0 P w K mg base N d.qual d.scope (He.fAd K d.at_) cdv A outer s H E).Ok → ∃ l, AtS N d.scope σ' l ∧ (l.map (·.1)).Nodup ∧ ∀ H'', Ex H' H'' → Told H'' (envOfC d.qual d.scope s.heap.objs.size (He.fAd K d.at_) cdv).cells l → Q v H'') (start N vs) H) : Def P w K mg base (k + 1) (He.fAd K d.at_) ps sp := by
  obtain ⟨fd, F⟩ := T.says.def_ i hi
  have F' : FunD K d.name d.qual d.params d.body d.scope [] [] (He.fAd K d.at_) fd := by
    have q1 : d.dvs K = [] := by unfold He.DefD.dvs; rw [e1]; rfl
    have q2 : d.kws K = [] := by unfold He.DefD.kws; rw [e2]; rfl
    rw [q1, q2] at F
    exact F
  refine ⟨⟨fd, ?_, F'.bindsN hb⟩, F.kp⟩
  obtain ⟨oc, od, dV, kV, doc, pm, an, cdv, ct, osl, rfl, lk, hcd, _, _⟩ := F'.ex
  exact fn_ofR lk hcd S len fun A outer s H vs Q E hr hsp => hbody oc od dV kV doc pm an cdv ct osl lk hcd A outer s H vs Q E hr hsp
end
end K96

set_option Elab.async false
set_option linter.all false
set_option maxRecDepth 100000
set_option maxHeartbeats 4000000
/-! K96Q: hands; the player. -/
namespace K96
open PySem PySem.Spec PyProof.Rows L2 LamX NdefX
open Evl (Ex)
open K96M (Gr)
local macro_rules | `(tactic| walk_at "go") => `(tactic| repeat (first
  | with_reducible refine w_seq ?_
  | with_reducible refine w_asg ?_
  | with_reducible refine w_name ?_
  | with_reducible refine w_var rfl ?_
  | with_reducible refine w_c ?_
  | with_reducible refine w_op ?_
  | with_reducible refine w_I0 ?_
  | with_reducible refine w_drop ?_
  | with_reducible refine w_ret ?_
  | with_reducible refine w_if ?_
  | with_reducible refine w_next ?_
  | with_reducible refine w_test ?_
  | with_reducible refine w_B ?_
  | with_reducible refine w_bl ?_
  | with_reducible refine w_not ?_
  | with_reducible refine w_and ?_
  | with_reducible refine w_or ?_
  | with_reducible refine w_andV ?_
  | with_reducible refine w_orV ?_
  | with_reducible refine w_notV ?_
  | with_reducible refine w_cons ?_
  | with_reducible refine w_nil ?_
  | with_reducible refine w_cb ?_
  | with_reducible refine w_call ?_
  | with_reducible refine w_isN ?_
  | with_reducible refine w_notN ?_
  | with_reducible refine w_chain ?_
  | with_reducible refine w_sl ?_
  | with_reducible refine w_nopart ?_
  | with_reducible refine w_tupT ?_
  | with_reducible refine w_lstT ?_
  | with_reducible refine w_eq rfl ?_
  | with_reducible refine w_ne rfl ?_
  | with_reducible refine w_for ?_
  | with_reducible refine w_iL ?_
  | with_reducible refine w_iT ?_
  | with_reducible refine w_iR1 ?_
  | with_reducible refine w_iR2 ?_
  | with_reducible refine w_iE ?_
  | with_reducible refine w_iS ?_
  | with_reducible refine w_lc ?_
  | with_reducible refine w_nm ?_
  | with_reducible refine w_din ?_
  | with_reducible refine w_dnotin ?_
  | with_reducible refine w_dput ?_
  | with_reducible refine w_dget1 ?_
  | with_reducible refine w_dget2 ?_
  | with_reducible refine w_bm ?_
  | with_reducible refine w_bm0 ?_
  | with_reducible refine w_sfld ?_
  | with_reducible refine w_make ?_
  | with_reducible refine w_part ?_
  | with_reducible refine w_aug rfl ?_
  | with_reducible refine w_ip ?_
  | with_reducible refine w_yes ?_
  | with_reducible refine w_gcs ?_
  | with_reducible refine w_gnil ?_
  | with_reducible refine w_dget ?_
  | with_reducible refine w_fld ?_
  | with_reducible refine w_meth ?_))
local macro_rules | `(tactic| walk_at "ex") => `(tactic| repeat (first | assumption | exact Ex.refl _ | refine Ex.trans ?_ (by assumption)))
/-- the hands' level -/
abbrev KH : Nat := 10
abbrev n_told : Stmt := (defBody s_player).getD 0 (.Pass ⟨0, 0, 0, 0⟩)
abbrev n_opp : Stmt := (defBody s__law_opponent).getD 2 (.Pass ⟨0, 0, 0, 0⟩)
/-- the names of the two nested defs, by the line -/
def nmF (l _ : Nat) : Str := if l < 330 then "player.<locals>.told_move" else "_law_opponent.<locals>._law_told_move"
abbrev cTp (K : PySem.W.Frag) : Addr × Addr := He.cT K ("player", none)
abbrev cTo (K : PySem.W.Frag) : Addr × Addr := He.cT K ("_law_opponent", none)
/-- the tables -/
abbrev tbs (K : PySem.W.Frag) : List NTab := [((cTp K).2, nmF), ((cTo K).2, nmF)]
structure TBs (K : PySem.W.Frag) (mg : Str → Option Value) (base : Heap) : Prop where
  p : TabB base mg (cTp K).1 (cTp K).2
  o : TabB base mg (cTo K).1 (cTo K).2
/-! ### weaker steps -/
theorem GAt.uw {K : PySem.W.Frag} {H H' : Hp} {g : Addr} {G : G0} (h : GAt K H g G) (gok : GOk G) (e : Ew H H') : GAt K H' g G := by
  obtain ⟨dx, d, ts, h1, h2, h3⟩ := h
  refine ⟨dx, d, ts, e _ _ h1 trivial, e _ _ h2 ?_, Paired.mapP h3 fun _ _ q => e _ _ q trivial⟩
  intro n s t z
  have pos := gok.pos
  generalize G.ns = ns at h3 z pos
  cases h3 with
  | nil => exact pos rfl
  | cons _ _ =>
    injection z with z _
    injection z with _ z
    cases z
/-! ### what a hand keeps -/
def HandOk (P : Program) (w : World) (K : PySem.W.Frag) (mg : Str → Option Value) (base : Heap) (H : Hp) (f : Addr) (G : G0) (Good : List Str → Nat × Str → Prop) : Prop :=
  ∃ F fr ws ps sp, Clo H f F fr ws ∧ NOk P w K mg base CX0 KH f F ps fr sp ∧ ∀ (H1 : Hp) (h : Addr) (hs : List Str) (Q : VK), Ew H H1 → LAt H1 h hs → HOk' G hs → movesF G hs ≠ [] →
    (∀ t H2 m, Ex H1 H2 → MAt H2 t m → m ∈ movesF G hs → Good hs m → Q (.ref t) H2) → sp (ws.map some) [.ref h] H1 Q E0
theorem HandOk.es {P : Program} {w : World} {K : PySem.W.Frag} {mg : Str → Option Value} {base : Heap} {H H' : Hp} {f : Addr} {G : G0} {Good : List Str → Nat × Str → Prop} (h : HandOk P w K mg base H f G Good) (e : Es H H') : HandOk P w K mg base H' f G Good := by
  obtain ⟨F, fr, ws, ps, sp, h1, h2, h3⟩ := h
  exact ⟨F, fr, ws, ps, sp, h1.es e, h2, fun H1 a hs Q q => h3 H1 a hs Q ((Ew.ofS e).trans q)⟩
theorem HandOk.ext {P : Program} {w : World} {K : PySem.W.Frag} {mg : Str → Option Value} {base : Heap} {H H' : Hp} {f : Addr} {G : G0} {Good : List Str → Nat × Str → Prop} (h : HandOk P w K mg base H f G Good) (e : ExtN H H') : HandOk P w K mg base H' f G Good := by
  obtain ⟨F, fr, ws, ps, sp, h1, h2, h3⟩ := h
  exact ⟨F, fr, ws, ps, sp, h1.ext e, h2, fun H1 a hs Q q => h3 H1 a hs Q ((Ew.ofN e).trans q)⟩
theorem HandOk.imp {P : Program} {w : World} {K : PySem.W.Frag} {mg : Str → Option Value} {base : Heap} {H : Hp} {f : Addr} {G : G0} {Good Good' : List Str → Nat × Str → Prop} (h : HandOk P w K mg base H f G Good) (e : ∀ hs m, Good hs m → Good' hs m) : HandOk P w K mg base H f G Good' := by
  obtain ⟨F, fr, ws, ps, sp, h1, h2, h3⟩ := h
  exact ⟨F, fr, ws, ps, sp, h1, h2, fun H1 a hs Q q1 q2 q3 q4 q5 => h3 H1 a hs Q q1 q2 q3 q4 fun t H2 m a1 a2 a3 a4 => q5 t H2 m a1 a2 a3 (e _ _ a4)⟩
theorem w_hand {P : Program} {w : World} {K : PySem.W.Frag} {mg : Str → Option Value} {base : Heap} {H : Hp} {f : Addr} {G : G0} {Good : List Str → Nat × Str → Prop} {σ : L2.St} {Q : VK} {i : Nat} {t : TA} (hi : σ[i]? = some (some (.ref f))) (hh : HandOk P w K mg base H f G Good)
    (h : ∀ R : List V → Hp → Prop, (∀ a hs H1, Ex H H1 → LAt H1 a hs → HOk' G hs → movesF G hs ≠ [] → (∀ t H2 m, Ex H1 H2 → MAt H2 t m → m ∈ movesF G hs → Good hs m → Q (.ref t) H2) → R [.ref a] H1) → t σ H R) : tCallC P w K mg base KH i t σ H Q := by
  obtain ⟨F, fr, ws, ps, sp, h1, h2, h3⟩ := hh
  refine ⟨f, F, fr, ws, hi, h1, h _ fun a hs H1 e hL hO hm k => ?_⟩
  have c1 := h1.ext (exN e)
  have C := c1.cells
  refine ⟨c1, ps, sp, h2, h3 _ a hs _ ((Ew.of e).trans C.ew) (C.ew _ _ hL trivial) hO hm fun t H2 m e2 hmt hmm hg cn => ?_⟩
  exact k t _ m (mix_ex e2) (mix_ew cn _ _ hmt) hmm hg
/-! ### the player's own move -/
structure PGood (G : G0) (hs : List Str) (m : Nat × Str) : Prop where
  won : ocF G hs = "won" → m ∈ mlF G hs ∧ ∀ m' ∈ mlF G hs, stepsF G (hs.set m.1 m.2) ≤ stepsF G (hs.set m'.1 m'.2)
  drawn : ocF G hs = "drawn" → ocF G (hs.set m.1 m.2) = "drawn"
theorem sc_told_move : NScope ["heap", "ground", "labels", "found", "moves"] ["heap"] ["ground"] (C8.fnScope n_told) := nscope_by (by decide +kernel)
section
variable {P : Program} {w : World} {K : PySem.W.Frag} {mg : Str → Option Value} {base : Heap}
def sp_told (K : PySem.W.Frag) (ws : List (Option V)) : Sp := fun vs H Q _ => ∃ (g h : Addr) (G : G0) (hs : List Str), ws = [some (.ref g)] ∧ vs = [.ref h] ∧ GAt K H g G ∧ LAt H h hs ∧ GOk G ∧ Txt G ∧ HOk' G hs ∧ movesF G hs ≠ [] ∧
  ∀ t H2 m, Ex H H2 → MAt H2 t m → m ∈ movesF G hs → PGood G hs m → Q (.ref t) H2
theorem nok_told (T : Tx K mg) (f c : Addr) (qual : Str) (cl : List (Str × Addr)) : NOk P w K mg base CX0 KH f (NF.of n_told "told_move" qual cl c) ["heap"] ["ground"] (sp_told K) := by
  refine nok_of sc_told_move (fun _ _ _ us hl => match us, hl with | [_], _ => rfl) (fun ws vs H Q E h => ?_) (fun A outer s H vs ws Q E hr hf hc hwl h => ?_)
  · obtain ⟨g, h, G, hs, _, rfl, _⟩ := h
    rfl
  · obtain ⟨g, h, G, hs, rfl, rfl, hG, hL, gok, tx, hO, hne, k⟩ := h
    have nd := sc_told_move.nd
    refine ⟨_, PSs.nox (pss_cons (ps_set (i := 2) nd rfl (Or.inl rfl) (pe_callX (D_labels_for T) (hr.mono (by decide)) rfl T.g_labels_for (pa_cons (pv 1) (pa_cons (pv 0) pa_nil))))
    (pss_cons (ps_set (i := 3) nd rfl (Or.inl rfl) (PE.alt (pe_methX0 (D_Numbered_outcome T) (hr.mono (by decide)) T.c_Numbered T.m_Numbered_outcome (pe_callX (D_worth_in T) (hr.mono (by decide)) rfl T.g_worth_in (pa_cons (pv 2) (pa_cons (pv 0) pa_nil)))) (pe_methX0 (D_Endless_outcome T) (hr.mono (by decide)) T.c_Endless T.m_Endless_outcome (pe_callX (D_worth_in T) (hr.mono (by decide)) rfl T.g_worth_in (pa_cons (pv 2) (pa_cons (pv 0) pa_nil))))))
    (pss_cons (ps_if (pt_cmpR op_eq (pv 3) pe_str (nomark _)) (pss_one (ps_ret (pe_ix ix_tup (pe_callX (D_best_move T) (hr.mono (by decide)) rfl T.g_best_move (pa_cons (pv 1) (pa_cons (pv 2) (pa_cons (pv 0) pa_nil)))) pe_int (fun _ _ => rfl)))) pss_nil)
    (pss_cons (ps_if (pt_cmpR op_eq (pv 3) pe_str (nomark _)) (pss_one (ps_ret (pe_callX (D_drawn_move T) (hr.mono (by decide)) rfl T.g_drawn_move (pa_cons (pv 1) (pa_cons (pv 2) (pa_cons (pv 0) pa_nil)))))) pss_nil)
    (pss_cons (ps_set (i := 4) nd rfl (Or.inl rfl) (pe_callX (D_moves_of T) (hr.mono (by decide)) rfl T.g_moves_of (pa_cons (pv 1) (pa_cons (pv 0) pa_nil))))
    (pss_cons (ps_if (pt_cmpR (op_eqD hr.units) (pv 4) (PE.nm (pe_lst pa_nil)) (nomark _)) (pss_one ps_never) pss_nil)
    (pss_one (ps_ret (pe_ix ix_list (pv 4) pe_int (fun _ _ => rfl)))))))))), ?_⟩
    walk_at "go"
    refine ⟨g, h, G, hs, rfl, hG, hL, gok, tx, hO, fun d H1 e1 hD => ?_⟩
    walk_at "go"
    refine w_out (ba := h) (bb := h) (wtF G hs) fun R hR => ?_
    walk_at "go"
    refine ⟨d, h, G, hs, rfl, hD, e1 _ _ hL, gok, hO, fun p H2 e2 hw => hR p H2 hw ?_⟩
    walk_at "go"
    have e12 := e1.trans e2
    by_cases z : ocF G hs = "won"
    · refine brT (decide_eq_true (congrArg V.str z)) ?_
      walk_at "go"
      have hml : mlF G hs ≠ [] := by
        obtain ⟨m, hm⟩ := won_has gok hO.ins z
        exact List.ne_nil_of_mem hm
      refine ⟨g, d, h, G, hs, rfl, hG.up e12, hD.up e2, e12 _ _ hL, gok, hO, hml, fun v H3 e3 hb => ?_⟩
      obtain ⟨t, mt, m, rfl, b1, b2, b3, b4⟩ := hb
      walk_at "go"
      refine w_ixT (SqT.of b1) rfl ?_
      exact k mt H3 m (e12.trans e3) b2 (mem_mlF.mp b3).1 ⟨fun _ => ⟨b3, b4⟩, fun q => absurd (z.symm.trans q) s_wd⟩
    · refine brF (decide_eq_false fun q => z (V.str.inj q)) ?_
      walk_at "go"
      by_cases z2 : ocF G hs = "drawn"
      · refine brT (decide_eq_true (congrArg V.str z2)) ?_
        walk_at "go"
        exact ⟨g, d, h, G, hs, rfl, hG.up e12, hD.up e2, e12 _ _ hL, gok, tx, hO, z2, fun t H3 m e3 hm hmm hdr => k t H3 m (e12.trans e3) hm hmm ⟨fun q => absurd q z, fun _ => hdr⟩⟩
      · refine brF (decide_eq_false fun q => z2 (V.str.inj q)) ?_
        walk_at "go"
        refine ⟨g, h, G, hs, rfl, hG.up e12, e12 _ _ hL, gok, hO, fun l H3 hl e3 hM => ?_⟩
        walk_at "go"
        refine ⟨szs (Nat.zero_le _), w_new fun q H4 hq e4 h4 => ?_⟩
        walk_at "go"
        refine ⟨_, .list [], dp_ms (hM.up e4), .lst (SqL.of h4) .nil, shaped_ms (moves_txt gok tx hO), rfl, ?_⟩
        rw [eqvAll_nil, List.isEmpty_map]
        refine ⟨_, rfl, brF ?_ ?_⟩
        · cases q : movesF G hs with
          | nil => exact absurd q hne
          | cons a r => rfl
        walk_at "go"
        obtain ⟨ts, hts, hpair⟩ := hM.up e4
        cases q : movesF G hs with
        | nil => exact absurd q hne
        | cons m r =>
          rw [q] at hpair
          cases hpair with
          | cons hm hr' =>
            rename_i t tr
            refine w_ixL (SqL.of hts) (v := .ref t) (atI_nat (j := 0) rfl) ?_
            exact k t H4 m ((e12.trans e3).trans e4) hm (by rw [q]; exact List.mem_cons_self ..) ⟨fun q => absurd q z, fun q => absurd q z2⟩
/-! ### the player -/
theorem cl_only {cells : List (Str × Addr)} {names : List (Str × NameKind)} {y : Str} {c : Addr} (h : (cloFrom cells names []).lookup y = some c) : (y, NameKind.free) ∈ names := by
  rcases cloFrom_mem (PySem.mem_of_lookup h) with hm | ⟨h1, _⟩
  · cases hm
  · exact h1
theorem nm_p : nmF 316 4 = (d_player.qual ++ ".<locals>.") ++ "told_move" := by decide +kernel
theorem nb_p : ndefB (defScope s_player) (C8.fnScope n_told) ["ground"] = true := by decide +kernel
theorem AtS.nil {N : List Str} {sc : Scope} {σ : L2.St} : AtS N sc σ [] := trivial
def sp_player (P : Program) (w : World) (K : PySem.W.Frag) (mg : Str → Option Value) (base : Heap) : Sp := fun vs H Q _ => ∃ (g : Addr) (G : G0), vs = [.ref g] ∧ GAt K H g G ∧ GOk G ∧ Txt G ∧ TabsN (tbs K) H ∧
  ∀ f H2, ExtN H H2 → TabsN (tbs K) H2 → HandOk P w K mg base H2 f G (PGood G) → Q (.ref f) H2
theorem sc_player : FnScope ["ground", "told_move"] ["ground"] (defScope s_player) := ⟨rfl, rfl, rfl, by decide +kernel, rfl, by decide +kernel, by decide +kernel⟩
theorem D_player (T : Tx K mg) (TB : TBs K mg base) : Def P w K mg base 1 (He.ga K "player") ["ground"] (sp_player P w K mg base) := by
  refine Def.makeR T (d := d_player) 40 rfl rfl rfl sc_player (fun _ _ _ _ _ _ us hl => match us, hl with | [_], _ => rfl) (fun vs H Q E h => ?_) (fun oc od dV kV doc pm an cdv ct osl lk hcd A outer s H vs Q E hr h => ?_)
  · obtain ⟨g, G, rfl, _⟩ := h
    rfl
  · obtain ⟨g, G, rfl, hG, gok, tx, hT, k⟩ := h
    have nd := sc_player.nd
    obtain ⟨c, rfl⟩ := He.codeIn_ref hcd
    have hc : He.codeOf K ("player", none) = c := He.codeOf_eq lk rfl
    have tb := TB.p
    have hcc : (cTp K).1 = c := hc
    rw [hcc] at tb
    refine ⟨_, psr_cons (ps_ndefMS (st := n_told) (T := tbs K) (nm := nmF) (i := 1) rfl tb rfl (List.mem_cons_self ..) nm_p (fun p hp _ => ?_) (ndef_free nb_p) rfl rfl rfl nd rfl (Or.inl rfl) (Or.inl rfl)) (psr_ret (pv 1)), ?_⟩
    · rcases List.mem_cons.mp hp with q | q
      · rw [q]
      · rw [List.mem_singleton.mp q]
    · refine ⟨hT, fun f c' H1 eN nn hT1 hf f1 c1 => ?_⟩
      refine ⟨.ref f, rfl, fun ok => ?_⟩
      refine ⟨[("ground", .ref g)], ⟨⟨0, rfl, rfl, rfl⟩, trivial⟩, (by show (["ground"] : List Str).Nodup; decide +kernel), fun H2 e2 told => ?_⟩
      have caps := Caps.made (fr := ["ground"]) (js := [0]) ok (scope := C8.fnScope n_told) (ndef_free nb_p) (ndef_fr nb_p) rfl
      obtain ⟨⟨a, ha1, ha2⟩, _⟩ := told
      refine k f H2 (eN.trans (exN e2)) (hT1.ext e2) ⟨_, ["ground"], [.ref g], ["heap"], sp_told K, ⟨e2 _ _ f1, e2 _ _ c1, rfl, fun i y hi => ?_, fun y b hb => ?_, fun x y b h1 h2 => ok.inj x y b (caps.sub _ _ h1) (caps.sub _ _ h2)⟩, nok_told T f c' _ _, fun H3 h hs Q' eW hL hO hne q => ?_⟩
      · cases i with
        | zero =>
          have hy : "ground" = y := Option.some.inj hi
          subst hy
          exact ⟨a, _, caps.sup _ (List.mem_cons_self ..) a ha1, rfl, ha2⟩
        | succ i => simp at hi
      · exact sc_told_move.free _ (cl_only hb) rfl
      · exact ⟨g, h, G, hs, rfl, rfl, hG.uw gok ((Ew.ofN (eN.trans (exN e2))).trans eW), hL, gok, tx, hO, hne, fun t H4 m e4 hm hmm hg => q t H4 m e4 hm hmm hg⟩
end
end K96

set_option Elab.async false
set_option linter.all false
set_option maxRecDepth 100000
set_option maxHeartbeats 4000000
/-! K96R: plays, rows of moves walked. -/
namespace K96
open PySem PySem.Spec PyProof.Rows L2 LamX NdefX
open Evl (Ex)
open K96M (Gr)
local macro_rules | `(tactic| walk_at "go") => `(tactic| repeat (first
  | with_reducible refine w_seq ?_
  | with_reducible refine w_asg ?_
  | with_reducible refine w_name ?_
  | with_reducible refine w_var rfl ?_
  | with_reducible refine w_c ?_
  | with_reducible refine w_op ?_
  | with_reducible refine w_I0 ?_
  | with_reducible refine w_drop ?_
  | with_reducible refine w_ret ?_
  | with_reducible refine w_if ?_
  | with_reducible refine w_next ?_
  | with_reducible refine w_test ?_
  | with_reducible refine w_B ?_
  | with_reducible refine w_bl ?_
  | with_reducible refine w_not ?_
  | with_reducible refine w_and ?_
  | with_reducible refine w_or ?_
  | with_reducible refine w_andV ?_
  | with_reducible refine w_orV ?_
  | with_reducible refine w_notV ?_
  | with_reducible refine w_cons ?_
  | with_reducible refine w_nil ?_
  | with_reducible refine w_cb ?_
  | with_reducible refine w_call ?_
  | with_reducible refine w_isN ?_
  | with_reducible refine w_notN ?_
  | with_reducible refine w_chain ?_
  | with_reducible refine w_sl ?_
  | with_reducible refine w_nopart ?_
  | with_reducible refine w_tupT ?_
  | with_reducible refine w_lstT ?_
  | with_reducible refine w_eq rfl ?_
  | with_reducible refine w_ne rfl ?_
  | with_reducible refine w_for ?_
  | with_reducible refine w_iL ?_
  | with_reducible refine w_iT ?_
  | with_reducible refine w_iR1 ?_
  | with_reducible refine w_iR2 ?_
  | with_reducible refine w_iE ?_
  | with_reducible refine w_iS ?_
  | with_reducible refine w_lc ?_
  | with_reducible refine w_nm ?_
  | with_reducible refine w_din ?_
  | with_reducible refine w_dnotin ?_
  | with_reducible refine w_dput ?_
  | with_reducible refine w_dget1 ?_
  | with_reducible refine w_dget2 ?_
  | with_reducible refine w_bm ?_
  | with_reducible refine w_bm0 ?_
  | with_reducible refine w_sfld ?_
  | with_reducible refine w_make ?_
  | with_reducible refine w_part ?_
  | with_reducible refine w_aug rfl ?_
  | with_reducible refine w_ip ?_
  | with_reducible refine w_yes ?_
  | with_reducible refine w_gcs ?_
  | with_reducible refine w_gnil ?_
  | with_reducible refine w_dget ?_
  | with_reducible refine w_fld ?_
  | with_reducible refine w_meth ?_))
local macro_rules | `(tactic| walk_at "ex") => `(tactic| repeat (first | assumption | exact Ex.refl _ | refine Ex.trans ?_ (by assumption)))
abbrev Mv : Type := Nat × Str
/-- the heap behind moves -/
def runF (hs : List Str) (ms : List Mv) : List Str := ms.foldl (fun h m => h.set m.1 m.2) hs
theorem runF_snoc (hs : List Str) (ms : List Mv) (m : Mv) : runF hs (ms ++ [m]) = (runF hs ms).set m.1 m.2 := by
  unfold runF; rw [List.foldl_append]; rfl
/-- all moves are moves, by two hands in turn -/
def Plays (G : G0) : (List Str → Mv → Prop) → (List Str → Mv → Prop) → List Str → List Mv → Prop
  | _, _, _, [] => True
  | A, B, hs, m :: r => m ∈ movesF G hs ∧ A hs m ∧ Plays G B A (hs.set m.1 m.2) r
def hand (A B : List Str → Mv → Prop) (n : Nat) : List Str → Mv → Prop := if n % 2 = 1 then B else A
theorem hand_succ (A B : List Str → Mv → Prop) (n : Nat) : hand A B (n + 1) = hand B A n := by
  unfold hand
  by_cases z : n % 2 = 1
  · rw [if_pos z, if_neg (by omega)]
  · rw [if_neg z, if_pos (by omega)]
theorem Plays.snoc {G : G0} {m : Mv} : ∀ {ms : List Mv} {A B : List Str → Mv → Prop} {hs : List Str}, Plays G A B hs ms → m ∈ movesF G (runF hs ms) → hand A B ms.length (runF hs ms) m → Plays G A B hs (ms ++ [m])
  | [], A, B, hs, _, h1, h2 => ⟨h1, h2, trivial⟩
  | a :: r, A, B, hs, ⟨p1, p2, p3⟩, h1, h2 => by
    refine ⟨p1, p2, Plays.snoc p3 h1 ?_⟩
    rw [List.length_cons, hand_succ] at h2
    exact h2
theorem Plays.ok {G : G0} (gok : GOk G) : ∀ {ms : List Mv} {A B : List Str → Mv → Prop} {hs : List Str}, HOk' G hs → Plays G A B hs ms → HOk' G (runF hs ms)
  | [], _, _, _, h, _ => h
  | a :: r, _, _, hs, h, ⟨p1, _, p3⟩ => by
    show HOk' G (runF (hs.set a.1 a.2) r)
    exact Plays.ok (ms := r) (hs := hs.set a.1 a.2) gok (hset gok h p1) p3
theorem Plays.imp {G : G0} : ∀ {ms : List Mv} {A B A' B' : List Str → Mv → Prop} {hs : List Str}, (∀ hs m, A hs m → A' hs m) → (∀ hs m, B hs m → B' hs m) → Plays G A B hs ms → Plays G A' B' hs ms
  | [], _, _, _, _, _, _, _, _ => trivial
  | a :: r, A, B, A', B', hs, h1, h2, ⟨p1, p2, p3⟩ => ⟨p1, h1 _ _ p2, Plays.imp h2 h1 p3⟩
/-- how a play is told -/
def endT (G : G0) (hs : List Str) (n : Nat) : Str := if (movesF G hs).isEmpty then (if n % 2 = 0 then "second" else "first") else "open"
theorem fs_at {K : PySem.W.Frag} {H : Hp} {q : Addr} {n : Nat} {Q : VK} (hq : H q = some (.lst [.str "second", .str "first"])) (k : Q (.str (if n % 2 = 0 then "second" else "first")) H) : rIxL K (.ref q) (.int ((n : Int) % 2)) H Q := by
  have e : ((n : Int) % 2) = ((n % 2 : Nat) : Int) := by omega
  rw [e]
  have lt : n % 2 < 2 := Nat.mod_lt _ (by decide)
  match hn : n % 2, lt with
  | 0, _ =>
    rw [hn, if_pos rfl] at k
    exact w_ixL (SqL.of hq) (atI_nat (j := 0) rfl) k
  | 1, _ =>
    rw [hn, if_neg (by decide)] at k
    exact w_ixL (SqL.of hq) (atI_nat (j := 1) rfl) k
section
variable {P : Program} {w : World} {K : PySem.W.Frag} {mg : Str → Option Value} {base : Heap}
def sp_played (P : Program) (w : World) (K : PySem.W.Frag) (mg : Str → Option Value) (base : Heap) : Sp := fun vs H Q _ => ∃ (g h f1 f2 : Addr) (G : G0) (hs : List Str) (A B : List Str → Mv → Prop) (c : Nat), vs = [.ref g, .ref h, .ref f1, .ref f2, nV c] ∧ GAt K H g G ∧ LAt H h hs ∧ GOk G ∧ Txt G ∧ HOk' G hs ∧
  HandOk P w K mg base H f1 G A ∧ HandOk P w K mg base H f2 G B ∧ c ≤ 1000 ∧
  ∀ t l H2 ms, Ex H H2 → H2 t = some (.tup [.ref l, .str (endT G (runF hs ms) ms.length)]) → MsAt H2 l ms → Plays G A B hs ms → (movesF G (runF hs ms) = [] ∨ ms.length = c) → ms.length ≤ c → Q (.ref t) H2
theorem sc_played : FnScope ["ground", "heap", "first", "second", "most", "here", "moves", "player", "move"] ["ground", "heap", "first", "second", "most"] (defScope s_played) := ⟨rfl, rfl, rfl, by decide +kernel, rfl, by decide +kernel, by decide +kernel⟩
theorem D_played (T : Tx K mg) : Def P w K mg base 11 (He.ga K "played") ["ground", "heap", "first", "second", "most"] (sp_played P w K mg base) := by
  refine Def.make T (d := d_played) 49 rfl rfl rfl sc_played (fun _ _ _ _ _ _ us hl => match us, hl with | [_, _, _, _, _], _ => rfl) (fun vs H Q E h => ?_) (fun cdv A outer s H vs Q E hr h => ?_)
  · obtain ⟨g, h, f1, f2, G, hs, A, B, c, rfl, _⟩ := h
    rfl
  · obtain ⟨g, h, f1, f2, G, hs, A, B, c, rfl, hG, hL, gok, tx, hO, hA, hB, hc, k⟩ := h
    have nd := sc_played.nd
    refine ⟨_, (pss_cons (ps_expr (pe_callX (D_need_heap T) (hr.mono (by decide)) rfl T.g_need_heap (pa_cons (pv 0) (pa_cons (pv 1) pa_nil))))
    (pss_cons (ps_set (i := 5) nd rfl (Or.inl rfl) (PE.nm (pe_callTy call_list_of (by rfl) T.f_list (by decide +kernel) (pa_cons (pv 1) pa_nil))))
    (pss_cons (ps_set (i := 6) nd rfl (Or.inl rfl) (PE.nm (pe_lst pa_nil)))
    (pss_cons (ps_while PassesOwn.never (PW.pt (pw_and (pt_not (pt_val (pe_callX (D_is_over T) (hr.mono (by decide)) rfl T.g_is_over (pa_cons (pv 0) (pa_cons (pv 5) pa_nil))))) (pw_and1 (pt_cmpR op_lt (pe_callB call_len_seq (by rfl) T.f_len (by decide +kernel) (pa_cons (pv 6) pa_nil)) (pv 4) (nomark _))))) (pss_cons (ps_set (i := 7) nd rfl (Or.inl rfl) (pv 2))
    (pss_cons (ps_if (pt_cmpR op_eq (pe_op op_mod (pe_callB call_len_seq (by rfl) T.f_len (by decide +kernel) (pa_cons (pv 6) pa_nil)) pe_int) pe_int (nomark _)) (pss_one (ps_set (i := 7) nd rfl (Or.inl rfl) (pv 3))) pss_nil)
    (pss_cons (ps_set (i := 8) nd rfl (Or.inl rfl) (pe_callC (k := KH) (i := 7) (hr.mono (by decide)) rfl (Or.inl rfl) (pa_cons (PE.nm (pe_callTy call_list_of (by rfl) T.f_list (by decide +kernel) (pa_cons (pv 5) pa_nil))) pa_nil)))
    (pss_cons (ps_set (i := 5) nd rfl (Or.inl rfl) (pe_callX (D_after T) (hr.mono (by decide)) rfl T.g_after (pa_cons (pv 0) (pa_cons (pv 5) (pa_cons (pv 8) pa_nil)))))
    (pss_one (ps_expr (pe_bm PySem.F.plainAttrs_list PySem.F.slot_list_append PySem.F.type_list_append mt_append (pv 6) (pa_cons (pv 8) pa_nil)))))))))
    (pss_cons (ps_if (pt_not (pt_val (pe_callX (D_is_over T) (hr.mono (by decide)) rfl T.g_is_over (pa_cons (pv 0) (pa_cons (pv 5) pa_nil))))) (pss_one (ps_ret (PE.nm (pe_tup (pa_cons (pv 6) (pa_cons pe_str pa_nil)))))) pss_nil)
    (pss_one (ps_ret (PE.nm (pe_tup (pa_cons (pv 6) (pa_cons (pe_ix ix_list (PE.nm (pe_lst (pa_cons pe_str (pa_cons pe_str pa_nil)))) (pe_op op_mod (pe_callB call_len_seq (by rfl) T.f_len (by decide +kernel) (pa_cons (pv 6) pa_nil)) pe_int) (fun _ _ => rfl)) pa_nil))))))))))), ?_⟩
    walk_at "go"
    refine ⟨g, h, G, hs, rfl, hG, hL, hO, fun H1 e1 => ?_⟩
    walk_at "go"
    refine ⟨h, _, rfl, .inl (SqL.of (e1 _ _ hL)), w_new fun a H2 ha e2 ha2 => ?_⟩
    walk_at "go"
    refine ⟨szs (Nat.zero_le _), w_new fun l H3 hl e3 hl3 => ?_⟩
    walk_at "go"
    have e13 := (e1.trans e2).trans e3
    have hal : a ≠ l := fun z => by rw [z, hl] at ha2; cases ha2
    have hln : H l = none := Evl.fresh_back (e1.trans e2) hl
    refine ⟨fun m σ H4 => Ex H H4 ∧ ∃ a ms v7 v8, σ = [some (.ref g), some (.ref h), some (.ref f1), some (.ref f2), some (nV c), some (.ref a), some (.ref l), v7, v8] ∧ LAt H4 a (runF hs ms) ∧ a ≠ l ∧ MsAt H4 l ms ∧ Plays G A B hs ms ∧ ms.length ≤ c ∧ m = c - ms.length,
      ⟨c, e13, a, [], none, none, rfl, e3 _ _ ha2, hal, ⟨[], hl3, .nil⟩, trivial, Nat.zero_le _, rfl⟩, ?_⟩
    rintro m σ H4 ⟨e4, a, ms, v7, v8, rfl, hLa, hal, hM, hpl, hle, rfl⟩
    have hO4 := hpl.ok gok hO
    have hlen : ∀ {H5 : Hp}, MsAt H5 l ms → ∃ ts : List Addr, H5 l = some (.lst (ts.map V.ref)) ∧ ts.length = ms.length ∧ Paired (MAt H5) ts ms := fun {H5} q => by
      obtain ⟨ts, h1, h2⟩ := q
      exact ⟨ts, h1, Paired.length h2, h2⟩
    walk_at "go"
    refine ⟨g, a, G, _, rfl, hG.up e4, hLa, gok, tx, hO4, fun H5 e5 => ?_⟩
    have e45 := e4.trans e5
    walk_at "go"
    obtain ⟨ts, hts, htl, hpair⟩ := hlen (hM.up e5)
    by_cases ov : (movesF G (runF hs ms)).isEmpty = true
    · rw [ov]
      refine brF rfl ?_
      refine brF rfl ?_
      walk_at "go"
      refine ⟨g, a, G, _, rfl, hG.up e45, e5 _ _ hLa, gok, tx, hO4, fun H6 e6 => ?_⟩
      walk_at "go"
      rw [ov]
      refine brF rfl ?_
      walk_at "go"
      refine ⟨szs (show 2 ≤ 100000 by decide), w_new fun q H7 hq e7 h7 => ?_⟩
      walk_at "go"
      refine ⟨l, _, rfl, .inl (SqL.of (e7 _ _ (e6 _ _ hts))), ?_⟩
      walk_at "go"
      refine ⟨_, _, rfl, rfl, (show (0 : Int) < 2 by decide), ?_⟩
      rw [List.length_map, htl]
      refine fs_at (n := ms.length) h7 ?_
      walk_at "go"
      refine ⟨szs (show 2 ≤ 100000 by decide), w_new fun t H8 ht e8 h8 => ?_⟩
      have e58 := (e6.trans e7).trans e8
      refine k t l H8 ms (e45.trans e58) ?_ (hM.up (e5.trans e58)) hpl (.inl (List.isEmpty_iff.mp ov)) hle
      unfold endT
      rw [if_pos ov]
      exact h8
    · have ov : (movesF G (runF hs ms)).isEmpty = false := by
        cases q : (movesF G (runF hs ms)).isEmpty with
        | true => exact absurd q ov
        | false => rfl
      have hne : movesF G (runF hs ms) ≠ [] := fun q => by rw [q] at ov; cases ov
      rw [ov]
      refine brT rfl ?_
      walk_at "go"
      refine ⟨l, _, rfl, .inl (SqL.of hts), ?_⟩
      walk_at "go"
      rw [List.length_map, htl, lt_V]
      refine br (fun z => ?_) (fun z => ?_)
      · have z := of_decide_eq_true z
        refine ⟨fun σ' H' => ∃ mv, movesF G (runF hs ms) ≠ [] ∧ Ex H H' ∧ ∃ a v7 v8, σ' = [some (.ref g), some (.ref h), some (.ref f1), some (.ref f2), some (nV c), some (.ref a), some (.ref l), v7, v8] ∧ LAt H' a (runF hs (ms ++ [mv])) ∧ a ≠ l ∧ MsAt H' l (ms ++ [mv]) ∧ Plays G A B hs (ms ++ [mv]), fun σ' H' ⟨mv, _, q1, a', v7', v8', q2, q3, q4, q5, q6⟩ => ⟨c - (ms.length + 1), by omega, q1, a', ms ++ [mv], v7', v8', q2, q3, q4, q5, q6, by rw [List.length_append]; exact z, by rw [List.length_append]; rfl⟩, ?_⟩
        walk_at "go"
        refine ⟨l, _, rfl, .inl (SqL.of hts), ?_⟩
        walk_at "go"
        refine ⟨_, _, rfl, rfl, (show (0 : Int) < 2 by decide), ?_⟩
        walk_at "go"
        rw [List.length_map, htl]
        have par : decide (V.int ((ms.length : Int) % 2) = V.int 1) = decide (ms.length % 2 = 1) := by
          by_cases y : ms.length % 2 = 1
          · rw [decide_eq_true y]
            exact decide_eq_true (congrArg V.int (by omega))
          · rw [decide_eq_false y]
            exact decide_eq_false fun q => y (by have := V.int.inj q; omega)
        rw [par]
        refine br ?t ?f
        case' t =>
          intro y
          have hh := hB.ext (exN e45)
          have hgd : ∀ m, B (runF hs ms) m → hand A B ms.length (runF hs ms) m := fun m q => by unfold hand; rw [if_pos (of_decide_eq_true y)]; exact q
        case' f =>
          intro y
          have hh := hA.ext (exN e45)
          have hgd : ∀ m, A (runF hs ms) m → hand A B ms.length (runF hs ms) m := fun m q => by unfold hand; rw [if_neg (of_decide_eq_false y)]; exact q
        all_goals
          walk_at "go"
          refine w_hand rfl hh fun R hR => ?_
          walk_at "go"
          refine ⟨a, _, rfl, .inl (SqL.of (e5 _ _ hLa)), w_new fun b H6 hb e6 hb6 => ?_⟩
          walk_at "go"
          refine hR b _ H6 e6 hb6 hO4 hne fun t H7 mv e7 hmt hmm hgood => ?_
          have e57 := e6.trans e7
          walk_at "go"
          refine ⟨g, a, t, G, _, mv, rfl, hG.up (e45.trans e57), e57 _ _ (e5 _ _ hLa), hO4, hmt, hmm, fun q H8 hq e8 hq8 => ?_⟩
          have e58 := e57.trans e8
          have hts8 : H8 l = some (.lst (ts.map V.ref)) := e58 _ _ hts
          have hql : q ≠ l := fun z => by
            have := e57 _ _ hts
            rw [← z, hq] at this
            cases this
          walk_at "go"
          refine ⟨.inl ⟨rfl, _, SqL.of hts8⟩, ?_⟩
          walk_at "go"
          refine ⟨l, _, _, rfl, rfl, hts8, szl (by rw [List.length_map]; omega), ?_⟩
          refine ⟨mv, hne, Ex.mut (e45.trans e58) hln, q, _, _, rfl, ?_, hql, ⟨ts ++ [t], by rw [List.map_append]; exact upd_same, ?_⟩, hpl.snoc hmm (hgd mv hgood)⟩
          · show upd H8 l _ q = _
            rw [upd_ne hql, runF_snoc]
            exact hq8
          · exact (pair_tm ((Tm.of e58).trans (Tm.updL hts8)) hpair).snoc (Tm.updL hts8 _ _ (e8 _ _ hmt))
      · have z := of_decide_eq_false z
        walk_at "go"
        refine ⟨g, a, G, _, rfl, hG.up e45, e5 _ _ hLa, gok, tx, hO4, fun H6 e6 => ?_⟩
        walk_at "go"
        rw [ov]
        refine brT rfl ?_
        walk_at "go"
        refine ⟨szs (show 2 ≤ 100000 by decide), w_new fun t H8 ht e8 h8 => ?_⟩
        have e58 := e6.trans e8
        refine k t l H8 ms (e45.trans e58) ?_ (hM.up (e5.trans e58)) hpl (.inr (by omega)) hle
        unfold endT
        rw [if_neg (by rw [ov]; exact Bool.false_ne_true)]
        exact h8
/-! ### walk -/
/-- all are moves -/
def Legal (G : G0) (hs : List Str) (ms : List Mv) : Prop := ∀ i m, ms[i]? = some m → HOk' G (runF hs (ms.take i)) ∧ m ∈ movesF G (runF hs (ms.take i))
theorem Plays.legal {G : G0} (gok : GOk G) : ∀ {ms : List Mv} {A B : List Str → Mv → Prop} {hs : List Str}, HOk' G hs → Plays G A B hs ms → Legal G hs ms
  | [], _, _, _, _, _ => fun i m h => by simp at h
  | a :: r, A, B, hs, hO, ⟨p1, _, p3⟩ => fun i m h => by
    cases i with
    | zero =>
      have h : a = m := by simpa using h
      subst h
      exact ⟨hO, p1⟩
    | succ i => exact Plays.legal gok (hset gok hO p1) p3 i m (by simpa using h)
def heapsF (hs : List Str) (ms : List Mv) (n : Nat) : List (List Str) := (List.range (n + 1)).map fun k => runF hs (ms.take k)
def HpsAt (f : Addr) (H : Hp) (ls : List Addr) (xs : List (List Str)) : Prop := Paired (fun l x => LAt H l x ∧ l ≠ f) ls xs
def sp_walk (K : PySem.W.Frag) : Sp := fun vs H Q _ => ∃ (g h l : Addr) (G : G0) (hs : List Str) (ms : List Mv), vs = [.ref g, .ref h, .ref l] ∧ GAt K H g G ∧ LAt H h hs ∧ MsAt H l ms ∧ GOk G ∧ HOk' G hs ∧ Legal G hs ms ∧ ms.length ≤ 1000 ∧
  ∀ p H2 ls, Ex H H2 → H2 p = some (.lst (ls.map V.ref)) → HpsAt p H2 ls (heapsF hs ms ms.length) → Q (.ref p) H2
theorem sc_walk : FnScope ["ground", "heap", "moves", "found", "move"] ["ground", "heap", "moves"] (defScope s_walk) := ⟨rfl, rfl, rfl, by decide +kernel, rfl, by decide +kernel, by decide +kernel⟩
theorem D_walk (T : Tx K mg) : Def P w K mg base 4 (He.ga K "walk") ["ground", "heap", "moves"] (sp_walk K) := by
  refine Def.make T (d := d_walk) 50 rfl rfl rfl sc_walk (fun _ _ _ _ _ _ us hl => match us, hl with | [_, _, _], _ => rfl) (fun vs H Q E h => ?_) (fun cdv A outer s H vs Q E hr h => ?_)
  · obtain ⟨g, h, l, G, hs, ms, rfl, _⟩ := h
    rfl
  · obtain ⟨g, h, l, G, hs, ms, rfl, hG, hL, hM, gok, hO, hlg, hle, k⟩ := h
    have nd := sc_walk.nd
    refine ⟨_, (pss_cons (ps_expr (pe_callX (D_need_heap T) (hr.mono (by decide)) rfl T.g_need_heap (pa_cons (pv 0) (pa_cons (pv 1) pa_nil))))
    (pss_cons (ps_if (pt_not (pt_val (pe_callB call_isi (by rfl) T.f_isinstance (by decide +kernel) (pa_cons (pv 2) (pa_cons (pe_bltn (v := .ty "list") (by rfl) T.f_list (by decide +kernel) rfl) pa_nil))))) (pss_one ps_never) pss_nil)
    (pss_cons (ps_set (i := 3) nd rfl (Or.inl rfl) (PE.nm (pe_lst (pa_cons (PE.nm (pe_callTy call_list_of (by rfl) T.f_list (by decide +kernel) (pa_cons (pv 1) pa_nil))) pa_nil))))
    (pss_cons (ps_for PassesOwn.never rfl (pi_list (pv 2)) (pg_name (i := 4) nd rfl (Or.inl rfl))
    (pss_one (ps_expr (pe_bm PySem.F.plainAttrs_list PySem.F.slot_list_append PySem.F.type_list_append mt_append (pv 3) (pa_cons (pe_callX (D_after T) (hr.mono (by decide)) rfl T.g_after (pa_cons (pv 0) (pa_cons (pe_ix ix_list (pv 3) (pe_un un_neg pe_int) (fun _ _ => rfl)) (pa_cons (pv 4) pa_nil)))) pa_nil)))))
    (pss_one (ps_ret (pv 3))))))), ?_⟩
    walk_at "go"
    refine ⟨g, h, G, hs, rfl, hG, hL, hO, fun H1 e1 => ?_⟩
    walk_at "go"
    obtain ⟨ts, hts, hpair⟩ := hM.up e1
    have htl := Paired.length hpair
    refine ⟨_, _, _, _, true, rfl, .ty "list", .base (.lst hts), kit_ty (by decide +kernel), ?_⟩
    walk_at "go"
    refine brF rfl ?_
    walk_at "go"
    refine ⟨h, _, rfl, .inl (SqL.of (e1 _ _ hL)), w_new fun a H2 ha e2 ha2 => ?_⟩
    walk_at "go"
    refine ⟨szs (show 1 ≤ 100000 by decide), w_new fun f H3 hf e3 hf3 => ?_⟩
    walk_at "go"
    have e13 := (e1.trans e2).trans e3
    have haf : a ≠ f := fun z => by rw [z, hf] at ha2; cases ha2
    have hfn : H f = none := Evl.fresh_back (e1.trans e2) hf
    have hlf : l ≠ f := fun z => by
      have := e2 _ _ hts
      rw [z, hf] at this
      cases this
    refine ⟨l, rfl, ⟨_, SqL.of ((e2.trans e3) _ _ hts)⟩, for_list (K := K) (a := l) (xs := ts.map V.ref) (fun i σ' H4 => i ≤ ms.length ∧ Ex H H4 ∧ H4 l = some (.lst (ts.map V.ref)) ∧ Paired (MAt H4) ts ms ∧ (∃ ls : List Addr, H4 f = some (.lst (ls.map V.ref)) ∧ HpsAt f H4 ls (heapsF hs ms i)) ∧ ∃ v, σ' = [some (.ref g), some (.ref h), some (.ref l), some (.ref f), v])
      ⟨Nat.zero_le _, e13, (e2.trans e3) _ _ hts, pair_tm (Tm.of (e2.trans e3)) hpair, ⟨[a], hf3, .cons ⟨e3 _ _ ha2, haf⟩ .nil⟩, none, rfl⟩ (fun i σ' H4 _ ⟨_, _, q, _⟩ => SqL.of q) ?_ ?_⟩
    · rintro i y σ' H4 hi ⟨hil, e4, hl4, hp4, ⟨ls, hls, hps⟩, v, rfl⟩
      obtain ⟨t, ht, rfl⟩ := map_at hi
      obtain ⟨m, hm, hmt⟩ := Paired.at_ hp4 ht
      obtain ⟨hOi, hmm⟩ := hlg i m hm
      have hll : ls.length = i + 1 := by
        have q := Paired.length hps
        unfold heapsF at q
        rw [List.length_map, List.length_range] at q
        exact q
      have hlast : ∃ b, ls[i]? = some b := ⟨ls[i]'(by omega), List.getElem?_eq_getElem (by omega)⟩
      obtain ⟨b, hb⟩ := hlast
      obtain ⟨x, hx, hbx, hbf⟩ := Paired.at_ hps hb
      have hxx : x = runF hs (ms.take i) := by
        unfold heapsF at hx
        rw [List.getElem?_map, List.getElem?_range (by omega)] at hx
        exact (Option.some.inj hx).symm
      subst hxx
      walk_at "go"
      refine ⟨.inl ⟨rfl, _, SqL.of hls⟩, ?_⟩
      walk_at "go"
      refine ⟨_, rfl, ?_⟩
      have els : ls.map V.ref = (ls.take i).map V.ref ++ [.ref b] := by
        have q := tk hb
        rw [List.take_of_length_le (by omega)] at q
        conv => lhs; rw [q]
        rw [List.map_append]
        rfl
      refine w_ixL (SqL.of hls) (v := .ref b) (by rw [els]; exact atI_last _ _) ?_
      walk_at "go"
      refine ⟨g, b, t, G, _, m, rfl, hG.up e4, hbx, hOi, hmt, hmm, fun q H5 hq e5 hq5 => ?_⟩
      have hls5 : H5 f = some (.lst (ls.map V.ref)) := e5 _ _ hls
      have hqf : q ≠ f := fun z => by rw [z, hls] at hq; cases hq
      walk_at "go"
      refine ⟨f, _, _, rfl, rfl, hls5, szl (by rw [List.length_map]; omega), ?_⟩
      have keep : ∀ {b : Addr} {x : List Str}, LAt H5 b x → b ≠ f → LAt (upd H5 f (.lst (ls.map V.ref ++ [.ref q]))) b x := fun {b x} h1 h2 => by
        show upd H5 f _ b = _
        rw [upd_ne h2]
        exact h1
      refine ⟨lt_of_at hm, Ex.mut (e4.trans e5) hfn, by rw [upd_ne hlf]; exact e5 _ _ hl4, pair_tm ((Tm.of e5).trans (Tm.updL hls5)) hp4, ⟨ls ++ [q], by rw [List.map_append]; exact upd_same, ?_⟩, _, rfl⟩
      have eh : heapsF hs ms (i + 1) = heapsF hs ms i ++ [(runF hs (ms.take i)).set m.1 m.2] := by
        unfold heapsF
        rw [List.range_succ, List.map_append, List.map_singleton, tk hm, runF_snoc]
      rw [eh]
      exact (Paired.mapP hps fun _ _ q => ⟨keep (e5 _ _ q.1) q.2, q.2⟩).snoc ⟨keep hq5 hqf, hqf⟩
    · rintro σ' H4 ⟨_, e4, hl4, hp4, ⟨ls, hls, hps⟩, v, rfl⟩
      walk_at "go"
      rw [List.length_map, htl] at hps
      exact k f H4 ls e4 hls hps
end
end K96

set_option Elab.async false
set_option linter.all false
set_option maxRecDepth 100000
set_option maxHeartbeats 4000000
/-! K96S: sources of numbers; the opponent. -/
namespace K96
open PySem PySem.Spec PyProof.Rows L2 LamX NdefX
open Evl (Ex)
open K96M (Gr)
local macro_rules | `(tactic| walk_at "go") => `(tactic| repeat (first
  | with_reducible refine w_seq ?_
  | with_reducible refine w_asg ?_
  | with_reducible refine w_name ?_
  | with_reducible refine w_var rfl ?_
  | with_reducible refine w_c ?_
  | with_reducible refine w_op ?_
  | with_reducible refine w_I0 ?_
  | with_reducible refine w_drop ?_
  | with_reducible refine w_ret ?_
  | with_reducible refine w_if ?_
  | with_reducible refine w_next ?_
  | with_reducible refine w_test ?_
  | with_reducible refine w_B ?_
  | with_reducible refine w_bl ?_
  | with_reducible refine w_not ?_
  | with_reducible refine w_and ?_
  | with_reducible refine w_or ?_
  | with_reducible refine w_andV ?_
  | with_reducible refine w_orV ?_
  | with_reducible refine w_notV ?_
  | with_reducible refine w_cons ?_
  | with_reducible refine w_nil ?_
  | with_reducible refine w_cb ?_
  | with_reducible refine w_call ?_
  | with_reducible refine w_isN ?_
  | with_reducible refine w_notN ?_
  | with_reducible refine w_chain ?_
  | with_reducible refine w_sl ?_
  | with_reducible refine w_nopart ?_
  | with_reducible refine w_tupT ?_
  | with_reducible refine w_lstT ?_
  | with_reducible refine w_eq rfl ?_
  | with_reducible refine w_ne rfl ?_
  | with_reducible refine w_for ?_
  | with_reducible refine w_iL ?_
  | with_reducible refine w_iT ?_
  | with_reducible refine w_iR1 ?_
  | with_reducible refine w_iR2 ?_
  | with_reducible refine w_iE ?_
  | with_reducible refine w_iS ?_
  | with_reducible refine w_lc ?_
  | with_reducible refine w_nm ?_
  | with_reducible refine w_din ?_
  | with_reducible refine w_dnotin ?_
  | with_reducible refine w_dput ?_
  | with_reducible refine w_dget1 ?_
  | with_reducible refine w_dget2 ?_
  | with_reducible refine w_bm ?_
  | with_reducible refine w_bm0 ?_
  | with_reducible refine w_sfld ?_
  | with_reducible refine w_make ?_
  | with_reducible refine w_part ?_
  | with_reducible refine w_aug rfl ?_
  | with_reducible refine w_ip ?_
  | with_reducible refine w_yes ?_
  | with_reducible refine w_gcs ?_
  | with_reducible refine w_gnil ?_
  | with_reducible refine w_dget ?_
  | with_reducible refine w_fld ?_
  | with_reducible refine w_meth ?_))
local macro_rules | `(tactic| walk_at "ex") => `(tactic| repeat (first | assumption | exact Ex.refl _ | refine Ex.trans ?_ (by assumption)))
/-! ### sources -/
def SrcAt (H : Hp) (a : Addr) : Prop := ∃ n s t : Int, H a = some (.dK (srcK n s t))
theorem SrcAt.up {H H' : Hp} {a : Addr} (h : SrcAt H a) (e : Ex H H') : SrcAt H' a := by
  obtain ⟨n, s, t, h⟩ := h
  exact ⟨n, s, t, e _ _ h⟩
theorem SrcAt.es {H H' : Hp} {a : Addr} (h : SrcAt H a) (e : ExtN H H') : SrcAt H' a := by
  obtain ⟨n, s, t, h⟩ := h
  exact ⟨n, s, t, e _ _ h fun ps z => by cases z⟩
theorem k_nn : ¬ (Sum.inr "number" : Key) = (Sum.inr "seed" : Key) := by decide +kernel
theorem k_nt : ¬ (Sum.inr "number" : Key) = (Sum.inr "turn" : Key) := by decide +kernel
theorem k_st : ¬ (Sum.inr "seed" : Key) = (Sum.inr "turn" : Key) := by decide +kernel
theorem k_sn : ¬ (Sum.inr "seed" : Key) = (Sum.inr "number" : Key) := by decide +kernel
theorem k_tn : ¬ (Sum.inr "turn" : Key) = (Sum.inr "number" : Key) := by decide +kernel
theorem k_ts : ¬ (Sum.inr "turn" : Key) = (Sum.inr "seed" : Key) := by decide +kernel
theorem s_sn : ¬ ("seed" : Str) = "number" := by decide +kernel
theorem s_tn : ¬ ("turn" : Str) = "number" := by decide +kernel
theorem s_nt : ¬ ("number" : Str) = "turn" := by decide +kernel
theorem s_st : ¬ ("seed" : Str) = "turn" := by decide +kernel
theorem src_n (n s t : Int) : valV (srcK n s t) (.inr "number") = some (.int n) := valV_pos rfl
theorem src_s (n s t : Int) : valV (srcK n s t) (.inr "seed") = some (.int s) := (valV_neg k_nn).trans (valV_pos rfl)
theorem src_t (n s t : Int) : valV (srcK n s t) (.inr "turn") = some (.int t) := ((valV_neg k_nt).trans (valV_neg k_st)).trans (valV_pos rfl)
theorem src_pn (n s t m : Int) : putK (srcK n s t) (.inr "number") (.int m) = srcK m s t := by
  unfold putK srcK
  simp [s_sn, s_tn]
theorem src_pt (n s t m : Int) : putK (srcK n s t) (.inr "turn") (.int m) = srcK n s m := by
  unfold putK srcK
  simp [s_nt, s_st]
theorem s_ns : ¬ ("number" : Str) = "seed" := by decide +kernel
theorem merge_src (n s t : Int) : mergeK [] (srcK n s t) = srcK n s t := by
  unfold mergeK srcK putK
  simp [s_ns, s_nt, s_st]
/-- a source read: all else stands -/
theorem Et.src {H : Hp} {a : Addr} {n s t n' s' t' : Int} (h : H a = some (.dK (srcK n s t))) : Et H (upd H a (.dK (srcK n' s' t'))) := fun b o hb p => by
  rw [upd_ne fun z => p n s t (by rw [z, h] at hb; exact (Option.some.inj hb).symm)]
  exact hb
def Nb (H H2 : Hp) : Prop := ∀ b, H2 b = none → H b = none
theorem Nb.of {H H2 : Hp} (e : Ex H H2) : Nb H H2 := fun b h => Evl.fresh_back e h
theorem Nb.trans {H H1 H2 : Hp} (a : Nb H H1) (b : Nb H1 H2) : Nb H H2 := fun c h => a c (b c h)
theorem Nb.refl (H : Hp) : Nb H H := fun _ h => h
theorem Nb.upd {H : Hp} {a : Addr} {o : HO} : Nb H (upd H a o) := fun b h => by
  unfold L2.upd at h
  split at h
  · cases h
  · exact h
theorem w_pc {tk tv : TE} {r : List (TE × TE)} {σ : L2.St} {H : Hp} {Q : List (V × V) → Hp → Prop} (h : tk σ H fun x H1 => tv σ H1 fun y H2 => tPairs r σ H2 fun ps H3 => Q ((x, y) :: ps) H3) : tPairs ((tk, tv) :: r) σ H Q := h
theorem w_pn {σ : L2.St} {H : Hp} {Q : List (V × V) → Hp → Prop} (h : Q [] H) : tPairs [] σ H Q := h
section
variable {P : Program} {w : World} {K : PySem.W.Frag} {mg : Str → Option Value} {base : Heap}
def sp_cell_at (K : PySem.W.Frag) : Sp := fun vs H Q _ => ∃ (a : Addr) (ns : List Int) (k : Nat), vs = [.ref a, nV k] ∧ SqL K H a (ns.map V.int) ∧ ∀ z, Q (.int z) H
theorem sc__law_cell_at : FnScope ["_law_script", "_law_k"] ["_law_script", "_law_k"] (defScope s__law_cell_at) := ⟨rfl, rfl, rfl, by decide +kernel, rfl, by decide +kernel, by decide +kernel⟩
theorem D__law_cell_at (T : Tx K mg) : Def P w K mg base 1 (He.ga K "_law_cell_at") ["_law_script", "_law_k"] (sp_cell_at K) := by
  refine Def.make T (d := d__law_cell_at) 54 rfl rfl rfl sc__law_cell_at (fun _ _ _ _ _ _ us hl => match us, hl with | [_, _], _ => rfl) (fun vs H Q E h => ?_) (fun cdv A outer s H vs Q E hr h => ?_)
  · obtain ⟨a, ns, k, rfl, _⟩ := h
    rfl
  · obtain ⟨a, ns, n, rfl, hS, k⟩ := h
    have nd := sc__law_cell_at.nd
    refine ⟨_, (pss_cons (ps_if (pt_cmpR op_lt (pv 1) (pe_callB call_len_seq (by rfl) T.f_len (by decide +kernel) (pa_cons (pv 0) pa_nil)) (nomark _)) (pss_one (ps_ret (pe_ix ix_list (pv 0) (pv 1) (fun _ _ => rfl)))) pss_nil)
    (pss_one (ps_ret (pe_op op_add (pe_op op_mul pe_int (pv 1)) pe_int)))), ?_⟩
    walk_at "go"
    refine ⟨a, _, rfl, .inl hS, ?_⟩
    walk_at "go"
    rw [List.length_map, lt_V]
    refine br (fun z => ?_) (fun z => ?_)
    · walk_at "go"
      have z := of_decide_eq_true z
      exact w_ixL hS (v := .int ns[n]) (atI_nat (by rw [List.getElem?_map, List.getElem?_eq_getElem z]; rfl)) (k _)
    · walk_at "go"
      refine w_I (.inl ⟨by decide, by decide⟩) ?_
      walk_at "go"
      exact k _
def sp_source (K : PySem.W.Frag) : Sp := fun vs H Q _ => ∃ (z : Int), vs = [.int z] ∧ ∀ p H2, H p = none → Ex H H2 → SrcAt H2 p → Q (.ref p) H2
theorem sc__law_source : FnScope ["_law_cell"] ["_law_cell"] (defScope s__law_source) := ⟨rfl, rfl, rfl, by decide +kernel, rfl, by decide +kernel, by decide +kernel⟩
theorem D__law_source (T : Tx K mg) : Def P w K mg base 1 (He.ga K "_law_source") ["_law_cell"] (sp_source K) := by
  refine Def.make T (d := d__law_source) 55 rfl rfl rfl sc__law_source (fun _ _ _ _ _ _ us hl => match us, hl with | [_], _ => rfl) (fun vs H Q E h => ?_) (fun cdv A outer s H vs Q E hr h => ?_)
  · obtain ⟨z, rfl, _⟩ := h
    rfl
  · obtain ⟨z, rfl, k⟩ := h
    have nd := sc__law_source.nd
    refine ⟨_, (pss_one (ps_ret (PE.nm (pe_disp (pps_cons pe_str (pe_op op_mul (pe_callB (call_max2 rfl) (by rfl) T.f_max (by decide +kernel) (pa_cons pe_int (pa_cons (pv 0) pa_nil))) (pe_callTy call_int1 (by rfl) T.f_int (by decide +kernel) (pa_cons (pe_cmpR op_ge (pv 0) (pe_op op_pow pe_int pe_int) (nomark _)) pa_nil))) (pps_cons pe_str (pe_op op_mod (pv 0) pe_int) (pps_cons pe_str pe_int pps_nil))) (by rfl) (by rfl) (fun z => by cases z) (by decide))))), ?_⟩
    walk_at "go"
    intro p hp
    refine w_pc ?_
    walk_at "go"
    refine ⟨_, _, rfl, ?_⟩
    walk_at "go"
    refine w_I ⟨by decide, by decide, by decide⟩ ?_
    refine w_I0 ?_
    refine .inr ⟨_, rfl, ?_⟩
    refine w_I (.inr ?_) ?_
    · split <;> exact ⟨by decide, by decide⟩
    refine w_pc ?_
    walk_at "go"
    refine w_I (by decide) ?_
    refine w_pc ?_
    walk_at "go"
    refine w_pn ?_
    refine ⟨upd_same, [(.inr "number", _), (.inr "seed", _), (.inr "turn", _)], rfl, (by show 3 ≤ 15; decide), fun H3 e => ?_⟩
    rw [upd_upd] at e
    have ek := fun n s t => merge_src n s t
    unfold srcK at ek
    rw [ek] at e
    exact k p H3 hp (by rw [e]; exact Ex.new hp) ⟨_, _, _, by rw [e]; exact upd_same⟩
def sp_take (K : PySem.W.Frag) : Sp := fun vs H Q _ => ∃ (a : Addr) (m : Nat), vs = [.ref a, nV m] ∧ 0 < m ∧ m ≤ 2000000 ∧ SrcAt H a ∧ ∀ (r : Nat) H2, r < m → Et H H2 → Nb H H2 → SrcAt H2 a → Q (nV r) H2
theorem sc__law_take : FnScope ["_law_source_here", "_law_many", "_law_digit", "_law_number"] ["_law_source_here", "_law_many"] (defScope s__law_take) := ⟨rfl, rfl, rfl, by decide +kernel, rfl, by decide +kernel, by decide +kernel⟩
theorem D__law_take (T : Tx K mg) : Def P w K mg base 1 (He.ga K "_law_take") ["_law_source_here", "_law_many"] (sp_take K) := by
  refine Def.make T (d := d__law_take) 56 rfl rfl rfl sc__law_take (fun _ _ _ _ _ _ us hl => match us, hl with | [_, _], _ => rfl) (fun vs H Q E h => ?_) (fun cdv A outer s H vs Q E hr h => ?_)
  · obtain ⟨a, m, rfl, _⟩ := h
    rfl
  · obtain ⟨a, m, rfl, hm0, hm, ⟨n, s, t, hS⟩, k⟩ := h
    have nd := sc__law_take.nd
    have hu := hu_of hr
    refine ⟨_, (pss_cons (ps_if (pt_cmpR op_gt (pe_dget hu (pv 0) pe_str (fun _ _ => rfl)) pe_int (nomark _)) (pss_cons (ps_set (i := 2) nd rfl (Or.inl rfl) (pe_op op_mod (pe_dget hu (pv 0) pe_str (fun _ _ => rfl)) (pv 1)))
    (pss_cons (ps_dput hu (pv 0) pe_str (pe_op op_fdivW (pe_dget hu (pv 0) pe_str (fun _ _ => rfl)) (pv 1)) rfl)
    (pss_one (ps_ret (pv 2))))) pss_nil)
    (pss_cons (ps_dput hu (pv 0) pe_str (pe_op op_add (pe_dget hu (pv 0) pe_str (fun _ _ => rfl)) pe_int) rfl)
    (pss_cons (ps_set (i := 3) nd rfl (Or.inl rfl) (pe_op op_mod (pe_op op_mul (pe_op op_add (pe_dget hu (pv 0) pe_str (fun _ _ => rfl)) (pe_op op_mul pe_int (pe_dget hu (pv 0) pe_str (fun _ _ => rfl)))) pe_int) pe_int))
    (pss_cons (ps_set (i := 3) nd rfl (Or.inl rfl) (pe_op op_mod (pe_op op_mul (pv 3) (pv 3)) pe_int))
    (pss_one (ps_ret (pe_op op_mod (pe_op op_fdivW (pe_op op_mod (pe_op op_mul (pe_op op_add (pv 3) (pe_dget hu (pv 0) pe_str (fun _ _ => rfl))) (pe_op op_add (pv 3) pe_int)) pe_int) pe_int) (pv 1)))))))), ?_⟩
    have gn : ∀ {H' : Hp} {n s t : Int}, H' a = some (.dK (srcK n s t)) → DGet H' a (.str "number") (some (.int n)) := fun {H' n s t} h => by
      have q := DGet.k (k := Sum.inr "number") h
      rw [src_n] at q
      exact q
    have gs : ∀ {H' : Hp} {n s t : Int}, H' a = some (.dK (srcK n s t)) → DGet H' a (.str "seed") (some (.int s)) := fun {H' n s t} h => by
      have q := DGet.k (k := Sum.inr "seed") h
      rw [src_s] at q
      exact q
    have gt : ∀ {H' : Hp} {n s t : Int}, H' a = some (.dK (srcK n s t)) → DGet H' a (.str "turn") (some (.int t)) := fun {H' n s t} h => by
      have q := DGet.k (k := Sum.inr "turn") h
      rw [src_t] at q
      exact q
    have fin : ∀ (z : Int) (n' t' : Int), Q (.int (z % (m : Int))) (upd H a (.dK (srcK n' s t'))) := fun z n' t' => by
      have h1 := Int.emod_nonneg z (show (m : Int) ≠ 0 by omega)
      have h2 := Int.emod_lt_of_pos z (show (0 : Int) < m by omega)
      have e : z % (m : Int) = (((z % (m : Int)).toNat : Nat) : Int) := by omega
      rw [e]
      exact k _ _ (by omega) (Et.src hS) Nb.upd ⟨_, _, _, upd_same⟩
    walk_at "go"
    refine ⟨a, _, rfl, gn hS, ?_⟩
    walk_at "go"
    refine br (fun z => ?_) (fun z => ?_)
    · walk_at "go"
      refine ⟨a, _, rfl, gn hS, ?_⟩
      walk_at "go"
      refine w_I (show (0 : Int) < m by omega) ?_
      walk_at "go"
      refine ⟨a, _, rfl, gn hS, ?_⟩
      walk_at "go"
      refine w_I ⟨show (0 : Int) < m by omega, ?_⟩ ?_
      · rw [Int.natAbs_natCast]
        exact Nat.lt_of_le_of_lt (Nat.log2_le_self _) (by omega) |> fun _ => by
          have : m.log2 < 21 := (Nat.log2_lt (by omega)).mpr (by omega)
          omega
      walk_at "go"
      refine ⟨a, _, rfl, DPut.k (k := Sum.inr "number") hS (by show 3 < sizeLine; decide), ?_⟩
      rw [src_pn]
      walk_at "go"
      exact fin _ _ _
    · walk_at "go"
      refine ⟨a, _, rfl, gt hS, ?_⟩
      walk_at "go"
      refine ⟨a, _, rfl, DPut.k (k := Sum.inr "turn") hS (by show 3 < sizeLine; decide), ?_⟩
      rw [src_pt]
      walk_at "go"
      have hS2 : (upd H a (.dK (srcK n s (t + 1)))) a = some (.dK (srcK n s (t + 1))) := upd_same
      refine ⟨a, _, rfl, gs hS2, ?_⟩
      walk_at "go"
      refine ⟨a, _, rfl, gt hS2, ?_⟩
      refine w_I (.inl ⟨by decide, by decide⟩) ?_
      walk_at "go"
      refine w_I (.inr ⟨by decide, by decide⟩) ?_
      walk_at "go"
      refine w_I (by decide) ?_
      walk_at "go"
      generalize hx : (s + 7919 * (t + 1)) * 48271 % 2147483647 = x
      have hx0 : 0 ≤ x := by rw [← hx]; exact Int.emod_nonneg _ (by decide)
      have hx1 : x < 2147483647 := by rw [← hx]; exact Int.emod_lt_of_pos _ (by decide)
      refine w_I (.inl ⟨by omega, by omega⟩) ?_
      walk_at "go"
      refine w_I (by decide) ?_
      walk_at "go"
      generalize hy : x * x % 2147483629 = y
      have hy0 : 0 ≤ y := by rw [← hy]; exact Int.emod_nonneg _ (by decide)
      have hy1 : y < 2147483629 := by rw [← hy]; exact Int.emod_lt_of_pos _ (by decide)
      refine ⟨a, _, rfl, gt hS2, ?_⟩
      walk_at "go"
      refine w_I (.inr ⟨by omega, by omega⟩) ?_
      walk_at "go"
      refine w_I (by decide) ?_
      walk_at "go"
      refine w_I ⟨by decide, by decide +kernel⟩ ?_
      walk_at "go"
      refine w_I (show (0 : Int) < m by omega) ?_
      exact fin _ _ _
end
end K96

set_option Elab.async false
set_option linter.all false
set_option maxRecDepth 100000
set_option maxHeartbeats 4000000
/-! K96U: the opponent; rows of moves looked at. -/
namespace K96
open PySem PySem.Spec PyProof.Rows L2 LamX NdefX
open Evl (Ex)
open K96M (Gr)
local macro_rules | `(tactic| walk_at "go") => `(tactic| repeat (first
  | with_reducible refine w_seq ?_
  | with_reducible refine w_asg ?_
  | with_reducible refine w_name ?_
  | with_reducible refine w_var rfl ?_
  | with_reducible refine w_c ?_
  | with_reducible refine w_op ?_
  | with_reducible refine w_I0 ?_
  | with_reducible refine w_drop ?_
  | with_reducible refine w_ret ?_
  | with_reducible refine w_if ?_
  | with_reducible refine w_next ?_
  | with_reducible refine w_test ?_
  | with_reducible refine w_B ?_
  | with_reducible refine w_bl ?_
  | with_reducible refine w_not ?_
  | with_reducible refine w_and ?_
  | with_reducible refine w_or ?_
  | with_reducible refine w_andV ?_
  | with_reducible refine w_orV ?_
  | with_reducible refine w_notV ?_
  | with_reducible refine w_cons ?_
  | with_reducible refine w_nil ?_
  | with_reducible refine w_cb ?_
  | with_reducible refine w_call ?_
  | with_reducible refine w_isN ?_
  | with_reducible refine w_notN ?_
  | with_reducible refine w_chain ?_
  | with_reducible refine w_sl ?_
  | with_reducible refine w_nopart ?_
  | with_reducible refine w_tupT ?_
  | with_reducible refine w_lstT ?_
  | with_reducible refine w_eq rfl ?_
  | with_reducible refine w_ne rfl ?_
  | with_reducible refine w_for ?_
  | with_reducible refine w_iL ?_
  | with_reducible refine w_iT ?_
  | with_reducible refine w_iR1 ?_
  | with_reducible refine w_iR2 ?_
  | with_reducible refine w_iE ?_
  | with_reducible refine w_iS ?_
  | with_reducible refine w_lc ?_
  | with_reducible refine w_nm ?_
  | with_reducible refine w_din ?_
  | with_reducible refine w_dnotin ?_
  | with_reducible refine w_dput ?_
  | with_reducible refine w_dget1 ?_
  | with_reducible refine w_dget2 ?_
  | with_reducible refine w_bm ?_
  | with_reducible refine w_bm0 ?_
  | with_reducible refine w_sfld ?_
  | with_reducible refine w_make ?_
  | with_reducible refine w_part ?_
  | with_reducible refine w_aug rfl ?_
  | with_reducible refine w_ip ?_
  | with_reducible refine w_yes ?_
  | with_reducible refine w_gcs ?_
  | with_reducible refine w_gnil ?_
  | with_reducible refine w_dget ?_
  | with_reducible refine w_fld ?_
  | with_reducible refine w_meth ?_))
local macro_rules | `(tactic| walk_at "ex") => `(tactic| repeat (first | assumption | exact Ex.refl _ | refine Ex.trans ?_ (by assumption)))
/-- any move -/
def AnyG (_ : List Str) (_ : Mv) : Prop := True
theorem first_at {x : Str} : ∀ {l : List Str}, x ∈ l → ∃ j : Nat, l[j]? = some x ∧ ∀ m y, m < j → l[m]? = some y → y ≠ x
  | [], h => by cases h
  | a :: r, h => by
    by_cases e : a = x
    · exact ⟨0, by rw [e]; rfl, fun m y hm => absurd hm (Nat.not_lt_zero _)⟩
    · obtain ⟨j, h1, h2⟩ := first_at ((List.mem_cons.mp h).resolve_left fun z => e z.symm)
      refine ⟨j + 1, h1, fun m y hm hy => ?_⟩
      cases m with
      | zero =>
        have hy : a = y := Option.some.inj hy
        rw [← hy]
        exact e
      | succ m => exact h2 m y (by omega) hy
theorem eqS (a b : Str) : eqV (sV a) (sV b) = decide (a = b) := by
  show (a == b) = _
  by_cases z : a = b
  · subst z; simp
  · rw [decide_eq_false z]
    exact beq_eq_false_iff_ne.mpr z
theorem sc__law_told_move : NScope ["_law_heap_here", "_law_ground", "_law_names_here", "_law_seed", "_law_number", "_law_name", "_law_moves"] ["_law_heap_here"] ["_law_ground", "_law_names_here", "_law_seed"] (C8.fnScope n_opp) := nscope_by (by decide +kernel)
theorem nm_o : nmF 508 4 = (d__law_opponent.qual ++ ".<locals>.") ++ "_law_told_move" := by decide +kernel
theorem nb_o : ndefB (defScope s__law_opponent) (C8.fnScope n_opp) ["_law_ground", "_law_names_here", "_law_seed"] = true := by decide +kernel
section
variable {P : Program} {w : World} {K : PySem.W.Frag} {mg : Str → Option Value} {base : Heap}
def sp_opp (K : PySem.W.Frag) (ws : List (Option V)) : Sp := fun vs H Q _ => ∃ (g nl h : Addr) (sd : Nat) (G : G0) (hs : List Str), ws = [some (.ref g), some (.ref nl), some (nV sd)] ∧ vs = [.ref h] ∧ GAt K H g G ∧ LAt H nl G.ns ∧ LAt H h hs ∧ GOk G ∧ HOk' G hs ∧ movesF G hs ≠ [] ∧
  ∀ t H2 m, Ex H H2 → MAt H2 t m → m ∈ movesF G hs → Q (.ref t) H2
theorem nok_opp (T : Tx K mg) (f c : Addr) (qual : Str) (cl : List (Str × Addr)) : NOk P w K mg base CX0 KH f (NF.of n_opp "_law_told_move" qual cl c) ["_law_heap_here"] ["_law_ground", "_law_names_here", "_law_seed"] (sp_opp K) := by
  refine NOk.mono (j := 4) (nok_of sc__law_told_move (fun _ _ _ us hl => match us, hl with | [_], _ => rfl) (fun ws vs H Q E h => ?_) (fun A outer s H vs ws Q E hr hf hc hwl h => ?_)) (by decide)
  · obtain ⟨g, nl, h, sd, G, hs, _, rfl, _⟩ := h
    rfl
  · obtain ⟨g, nl, h, sd, G, hs, rfl, rfl, hG, hN, hL, gok, hO, hne, k⟩ := h
    have nd := sc__law_told_move.nd
    refine ⟨_, PSs.nox (pss_cons (ps_set (i := 4) nd rfl (Or.inl rfl) (pv 3))
    (pss_cons (ps_for PassesOwn.never rfl (pi_list (pv 0)) (pg_name (i := 5) nd rfl (Or.inl rfl))
    (pss_one (ps_set (i := 4) nd rfl (Or.inl rfl) (pe_op op_mod (pe_op op_add (pe_op op_add (pe_op op_mul (pv 4) pe_int) (pe_bm PySem.F.plainAttrs_list PySem.F.slot_list_index PySem.F.type_list_index mt_index (pv 2) (pa_cons (pv 5) pa_nil))) pe_int) pe_int))))
    (pss_cons (ps_set (i := 6) nd rfl (Or.inl rfl) (pe_callX (D_moves_of T) (hr.mono (by decide)) rfl T.g_moves_of (pa_cons (pv 1) (pa_cons (pv 0) pa_nil))))
    (pss_one (ps_ret (pe_ix ix_list (pv 6) (pe_op op_mod (pv 4) (pe_callB call_len_seq (by rfl) T.f_len (by decide +kernel) (pa_cons (pv 6) pa_nil))) (fun _ _ => rfl))))))), ?_⟩
    walk_at "go"
    refine ⟨h, rfl, ⟨_, SqL.of hL⟩, for_list (K := K) (a := h) (xs := hs.map sV) (fun i σ H2 => H2 = H ∧ ∃ (x : Nat) (v : Option V), σ = [some (.ref h), some (.ref g), some (.ref nl), some (nV sd), some (nV x), v, none]) ⟨rfl, sd, none, rfl⟩ (fun i σ H2 _ ⟨e, _⟩ => by rw [e]; exact SqL.of hL) ?_ ?_⟩
    · rintro i y σ H2 hi ⟨rfl, x, v, rfl⟩
      obtain ⟨b, hb, rfl⟩ := map_at hi
      obtain ⟨j, hj1, hj2⟩ := first_at (hO.ins b (List.mem_of_getElem? hb))
      walk_at "go"
      refine w_I (.inr ⟨by decide, by decide⟩) ?_
      walk_at "go"
      refine ⟨.inl ⟨rfl, _, SqL.of hN⟩, ?_⟩
      walk_at "go"
      refine ⟨nl, _, _, j, sV b, rfl, rfl, SqL.of hN, rfl, flat_sV _, by rw [List.getElem?_map, hj1]; rfl, by rw [eqS]; exact decide_eq_true rfl, fun m z hm hz => ?_, ?_⟩
      · obtain ⟨y, hy, rfl⟩ := map_at hz
        rw [eqS]
        exact decide_eq_false (hj2 m y hm hy)
      walk_at "go"
      refine w_I (by decide) ?_
      walk_at "go"
      have e : ((x : Int) * 37 + (j : Int) + 7) % 1000003 = (((x * 37 + j + 7) % 1000003 : Nat) : Int) := by omega
      rw [e]
      exact ⟨rfl, _, _, rfl⟩
    · rintro σ H2 ⟨rfl, x, v, rfl⟩
      walk_at "go"
      refine ⟨g, h, G, hs, rfl, hG, hL, gok, hO, fun p H3 hp e3 hM => ?_⟩
      walk_at "go"
      obtain ⟨ts, hts, hpair⟩ := hM
      have hlen := Paired.length hpair
      have hpos : 0 < ts.length := by rw [hlen]; exact List.length_pos_iff.mpr hne
      refine ⟨p, _, rfl, .inl (SqL.of hts), ?_⟩
      rw [List.length_map]
      refine w_I (show (0 : Int) < (ts.length : Nat) by omega) ?_
      have hlt : x % ts.length < ts.length := Nat.mod_lt _ hpos
      have ht : ts[x % ts.length]? = some ts[x % ts.length] := List.getElem?_eq_getElem hlt
      obtain ⟨m, hm, hmt⟩ := Paired.at_ hpair ht
      rw [show ((x : Int) % (ts.length : Nat)) = ((x % ts.length : Nat) : Int) by omega]
      refine w_ixL (SqL.of hts) (v := .ref ts[x % ts.length]) (atI_nat (by rw [List.getElem?_map, ht]; rfl)) ?_
      exact k _ H3 m e3 hmt (List.mem_of_getElem? hm)
def sp_opponent (P : Program) (w : World) (K : PySem.W.Frag) (mg : Str → Option Value) (base : Heap) : Sp := fun vs H Q _ => ∃ (a g : Addr) (G : G0), vs = [.ref a, .ref g] ∧ SrcAt H a ∧ GAt K H g G ∧ GOk G ∧ TabsN (tbs K) H ∧
  ∀ f H2, Es H H2 → SrcAt H2 a → TabsN (tbs K) H2 → HandOk P w K mg base H2 f G AnyG → Q (.ref f) H2
theorem sc__law_opponent : FnScope ["_law_source_here", "_law_ground", "_law_told_move", "_law_names_here", "_law_seed"] ["_law_source_here", "_law_ground"] (defScope s__law_opponent) := ⟨rfl, rfl, rfl, by decide +kernel, rfl, by decide +kernel, by decide +kernel⟩
theorem D__law_opponent (T : Tx K mg) (TB : TBs K mg base) : Def P w K mg base 2 (He.ga K "_law_opponent") ["_law_source_here", "_law_ground"] (sp_opponent P w K mg base) := by
  refine Def.makeR T (d := d__law_opponent) 60 rfl rfl rfl sc__law_opponent (fun _ _ _ _ _ _ us hl => match us, hl with | [_, _], _ => rfl) (fun vs H Q E h => ?_) (fun oc od dV kV doc pm an cdv ct osl lk hcd A outer s H vs Q E hr h => ?_)
  · obtain ⟨a, g, G, rfl, _⟩ := h
    rfl
  · obtain ⟨a, g, G, rfl, hS, hG, gok, hT, k⟩ := h
    have nd := sc__law_opponent.nd
    obtain ⟨c, rfl⟩ := He.codeIn_ref hcd
    have hc : He.codeOf K ("_law_opponent", none) = c := He.codeOf_eq lk rfl
    have tb := TB.o
    have hcc : (cTo K).1 = c := hc
    rw [hcc] at tb
    refine ⟨_, psr_cons (ps_set (i := 4) nd rfl (Or.inr rfl) (pe_callX (D__law_take T) (hr.mono (by decide)) rfl T.g__law_take (pa_cons (pv 0) (pa_cons pe_int pa_nil))))
      (psr_cons (ps_set (i := 3) nd rfl (Or.inr rfl) (pe_methX0 (D_Ground_names T) (hr.mono (by decide)) T.c_Ground T.m_Ground_names (pv 1)))
      (psr_cons (ps_ndefMS (st := n_opp) (T := tbs K) (nm := nmF) (i := 2) rfl tb rfl (List.mem_cons_of_mem _ (List.mem_cons_self ..)) nm_o (fun p hp _ => ?_) (ndef_free nb_o) rfl rfl rfl nd rfl (Or.inl rfl) (Or.inl rfl)) (psr_ret (pv 2)))), ?_⟩
    · rcases List.mem_cons.mp hp with q | q
      · rw [q]
      · rw [List.mem_singleton.mp q]
    · walk_at "go"
      refine ⟨a, 1000003, rfl, by decide, by decide, hS, fun sd H1 hsd e1 b1 hS1 => ?_⟩
      walk_at "go"
      have hG1 := hG.uw gok e1.ew
      obtain ⟨dx, _, _, hg1, _⟩ := id hG1
      refine ⟨g, dx, _, rfl, hg1, rfl, ?_⟩
      walk_at "go"
      refine ⟨g, G, rfl, hG1, fun nl H2 hn2 e2 hN2 => ?_⟩
      walk_at "go"
      refine ⟨(tabsN_et hT e1).ext e2, fun f c' H3 eN nn hT3 hf f3 c3 => ?_⟩
      refine ⟨.ref f, rfl, fun ok => ?_⟩
      refine ⟨[("_law_ground", .ref g), ("_law_names_here", .ref nl), ("_law_seed", nV sd)], ⟨⟨1, rfl, rfl, rfl⟩, ⟨3, rfl, rfl, rfl⟩, ⟨4, rfl, rfl, rfl⟩, trivial⟩, (by show (["_law_ground", "_law_names_here", "_law_seed"] : List Str).Nodup; decide +kernel), fun H4 e4 told => ?_⟩
      have caps := Caps.made (fr := ["_law_ground", "_law_names_here", "_law_seed"]) (js := [1, 3, 4]) ok (scope := C8.fnScope n_opp) (ndef_free nb_o) (ndef_fr nb_o) rfl
      obtain ⟨⟨a1, ha1, ha2⟩, ⟨b1', hb1, hb2⟩, ⟨c1, hc1, hc2⟩, _⟩ := told
      have eS : Es H H4 := ((Es.ofT e1).trans (Es.of e2)).trans ((Es.ofN eN).trans (Es.of e4))
      have eS2 : Es H2 H4 := (Es.ofN eN).trans (Es.of e4)
      refine k f H4 eS (((hS1.up e2).es eN).up e4) (hT3.ext e4) ⟨_, ["_law_ground", "_law_names_here", "_law_seed"], [.ref g, .ref nl, nV sd], ["_law_heap_here"], sp_opp K, ⟨e4 _ _ f3, e4 _ _ c3, rfl, fun i y hi => ?_, fun y b hb => ?_, fun x y b h1 h2 => ok.inj x y b (caps.sub _ _ h1) (caps.sub _ _ h2)⟩, nok_opp T f c' _ _, fun H5 h hs Q' eW hL hO hne q => ?_⟩
      · match i, hi with
        | 0, hi =>
          have hy : ("_law_ground" : Str) = y := Option.some.inj hi
          subst hy
          exact ⟨a1, _, caps.sup _ (List.mem_of_getElem? hi) a1 ha1, rfl, ha2⟩
        | 1, hi =>
          have hy : ("_law_names_here" : Str) = y := Option.some.inj hi
          subst hy
          exact ⟨b1', _, caps.sup _ (List.mem_of_getElem? hi) b1' hb1, rfl, hb2⟩
        | 2, hi =>
          have hy : ("_law_seed" : Str) = y := Option.some.inj hi
          subst hy
          exact ⟨c1, _, caps.sup _ (List.mem_of_getElem? hi) c1 hc1, rfl, hc2⟩
        | n + 3, hi => simp at hi
      · exact sc__law_told_move.free _ (cl_only hb) rfl
      · have hN5 : LAt H5 nl G.ns := eW _ _ (eS2 _ _ hN2 (fun ps z => by cases z) fun _ _ _ z => by cases z) trivial
        exact ⟨g, nl, h, sd, G, hs, rfl, rfl, hG.uw gok ((Ew.ofS eS).trans eW), hN5, hL, gok, hO, hne, fun t H6 m e6 hm hmm => q t H6 m e6 hm hmm trivial⟩
end
end K96

set_option Elab.async false
set_option linter.all false
set_option maxRecDepth 100000
set_option maxHeartbeats 4000000
/-! K96V: what plays come to; the law's looks at them. -/
namespace K96
open PySem PySem.Spec PyProof.Rows L2 LamX NdefX
open Evl (Ex)
open K96M (Gr)
local macro_rules | `(tactic| walk_at "go") => `(tactic| repeat (first
  | with_reducible refine w_seq ?_
  | with_reducible refine w_asg ?_
  | with_reducible refine w_name ?_
  | with_reducible refine w_var rfl ?_
  | with_reducible refine w_c ?_
  | with_reducible refine w_op ?_
  | with_reducible refine w_I0 ?_
  | with_reducible refine w_drop ?_
  | with_reducible refine w_ret ?_
  | with_reducible refine w_if ?_
  | with_reducible refine w_next ?_
  | with_reducible refine w_test ?_
  | with_reducible refine w_B ?_
  | with_reducible refine w_bl ?_
  | with_reducible refine w_not ?_
  | with_reducible refine w_and ?_
  | with_reducible refine w_or ?_
  | with_reducible refine w_andV ?_
  | with_reducible refine w_orV ?_
  | with_reducible refine w_notV ?_
  | with_reducible refine w_cons ?_
  | with_reducible refine w_nil ?_
  | with_reducible refine w_cb ?_
  | with_reducible refine w_call ?_
  | with_reducible refine w_isN ?_
  | with_reducible refine w_notN ?_
  | with_reducible refine w_chain ?_
  | with_reducible refine w_sl ?_
  | with_reducible refine w_nopart ?_
  | with_reducible refine w_tupT ?_
  | with_reducible refine w_lstT ?_
  | with_reducible refine w_eq rfl ?_
  | with_reducible refine w_ne rfl ?_
  | with_reducible refine w_for ?_
  | with_reducible refine w_iL ?_
  | with_reducible refine w_iT ?_
  | with_reducible refine w_iR1 ?_
  | with_reducible refine w_iR2 ?_
  | with_reducible refine w_iE ?_
  | with_reducible refine w_iS ?_
  | with_reducible refine w_lc ?_
  | with_reducible refine w_nm ?_
  | with_reducible refine w_din ?_
  | with_reducible refine w_dnotin ?_
  | with_reducible refine w_dput ?_
  | with_reducible refine w_dget1 ?_
  | with_reducible refine w_dget2 ?_
  | with_reducible refine w_bm ?_
  | with_reducible refine w_bm0 ?_
  | with_reducible refine w_sfld ?_
  | with_reducible refine w_make ?_
  | with_reducible refine w_part ?_
  | with_reducible refine w_aug rfl ?_
  | with_reducible refine w_ip ?_
  | with_reducible refine w_yes ?_
  | with_reducible refine w_gcs ?_
  | with_reducible refine w_gnil ?_
  | with_reducible refine w_dget ?_
  | with_reducible refine w_fld ?_
  | with_reducible refine w_meth ?_))
local macro_rules | `(tactic| walk_at "ex") => `(tactic| repeat (first | assumption | exact Ex.refl _ | refine Ex.trans ?_ (by assumption)))
/-! ### the plain law of plays -/
theorem drawn_moves {G : G0} (gok : GOk G) {hs : List Str} (hO : HOk' G hs) (h : ocF G hs = "drawn") : movesF G hs ≠ [] := by
  have key : ∀ x, x ∈ ends G hs → movesF G hs ≠ [] := fun x hx => by
    obtain ⟨h1, h2⟩ := ends_in hx
    obtain ⟨o, ho, _⟩ := endless_road gok (hO.ins x h1) h2
    obtain ⟨i, hi⟩ := List.mem_iff_getElem?.mp h1
    exact List.ne_nil_of_mem (mem_movesF (m := (i, o)).mpr ⟨x, hi, ho⟩)
  rcases (is_drawn gok).mp h with ⟨x, q, _⟩ | ⟨x, y, r, q⟩
  · exact key x (by rw [q]; exact List.mem_cons_self ..)
  · exact key x (by rw [q]; exact List.mem_cons_self ..)
theorem won_moves {G : G0} (gok : GOk G) {hs : List Str} (hO : HOk' G hs) (h : ocF G hs = "won") : movesF G hs ≠ [] := by
  obtain ⟨m, hm⟩ := won_has gok hO.ins h
  exact List.ne_nil_of_mem (mem_mlF.mp hm).1
mutual
theorem play_won {G : G0} (gok : GOk G) : ∀ {ms : List Mv} {B : List Str → Mv → Prop} {hs : List Str}, HOk' G hs → ocF G hs = "won" → Plays G (PGood G) B hs ms → (movesF G (runF hs ms) = [] ∨ ∃ m0 ∈ mlF G hs, 1 + 2 * stepsF G (hs.set m0.1 m0.2) ≤ ms.length) → movesF G (runF hs ms) = [] ∧ ms.length % 2 = 1
  | [], _, hs, hO, ho, _, h => by
    rcases h with h | ⟨m0, _, h⟩
    · exact absurd h (won_moves gok hO ho)
    · simp at h
  | m :: r, B, hs, hO, ho, ⟨p1, p2, p3⟩, h => by
    obtain ⟨w1, w2⟩ := p2.won ho
    have hl := (mem_mlF.mp w1).2
    obtain ⟨a1, a2⟩ := play_lost (ms := r) (B := B) (hs := hs.set m.1 m.2) gok (hset gok hO p1) hl p3 (by
      rcases h with h | ⟨m0, hm0, h⟩
      · exact .inl h
      · refine .inr ?_
        have := w2 m0 hm0
        rw [List.length_cons] at h
        omega)
    exact ⟨a1, by rw [List.length_cons]; omega⟩
theorem play_lost {G : G0} (gok : GOk G) : ∀ {ms : List Mv} {B : List Str → Mv → Prop} {hs : List Str}, HOk' G hs → ocF G hs = "lost" → Plays G B (PGood G) hs ms → (movesF G (runF hs ms) = [] ∨ 2 * stepsF G hs ≤ ms.length) → movesF G (runF hs ms) = [] ∧ ms.length % 2 = 0
  | [], _, hs, hO, ho, _, h => by
    refine ⟨?_, rfl⟩
    rcases h with h | h
    · exact h
    · show movesF G hs = []
      cases q : movesF G hs with
      | nil => rfl
      | cons m r =>
        obtain ⟨_, m', _, hlt⟩ := lost_move gok hO.ins ho (m := m) (by rw [q]; exact List.mem_cons_self ..)
        simp at h
        omega
  | m :: r, B, hs, hO, ho, ⟨p1, p2, p3⟩, h => by
    obtain ⟨w1, m', hm', hlt⟩ := lost_move gok hO.ins ho p1
    obtain ⟨a1, a2⟩ := play_won (ms := r) (B := B) (hs := hs.set m.1 m.2) gok (hset gok hO p1) w1 p3 (by
      rcases h with h | h
      · exact .inl h
      · refine .inr ⟨m', hm', ?_⟩
        rw [List.length_cons] at h
        omega)
    exact ⟨a1, by rw [List.length_cons]; omega⟩
end
mutual
theorem play_n {G : G0} (gok : GOk G) : ∀ {ms : List Mv} {B : List Str → Mv → Prop} {hs : List Str}, HOk' G hs → ocF G hs ≠ "lost" → Plays G (PGood G) B hs ms → movesF G (runF hs ms) = [] → ms.length % 2 = 1
  | [], _, hs, hO, ho, _, h => by
    exfalso
    rcases three gok hs with q | q | q
    · exact ho q
    · exact won_moves gok hO q h
    · exact drawn_moves gok hO q h
  | m :: r, B, hs, hO, ho, ⟨p1, p2, p3⟩, h => by
    have hn : ocF G (hs.set m.1 m.2) ≠ "won" := by
      rcases three gok hs with q | q | q
      · exact absurd q ho
      · rw [(mem_mlF.mp (p2.won q).1).2]
        exact s_lw
      · rw [p2.drawn q]
        exact fun z => s_wd z.symm
    have := play_m (ms := r) (B := B) (hs := hs.set m.1 m.2) gok (hset gok hO p1) hn p3 h
    rw [List.length_cons]
    omega
theorem play_m {G : G0} (gok : GOk G) : ∀ {ms : List Mv} {B : List Str → Mv → Prop} {hs : List Str}, HOk' G hs → ocF G hs ≠ "won" → Plays G B (PGood G) hs ms → movesF G (runF hs ms) = [] → ms.length % 2 = 0
  | [], _, hs, hO, ho, _, h => rfl
  | m :: r, B, hs, hO, ho, ⟨p1, p2, p3⟩, h => by
    have hn : ocF G (hs.set m.1 m.2) ≠ "lost" := by
      rcases three gok hs with q | q | q
      · rw [(lost_move gok hO.ins q p1).1]
        exact fun z => s_lw z.symm
      · exact absurd q ho
      · exact drawn_not gok q p1
    have := play_n (ms := r) (B := B) (hs := hs.set m.1 m.2) gok (hset gok hO p1) hn p3 h
    rw [List.length_cons]
    omega
end
theorem play_both {G : G0} (gok : GOk G) : ∀ {ms : List Mv} {hs : List Str}, HOk' G hs → ocF G hs = "drawn" → Plays G (PGood G) (PGood G) hs ms → movesF G (runF hs ms) ≠ []
  | [], hs, hO, ho, _ => drawn_moves gok hO ho
  | m :: r, hs, hO, ho, ⟨p1, p2, p3⟩ => play_both (ms := r) (hs := hs.set m.1 m.2) gok (hset gok hO p1) (p2.drawn ho) p3
theorem s_so : ("second" : Str) ≠ "open" := by decide +kernel
theorem s_fo : ("first" : Str) ≠ "open" := by decide +kernel
theorem s_fs : ("first" : Str) ≠ "second" := by decide +kernel
theorem end_over {G : G0} {hs : List Str} {n : Nat} (h : movesF G hs = []) : endT G hs n = (if n % 2 = 0 then ("second" : Str) else ("first" : Str)) := by
  unfold endT
  rw [h]
  rfl
theorem end_open {G : G0} {hs : List Str} {n : Nat} (h : movesF G hs ≠ []) : endT G hs n = "open" := by
  unfold endT
  cases q : movesF G hs with
  | nil => exact absurd q h
  | cons a r => rfl
theorem end_first {G : G0} {hs : List Str} {n : Nat} (h : movesF G hs = []) (o : n % 2 = 1) : endT G hs n = "first" := by rw [end_over h, if_neg (by omega)]
theorem end_second {G : G0} {hs : List Str} {n : Nat} (h : movesF G hs = []) (o : n % 2 = 0) : endT G hs n = "second" := by rw [end_over h, if_pos o]
theorem dec_str {a b : Str} : decide (V.str a = V.str b) = decide (a = b) := by
  by_cases z : a = b
  · rw [decide_eq_true z, decide_eq_true (congrArg V.str z)]
  · rw [decide_eq_false z]
    exact decide_eq_false fun q => z (V.str.inj q)
/-! ### a play told -/
/-- a play at t -/
def PlayAt (H : Hp) (t : Addr) (G : G0) (hs : List Str) (ms : List Mv) : Prop := ∃ l, H t = some (.tup [.ref l, .str (endT G (runF hs ms) ms.length)]) ∧ MsAt H l ms
theorem PlayAt.up {H H' : Hp} {t : Addr} {G : G0} {hs : List Str} {ms : List Mv} (h : PlayAt H t G hs ms) (e : Ex H H') : PlayAt H' t G hs ms := by
  obtain ⟨l, h1, h2⟩ := h
  exact ⟨l, e _ _ h1, h2.up e⟩
def hD (hs : List Str) : PyData := .list (hs.map .str)
theorem dp_h {K : PySem.W.Frag} {H : Hp} {a : Addr} {hs : List Str} (h : LAt H a hs) : Dp K H (.ref a) (hD hs) := .lst (SqL.of h) (dpAll_map fun x _ => .str x)
theorem lay_h {G : G0} (tx : Txt G) {hs : List Str} (hO : HOk' G hs) : ∀ d ∈ hs.map PyData.str, d.canLay0 = true := fun d hd => by
  obtain ⟨x, hx, rfl⟩ := List.mem_map.mp hd
  exact tx x (hO.ins x hx)
theorem shaped_h {G : G0} (tx : Txt G) {hs : List Str} (hO : HOk' G hs) : SeqAt.shaped (hD hs) = true := shaped_list (lay_h tx hO) fun d hd => by
  obtain ⟨x, hx, rfl⟩ := List.mem_map.mp hd
  exact Nat.zero_le _
theorem eqv_h {G : G0} (tx : Txt G) {hs : List Str} (hO : HOk' G hs) : PyData.eqv (hD hs) (hD hs) = true := SeqAt.eqv_refl _ (by
  show PyData.canLayAll0 _ = true
  exact lay_all (lay_h tx hO))
section
variable {P : Program} {w : World} {K : PySem.W.Frag} {mg : Str → Option Value} {base : Heap}
def sp_walked (K : PySem.W.Frag) : Sp := fun vs H Q _ => ∃ (g h t : Addr) (G : G0) (hs : List Str) (ms : List Mv), vs = [.ref g, .ref h, .ref t] ∧ GAt K H g G ∧ LAt H h hs ∧ PlayAt H t G hs ms ∧ GOk G ∧ Txt G ∧ HOk' G hs ∧ Legal G hs ms ∧ HOk' G (runF hs ms) ∧ ms.length ≤ 1000 ∧
  ∀ H2, Ex H H2 → Q (.bl true) H2
theorem sc__law_walked : FnScope ["_law_ground", "_law_heap_here", "_law_told", "_law_moves", "_law_ending", "_law_heaps", "_law_k", "_law_move", "_law_due"] ["_law_ground", "_law_heap_here", "_law_told"] (defScope s__law_walked) := ⟨rfl, rfl, rfl, by decide +kernel, rfl, by decide +kernel, by decide +kernel⟩
theorem D__law_walked (T : Tx K mg) : Def P w K mg base 5 (He.ga K "_law_walked") ["_law_ground", "_law_heap_here", "_law_told"] (sp_walked K) := by
  refine Def.make T (d := d__law_walked) 61 rfl rfl rfl sc__law_walked (fun _ _ _ _ _ _ us hl => match us, hl with | [_, _, _], _ => rfl) (fun vs H Q E h => ?_) (fun cdv A outer s H vs Q E hr h => ?_)
  · obtain ⟨g, h, t, G, hs, ms, rfl, _⟩ := h
    rfl
  · obtain ⟨g, h, t, G, hs, ms, rfl, hG, hL, ⟨l, hl, hM⟩, gok, tx, hO, hlg, hOf, hle, k⟩ := h
    have nd := sc__law_walked.nd
    refine ⟨_, (pss_cons (ps_asg (pv 2) (pg_tup rfl (pgs_cons (pg_name (i := 3) nd rfl (Or.inl rfl)) (pgs_cons (pg_name (i := 4) nd rfl (Or.inl rfl)) pgs_nil))))
    (pss_cons (ps_set (i := 5) nd rfl (Or.inl rfl) (pe_callX (D_walk T) (hr.mono (by decide)) rfl T.g_walk (pa_cons (pv 0) (pa_cons (pv 1) (pa_cons (pv 3) pa_nil)))))
    (pss_cons (ps_if (PW.pt (pw_or (pt_cmpR op_ne (pe_callB call_len_seq (by rfl) T.f_len (by decide +kernel) (pa_cons (pv 5) pa_nil)) (pe_op op_add (pe_callB call_len_seq (by rfl) T.f_len (by decide +kernel) (pa_cons (pv 3) pa_nil)) pe_int) (nomark _)) (pw_or1 (pt_cmpR (op_neD hr.units) (pe_ix ix_list (pv 5) pe_int (fun _ _ => rfl)) (pv 1) (nomark _))))) (pss_one (ps_ret pe_bl)) pss_nil)
    (pss_cons (ps_for PassesOwn.never rfl (pi_enum (by rfl) T.f_enumerate (pa_cons (pv 3) pa_nil)) (pg_tup rfl (pgs_cons (pg_name (i := 6) nd rfl (Or.inl rfl)) (pgs_cons (pg_name (i := 7) nd rfl (Or.inl rfl)) pgs_nil)))
    (pss_cons (ps_set (i := 8) nd rfl (Or.inl rfl) (PE.nm (pe_callTy call_list_of (by rfl) T.f_list (by decide +kernel) (pa_cons (pe_ix ix_list (pv 5) (pv 6) (fun _ _ => rfl)) pa_nil))))
    (pss_cons (ps_asg (pe_ix ix_tup (pv 7) pe_int (fun _ _ => rfl)) (pg_sub (pv 8) (pe_ix ix_tup (pv 7) pe_int (fun _ _ => rfl)) set_list))
    (pss_one (ps_if (PW.pt (pw_or (pt_cmpR (op_notInD (Room.units1 hr)) (pv 7) (pe_callX (D_moves_of T) (hr.mono (by decide)) rfl T.g_moves_of (pa_cons (pv 0) (pa_cons (pe_ix ix_list (pv 5) (pv 6) (fun _ _ => rfl)) pa_nil))) rfl) (pw_or1 (pt_cmpR (op_neD hr.units) (pe_ix ix_list (pv 5) (pe_op op_add (pv 6) pe_int) (fun _ _ => rfl)) (pv 8) (nomark _))))) (pss_one (ps_ret pe_bl)) pss_nil)))))
    (pss_cons (ps_if (pt_val (pe_callX (D_is_over T) (hr.mono (by decide)) rfl T.g_is_over (pa_cons (pv 0) (pa_cons (pe_ix ix_list (pv 5) (pe_un un_neg pe_int) (fun _ _ => rfl)) pa_nil)))) (pss_one (ps_ret (pe_cmpR op_eq (pv 4) (pe_ix ix_list (PE.nm (pe_lst (pa_cons pe_str (pa_cons pe_str pa_nil)))) (pe_op op_mod (pe_callB call_len_seq (by rfl) T.f_len (by decide +kernel) (pa_cons (pv 3) pa_nil)) pe_int) (fun _ _ => rfl)) (nomark _)))) pss_nil)
    (pss_one (ps_ret (pe_cmpR op_eq (pv 4) pe_str (nomark _))))))))), ?_⟩
    walk_at "go"
    refine w_gtup ⟨t, _, rfl, SqT.of hl, rfl, ?_⟩
    walk_at "go"
    refine ⟨g, h, l, G, hs, ms, rfl, hG, hL, hM, gok, hO, hlg, hle, fun p H1 ls e1 hp hps => ?_⟩
    walk_at "go"
    obtain ⟨ts, hts, hpair⟩ := hM.up e1
    have htl := Paired.length hpair
    have hll : ls.length = ms.length + 1 := by
      have q := Paired.length hps
      unfold heapsF at q
      rw [List.length_map, List.length_range] at q
      exact q
    have heap_at : ∀ i, i ≤ ms.length → ∃ b, (ls.map V.ref)[i]? = some (.ref b) ∧ LAt H1 b (runF hs (ms.take i)) := fun i hi => by
      have hb : ls[i]? = some (ls[i]'(by omega)) := List.getElem?_eq_getElem (by omega)
      obtain ⟨x, hx, hbx, _⟩ := Paired.at_ hps hb
      unfold heapsF at hx
      rw [List.getElem?_map, List.getElem?_range (by omega)] at hx
      obtain rfl := Option.some.inj hx
      exact ⟨_, by rw [List.getElem?_map, hb]; rfl, hbx⟩
    have hOi : ∀ i, i ≤ ms.length → HOk' G (runF hs (ms.take i)) := fun i hi => by
      rcases Nat.lt_or_eq_of_le hi with q | q
      · exact (hlg i ms[i] (List.getElem?_eq_getElem q)).1
      · rw [q, List.take_length]
        exact hOf
    refine ⟨p, _, rfl, .inl (SqL.of hp), ?_⟩
    walk_at "go"
    refine ⟨l, _, rfl, .inl (SqL.of hts), ?_⟩
    walk_at "go"
    refine brF ?_ ?_
    · rw [List.length_map, List.length_map, hll, htl]
      rw [decide_eq_true (by rfl)]
      rfl
    obtain ⟨b0, hb0, hbL⟩ := heap_at 0 (Nat.zero_le _)
    rw [List.take_zero] at hbL
    have hbL : LAt H1 b0 hs := hbL
    walk_at "go"
    refine w_ixL (SqL.of hp) (v := .ref b0) (atI_nat (j := 0) hb0) ?_
    walk_at "go"
    refine ⟨_, _, dp_h hbL, dp_h (e1 _ _ hL), shaped_h tx hO, shaped_h tx hO, ?_⟩
    rw [eqv_h tx hO]
    refine ⟨_, rfl, brF rfl ?_⟩
    walk_at "go"
    refine ⟨l, _, rfl, SqL.of hts, for_it (walk_enum (K := K) (a := l) (xs := ts.map V.ref)) (fun i σ H3 => Ex H1 H3 ∧ ∃ v1 v2 v3, σ = [some (.ref g), some (.ref h), some (.ref t), some (.ref l), some (.str (endT G (runF hs ms) ms.length)), some (.ref p), v1, v2, v3]) ⟨Ex.refl _, none, none, none, rfl⟩ (fun i σ H3 _ ⟨e, _⟩ => SqL.of (e _ _ hts)) ?_ ?_⟩
    · rintro i v σ H3 H3' hi ⟨e3, v1, v2, v3, rfl⟩ ⟨T', x, y, rfl, hT', rfl, h1, h2⟩
      obtain rfl : V.int (i : Nat) = x := Option.some.inj h1
      obtain ⟨u, hu1, rfl⟩ := map_at h2
      have eT : Ex H3 (upd H3 T' (.tup [.int (i : Nat), .ref u])) := Ex.new hT'
      generalize hH4 : upd H3 T' (.tup [.int (i : Nat), .ref u]) = H4 at eT
      have hT4 : H4 T' = some (.tup [nV i, .ref u]) := by rw [← hH4]; exact upd_same
      have e4 := e3.trans eT
      refine w_gtup ⟨T', _, rfl, SqT.of hT4, rfl, ?_⟩
      walk_at "go"
      obtain ⟨m, hm, hmt⟩ := Paired.at_ hpair hu1
      obtain ⟨hOk, hmm⟩ := hlg i m hm
      have hin := lt_of_at hm
      have a0 : atI [nV m.1, sV m.2] 0 = some (nV m.1) := rfl
      have a1 : atI [nV m.1, sV m.2] 1 = some (sV m.2) := rfl
      obtain ⟨b, hb, hbx⟩ := heap_at i (by omega)
      obtain ⟨b', hb', hbx'⟩ := heap_at (i + 1) (by omega)
      refine w_ixL (SqL.of (e4 _ _ hp)) (v := .ref b) (atI_nat hb) ?_
      walk_at "go"
      refine ⟨b, _, rfl, .inl (SqL.of (e4 _ _ hbx)), w_new fun d H5 hd e5 hd5 => ?_⟩
      walk_at "go"
      have e15 := e4.trans e5
      have hmt5 : MAt H5 u m := e15 _ _ hmt
      refine w_ixT (SqT.of hmt5) a1 ?_
      obtain ⟨z, hz, _⟩ := mem_movesF.mp hmm
      have hlt := lt_of_at hz
      refine ⟨.ref d, rfl, ?_⟩
      walk_at "go"
      refine w_ixT (SqT.of hmt5) a0 ?_
      refine ⟨d, _, _, m.1, rfl, rfl, hd5, ?_, ?_⟩
      · rw [List.length_map]
        unfold ixN
        rw [if_pos (by omega), if_pos (by omega)]
        rfl
      have hdn : H1 d = none := Evl.fresh_back e4 hd
      have e16 : Ex H1 (upd H5 d (.lst (((runF hs (ms.take i)).map sV).set m.1 (sV m.2)))) := Ex.mut e15 hdn
      have hd6 : (upd H5 d (.lst (((runF hs (ms.take i)).map sV).set m.1 (sV m.2)))) d = some (.lst ((runF hs (ms.take (i + 1))).map sV)) := by
        rw [upd_same, tk hm, runF_snoc, List.map_set]
      generalize upd H5 d (.lst (((runF hs (ms.take i)).map sV).set m.1 (sV m.2))) = H6 at e16 hd6
      walk_at "go"
      refine w_ixL (SqL.of (e16 _ _ hp)) (v := .ref b) (atI_nat hb) ?_
      walk_at "go"
      refine ⟨g, b, G, _, rfl, hG.up (e1.trans e16), e16 _ _ hbx, gok, hOk, fun q H7 hq e7 hM7 => ?_⟩
      have e17 := e16.trans e7
      have hmt7 : MAt H7 u m := e17 _ _ hmt
      have hmc := moves_txt gok tx hOk
      refine ⟨_, _, dp_m hmt7, dp_ms hM7, ?_, shaped_ms hmc, ?_⟩
      · refine shaped_tup (fun d hd => ?_) fun d hd => ?_
        · rcases List.mem_cons.mp hd with q | q
          · rw [q]; rfl
          · rw [List.mem_singleton.mp q]; exact hmc m hmm
        · rcases List.mem_cons.mp hd with q | q
          · rw [q]; exact Nat.zero_le _
          · rw [List.mem_singleton.mp q]; exact Nat.zero_le _
      have hany : ((movesF G (runF hs (ms.take i))).map mD).any (fun z => PyData.eqv z (mD m)) = true := List.any_eq_true.mpr ⟨mD m, List.mem_map.mpr ⟨m, hmm, rfl⟩, SeqAt.eqv_refl _ (lay_m (hmc m hmm))⟩
      rw [hany]
      refine ⟨_, rfl, brF rfl ?_⟩
      walk_at "go"
      refine w_ixL (SqL.of (e17 _ _ hp)) (v := .ref b') (atI_nat (j := i + 1) hb') ?_
      walk_at "go"
      refine ⟨_, _, dp_h (e17 _ _ hbx'), dp_h (e7 _ _ hd6), shaped_h tx (hOi _ (by omega)), shaped_h tx (hOi _ (by omega)), ?_⟩
      rw [eqv_h tx (hOi _ (by omega))]
      refine ⟨_, rfl, brF rfl ?_⟩
      walk_at "go"
      exact ⟨e17, _, _, _, rfl⟩
    · rintro σ H3 ⟨e3, v1, v2, v3, rfl⟩
      walk_at "go"
      obtain ⟨b, hb, hbx⟩ := heap_at ms.length (Nat.le_refl _)
      rw [List.take_length] at hbx
      refine ⟨_, rfl, ?_⟩
      have els : ls.map V.ref = (ls.take ms.length).map V.ref ++ [.ref b] := by
        have q := tk hb
        rw [List.take_of_length_le (by rw [List.length_map]; omega), ← List.map_take] at q
        exact q
      refine w_ixL (SqL.of (e3 _ _ hp)) (v := .ref b) (by rw [els]; exact atI_last _ _) ?_
      walk_at "go"
      refine ⟨g, b, G, _, rfl, hG.up (e1.trans e3), e3 _ _ hbx, gok, tx, hOf, fun H4 e4 => ?_⟩
      have e14 := (e1.trans e3).trans e4
      walk_at "go"
      by_cases ov : movesF G (runF hs ms) = []
      · rw [ov]
        refine brT rfl ?_
        walk_at "go"
        refine ⟨szs (show 2 ≤ 100000 by decide), w_new fun q H5 hq e5 h5 => ?_⟩
        walk_at "go"
        refine ⟨l, _, rfl, .inl (SqL.of (((e3.trans e4).trans e5) _ _ hts)), ?_⟩
        walk_at "go"
        refine ⟨_, _, rfl, rfl, (show (0 : Int) < 2 by decide), ?_⟩
        rw [List.length_map, htl]
        refine fs_at (n := ms.length) h5 ?_
        walk_at "go"
        rw [end_over ov, decide_eq_true rfl]
        exact k _ (e14.trans e5)
      · refine brF ?_ ?_
        · cases q : movesF G (runF hs ms) with
          | nil => exact absurd q ov
          | cons a r => rfl
        walk_at "go"
        rw [end_open ov, decide_eq_true rfl]
        exact k _ e14
end
end K96

set_option Elab.async false
set_option linter.all false
set_option maxRecDepth 100000
set_option maxHeartbeats 4000000
/-! K96W: the law's looks at a heap. -/
namespace K96
open PySem PySem.Spec PyProof.Rows L2 LamX NdefX
open Evl (Ex)
open K96M (Gr)
local macro_rules | `(tactic| walk_at "go") => `(tactic| repeat (first
  | with_reducible refine w_seq ?_
  | with_reducible refine w_asg ?_
  | with_reducible refine w_name ?_
  | with_reducible refine w_var rfl ?_
  | with_reducible refine w_c ?_
  | with_reducible refine w_op ?_
  | with_reducible refine w_I0 ?_
  | with_reducible refine w_drop ?_
  | with_reducible refine w_ret ?_
  | with_reducible refine w_if ?_
  | with_reducible refine w_next ?_
  | with_reducible refine w_test ?_
  | with_reducible refine w_B ?_
  | with_reducible refine w_bl ?_
  | with_reducible refine w_not ?_
  | with_reducible refine w_and ?_
  | with_reducible refine w_or ?_
  | with_reducible refine w_andV ?_
  | with_reducible refine w_orV ?_
  | with_reducible refine w_notV ?_
  | with_reducible refine w_cons ?_
  | with_reducible refine w_nil ?_
  | with_reducible refine w_cb ?_
  | with_reducible refine w_call ?_
  | with_reducible refine w_isN ?_
  | with_reducible refine w_notN ?_
  | with_reducible refine w_chain ?_
  | with_reducible refine w_sl ?_
  | with_reducible refine w_nopart ?_
  | with_reducible refine w_tupT ?_
  | with_reducible refine w_lstT ?_
  | with_reducible refine w_eq rfl ?_
  | with_reducible refine w_ne rfl ?_
  | with_reducible refine w_for ?_
  | with_reducible refine w_iL ?_
  | with_reducible refine w_iT ?_
  | with_reducible refine w_iR1 ?_
  | with_reducible refine w_iR2 ?_
  | with_reducible refine w_iE ?_
  | with_reducible refine w_iS ?_
  | with_reducible refine w_lc ?_
  | with_reducible refine w_nm ?_
  | with_reducible refine w_din ?_
  | with_reducible refine w_dnotin ?_
  | with_reducible refine w_dput ?_
  | with_reducible refine w_dget1 ?_
  | with_reducible refine w_dget2 ?_
  | with_reducible refine w_bm ?_
  | with_reducible refine w_bm0 ?_
  | with_reducible refine w_sfld ?_
  | with_reducible refine w_make ?_
  | with_reducible refine w_part ?_
  | with_reducible refine w_aug rfl ?_
  | with_reducible refine w_ip ?_
  | with_reducible refine w_yes ?_
  | with_reducible refine w_gcs ?_
  | with_reducible refine w_gnil ?_
  | with_reducible refine w_dget ?_
  | with_reducible refine w_fld ?_
  | with_reducible refine w_meth ?_))
local macro_rules | `(tactic| walk_at "ex") => `(tactic| repeat (first | assumption | exact Ex.refl _ | refine Ex.trans ?_ (by assumption)))
theorem fs_b {K : PySem.W.Frag} {H : Hp} {q : Addr} {b : Bool} {Q : VK} (hq : H q = some (.lst [.str "second", .str "first"])) (k : Q (.str (if b = true then "first" else "second")) H) : rIxL K (.ref q) (.int (if b = true then 1 else 0)) H Q := by
  cases b with
  | true => exact w_ixL (SqL.of hq) (atI_nat (j := 1) rfl) k
  | false => exact w_ixL (SqL.of hq) (atI_nat (j := 0) rfl) k
section
variable {P : Program} {w : World} {K : PySem.W.Frag} {mg : Str → Option Value} {base : Heap}
theorem lat_ew {H H' : Hp} {h : Addr} {hs : List Str} (e : Ew H H') (hL : LAt H h hs) : LAt H' h hs := e _ _ hL trivial
def sp_right (K : PySem.W.Frag) : Sp := fun vs H Q _ => ∃ (a g h : Addr) (G : G0) (hs : List Str), vs = [.ref a, .ref g, .ref h] ∧ SrcAt H a ∧ GAt K H g G ∧ LAt H h hs ∧ GOk G ∧ Txt G ∧ HOk' G hs ∧ TabsN (tbs K) H ∧
  ∀ H2, Es H H2 → TabsN (tbs K) H2 → Q (.bl true) H2
def sp_drawn_right (K : PySem.W.Frag) : Sp := fun vs H Q _ => ∃ (a g h : Addr) (G : G0) (hs : List Str), vs = [.ref a, .ref g, .ref h] ∧ SrcAt H a ∧ GAt K H g G ∧ LAt H h hs ∧ GOk G ∧ Txt G ∧ HOk' G hs ∧ TabsN (tbs K) H ∧ ocF G hs = "drawn" ∧
  ∀ H2, Es H H2 → TabsN (tbs K) H2 → Q (.bl true) H2
/-- a play is walked -/
theorem walked_of {G : G0} {hs : List Str} {ms : List Mv} {A B : List Str → Mv → Prop} {H : Hp} {g h t c : Nat} (gok : GOk G) (tx : Txt G) (hO : HOk' G hs) (hp : Plays G A B hs ms) : Legal G hs ms ∧ HOk' G (runF hs ms) := ⟨hp.legal gok hO, hp.ok gok hO⟩
theorem sc__law_drawn_right : FnScope ["_law_source_here", "_law_ground", "_law_heap_here", "_law_own", "_law_opponent_here", "_law_first", "_law_second", "_law_both", "_law_told"] ["_law_source_here", "_law_ground", "_law_heap_here"] (defScope s__law_drawn_right) := ⟨rfl, rfl, rfl, by decide +kernel, rfl, by decide +kernel, by decide +kernel⟩
theorem D__law_drawn_right (T : Tx K mg) (TB : TBs K mg base) : Def P w K mg base 12 (He.ga K "_law_drawn_right") ["_law_source_here", "_law_ground", "_law_heap_here"] (sp_drawn_right K) := by
  refine Def.make T (d := d__law_drawn_right) 62 rfl rfl rfl sc__law_drawn_right (fun _ _ _ _ _ _ us hl => match us, hl with | [_, _, _], _ => rfl) (fun vs H Q E h => ?_) (fun cdv A outer s H vs Q E hr h => ?_)
  · obtain ⟨a, g, h, G, hs, rfl, _⟩ := h
    rfl
  · obtain ⟨a, g, h, G, hs, rfl, hS, hG, hL, gok, tx, hO, hT, hdr, k⟩ := h
    have nd := sc__law_drawn_right.nd
    refine ⟨_, (pss_cons (ps_set (i := 3) nd rfl (Or.inl rfl) (pe_callX (D_player T TB) (hr.mono (by decide)) rfl T.g_player (pa_cons (pv 1) pa_nil)))
    (pss_cons (ps_set (i := 4) nd rfl (Or.inl rfl) (pe_callX (D__law_opponent T TB) (hr.mono (by decide)) rfl T.g__law_opponent (pa_cons (pv 0) (pa_cons (pv 1) pa_nil))))
    (pss_cons (ps_set (i := 5) nd rfl (Or.inl rfl) (pe_callX (D_played T) (hr.mono (by decide)) rfl T.g_played (pa_cons (pv 1) (pa_cons (pv 2) (pa_cons (pv 3) (pa_cons (pv 4) (pa_cons pe_int pa_nil)))))))
    (pss_cons (ps_set (i := 6) nd rfl (Or.inl rfl) (pe_callX (D_played T) (hr.mono (by decide)) rfl T.g_played (pa_cons (pv 1) (pa_cons (pv 2) (pa_cons (pv 4) (pa_cons (pv 3) (pa_cons pe_int pa_nil)))))))
    (pss_cons (ps_set (i := 7) nd rfl (Or.inl rfl) (pe_callX (D_played T) (hr.mono (by decide)) rfl T.g_played (pa_cons (pv 1) (pa_cons (pv 2) (pa_cons (pv 3) (pa_cons (pv 3) (pa_cons pe_int pa_nil)))))))
    (pss_cons (ps_if (PW.pt (pw_or (pt_cmpR op_eq (pe_ix ix_tup (pv 5) pe_int (fun _ _ => rfl)) pe_str (nomark _)) (pw_or (pt_cmpR op_eq (pe_ix ix_tup (pv 6) pe_int (fun _ _ => rfl)) pe_str (nomark _)) (pw_or1 (pt_cmpR op_ne (pe_ix ix_tup (pv 7) pe_int (fun _ _ => rfl)) pe_str (nomark _)))))) (pss_one (ps_ret pe_bl)) pss_nil)
    (pss_cons (ps_for PassesOwn.never rfl (pi_list (PE.nm (pe_lst (pa_cons (pv 5) (pa_cons (pv 6) (pa_cons (pv 7) pa_nil)))))) (pg_name (i := 8) nd rfl (Or.inl rfl))
    (pss_one (ps_if (pt_not (pt_val (pe_callX (D__law_walked T) (hr.mono (by decide)) rfl T.g__law_walked (pa_cons (pv 1) (pa_cons (pv 2) (pa_cons (pv 8) pa_nil)))))) (pss_one (ps_ret pe_bl)) pss_nil)))
    (pss_one (ps_ret pe_bl))))))))), ?_⟩
    walk_at "go"
    refine ⟨g, G, rfl, hG, gok, tx, hT, fun f1 H1 e1 hT1 hh1 => ?_⟩
    walk_at "go"
    refine ⟨a, g, G, rfl, hS.es e1, hG.uw gok (Ew.ofN e1), gok, hT1, fun f2 H2 e2 hS2 hT2 hh2 => ?_⟩
    walk_at "go"
    have s2 : Es H H2 := (Es.ofN e1).trans e2
    have hG2 := hG.uw gok (Ew.ofS s2)
    have hL2 := lat_ew (Ew.ofS s2) hL
    have hh1 := hh1.es e2
    refine ⟨g, h, f1, f2, G, hs, _, _, 16, rfl, hG2, hL2, gok, tx, hO, hh1, hh2, by decide, fun t1 l1 H3 m1 e3 ht1 hM1 hp1 _ hle1 => ?_⟩
    walk_at "go"
    refine ⟨g, h, f2, f1, G, hs, _, _, 16, rfl, hG2.up e3, e3 _ _ hL2, gok, tx, hO, hh2.ext (exN e3), hh1.ext (exN e3), by decide, fun t2 l2 H4 m2 e4 ht2 hM2 hp2 _ hle2 => ?_⟩
    have e34 := e3.trans e4
    walk_at "go"
    refine ⟨g, h, f1, f1, G, hs, _, _, 8, rfl, hG2.up e34, e34 _ _ hL2, gok, tx, hO, hh1.ext (exN e34), hh1.ext (exN e34), by decide, fun t3 l3 H5 m3 e5 ht3 hM3 hp3 _ hle3 => ?_⟩
    have e35 := e34.trans e5
    walk_at "go"
    have P1 : PlayAt H5 t1 G hs m1 := (PlayAt.up ⟨l1, ht1, hM1⟩ (e4.trans e5))
    have P2 : PlayAt H5 t2 G hs m2 := (PlayAt.up ⟨l2, ht2, hM2⟩ e5)
    have P3 : PlayAt H5 t3 G hs m3 := ⟨l3, ht3, hM3⟩
    have x1 : endT G (runF hs m1) m1.length ≠ "second" := by
      by_cases z : movesF G (runF hs m1) = []
      · rw [end_first z (play_n gok hO (by rw [hdr]; exact fun q => s_ld q.symm) hp1 z)]
        exact s_fs
      · rw [end_open z]
        exact fun q => s_so q.symm
    have x2 : endT G (runF hs m2) m2.length ≠ "first" := by
      by_cases z : movesF G (runF hs m2) = []
      · rw [end_second z (play_m gok hO (by rw [hdr]; exact fun q => s_wd q.symm) hp2 z)]
        exact fun q => s_fs q.symm
      · rw [end_open z]
        exact fun q => s_fo q.symm
    have x3 : endT G (runF hs m3) m3.length = "open" := end_open (play_both gok hO hdr hp3)
    refine w_ixT (SqT.of (((e4.trans e5) _ _ ht1))) rfl ?_
    walk_at "go"
    rw [dec_str, decide_eq_false x1]
    refine brF rfl ?_
    walk_at "go"
    refine w_ixT (SqT.of (e5 _ _ ht2)) rfl ?_
    walk_at "go"
    rw [dec_str, decide_eq_false x2]
    refine brF rfl ?_
    walk_at "go"
    refine w_ixT (SqT.of ht3) rfl ?_
    walk_at "go"
    rw [dec_str, decide_eq_true x3]
    refine brF rfl ?_
    walk_at "go"
    refine ⟨szs (show 3 ≤ 100000 by decide), w_new fun q H6 hq e6 h6 => ?_⟩
    have s6 : Es H H6 := s2.trans (Es.of (e35.trans e6))
    refine ⟨q, rfl, ⟨_, SqL.of h6⟩, for_list (K := K) (a := q) (xs := [.ref t1, .ref t2, .ref t3]) (fun i σ H7 => Ex H6 H7 ∧ ∃ v, σ = [some (.ref a), some (.ref g), some (.ref h), some (.ref f1), some (.ref f2), some (.ref t1), some (.ref t2), some (.ref t3), v]) ⟨Ex.refl _, none, rfl⟩ (fun i σ H7 _ ⟨e, _⟩ => SqL.of (e _ _ h6)) ?_ ?_⟩
    · rintro i y σ H7 hi ⟨e7, v, rfl⟩
      have hG7 := (hG2.up e35).up (e6.trans e7)
      have hL7 : LAt H7 h hs := (e6.trans e7) _ _ (e35 _ _ hL2)
      have ob : ∃ t ms, y = .ref t ∧ PlayAt H7 t G hs ms ∧ Legal G hs ms ∧ HOk' G (runF hs ms) ∧ ms.length ≤ 1000 := by
        match i, hi with
        | 0, hi => exact ⟨t1, m1, (Option.some.inj hi).symm, P1.up (e6.trans e7), hp1.legal gok hO, hp1.ok gok hO, by omega⟩
        | 1, hi => exact ⟨t2, m2, (Option.some.inj hi).symm, P2.up (e6.trans e7), hp2.legal gok hO, hp2.ok gok hO, by omega⟩
        | 2, hi => exact ⟨t3, m3, (Option.some.inj hi).symm, P3.up (e6.trans e7), hp3.legal gok hO, hp3.ok gok hO, by omega⟩
        | n + 3, hi => simp at hi
      obtain ⟨t, ms, rfl, hP, hl1, hl2, hl3⟩ := ob
      walk_at "go"
      refine ⟨g, h, t, G, hs, ms, rfl, hG7, hL7, hP, gok, tx, hO, hl1, hl2, hl3, fun H8 e8 => ?_⟩
      walk_at "go"
      refine brF rfl ?_
      walk_at "go"
      exact ⟨e7.trans e8, _, rfl⟩
    · rintro σ H7 ⟨e7, v, rfl⟩
      walk_at "go"
      exact k H7 (s6.trans (Es.of e7)) (hT2.ext (e35.trans (e6.trans e7)))
theorem sc__law_right : FnScope ["_law_source_here", "_law_ground", "_law_heap_here", "_law_found", "_law_own", "_law_opponent_here", "_law_most", "_law_hands", "_law_told", "_law_again"] ["_law_source_here", "_law_ground", "_law_heap_here"] (defScope s__law_right) := ⟨rfl, rfl, rfl, by decide +kernel, rfl, by decide +kernel, by decide +kernel⟩
theorem D__law_right (T : Tx K mg) (TB : TBs K mg base) : Def P w K mg base 13 (He.ga K "_law_right") ["_law_source_here", "_law_ground", "_law_heap_here"] (sp_right K) := by
  refine Def.make T (d := d__law_right) 63 rfl rfl rfl sc__law_right (fun _ _ _ _ _ _ us hl => match us, hl with | [_, _, _], _ => rfl) (fun vs H Q E h => ?_) (fun cdv A outer s H vs Q E hr h => ?_)
  · obtain ⟨a, g, h, G, hs, rfl, _⟩ := h
    rfl
  · obtain ⟨a, g, h, G, hs, rfl, hS, hG, hL, gok, tx, hO, hT, k⟩ := h
    have nd := sc__law_right.nd
    refine ⟨_, (pss_cons (ps_set (i := 3) nd rfl (Or.inl rfl) (pe_callX (D_outcome T) (hr.mono (by decide)) rfl T.g_outcome (pa_cons (pv 1) (pa_cons (pv 2) pa_nil))))
    (pss_cons (ps_if (pt_cmpR op_eq (pv 3) pe_str (nomark _)) (pss_one (ps_ret (pe_callX (D__law_drawn_right T TB) (hr.mono (by decide)) rfl T.g__law_drawn_right (pa_cons (pv 0) (pa_cons (pv 1) (pa_cons (pv 2) pa_nil)))))) pss_nil)
    (pss_cons (ps_set (i := 4) nd rfl (Or.inl rfl) (pe_callX (D_player T TB) (hr.mono (by decide)) rfl T.g_player (pa_cons (pv 1) pa_nil)))
    (pss_cons (ps_set (i := 5) nd rfl (Or.inl rfl) (pe_callX (D__law_opponent T TB) (hr.mono (by decide)) rfl T.g__law_opponent (pa_cons (pv 0) (pa_cons (pv 1) pa_nil))))
    (pss_cons (ps_set (i := 6) nd rfl (Or.inl rfl) (pe_callX (D_most_moves T) (hr.mono (by decide)) rfl T.g_most_moves (pa_cons (pv 1) (pa_cons (pv 2) pa_nil))))
    (pss_cons (ps_set (i := 7) nd rfl (Or.inl rfl) (PE.nm (pe_lst (pa_cons (pv 4) (pa_cons (pv 5) pa_nil)))))
    (pss_cons (ps_if (pt_cmpR op_eq (pv 3) pe_str (nomark _)) (pss_one (ps_set (i := 7) nd rfl (Or.inl rfl) (PE.nm (pe_lst (pa_cons (pv 5) (pa_cons (pv 4) pa_nil)))))) pss_nil)
    (pss_cons (ps_set (i := 8) nd rfl (Or.inl rfl) (pe_callX (D_played T) (hr.mono (by decide)) rfl T.g_played (pa_cons (pv 1) (pa_cons (PE.nm (pe_callTy call_list_of (by rfl) T.f_list (by decide +kernel) (pa_cons (pv 2) pa_nil))) (pa_cons (pe_ix ix_list (pv 7) pe_int (fun _ _ => rfl)) (pa_cons (pe_ix ix_list (pv 7) pe_int (fun _ _ => rfl)) (pa_cons (pe_callB (call_min2 rfl) (by rfl) T.f_min (by decide +kernel) (pa_cons (pv 6) (pa_cons pe_int pa_nil))) pa_nil)))))))
    (pss_cons (ps_if (PW.pt (pw_and (pt_cmpR op_le (pv 6) pe_int (nomark _)) (pw_and1 (pt_cmpR op_ne (pe_ix ix_tup (pv 8) pe_int (fun _ _ => rfl)) (pe_ix ix_list (PE.nm (pe_lst (pa_cons pe_str (pa_cons pe_str pa_nil)))) (pe_callTy call_int1 (by rfl) T.f_int (by decide +kernel) (pa_cons (pe_cmpR op_eq (pv 3) pe_str (nomark _)) pa_nil)) (fun _ _ => rfl)) (nomark _))))) (pss_one (ps_ret pe_bl)) pss_nil)
    (pss_cons (ps_set (i := 9) nd rfl (Or.inl rfl) (pe_callX (D_played T) (hr.mono (by decide)) rfl T.g_played (pa_cons (pv 1) (pa_cons (PE.nm (pe_callTy call_list_of (by rfl) T.f_list (by decide +kernel) (pa_cons (pv 2) pa_nil))) (pa_cons (pv 4) (pa_cons (pv 4) (pa_cons (pe_callB (call_min2 rfl) (by rfl) T.f_min (by decide +kernel) (pa_cons (pv 6) (pa_cons pe_int pa_nil))) pa_nil)))))))
    (pss_cons (ps_if (PW.pt (pw_and (pt_cmpR op_le (pv 6) pe_int (nomark _)) (pw_and1 (pt_cmpR op_ne (pe_ix ix_tup (pv 9) pe_int (fun _ _ => rfl)) (pe_ix ix_tup (pv 8) pe_int (fun _ _ => rfl)) (nomark _))))) (pss_one (ps_ret pe_bl)) pss_nil)
    (pss_one (ps_ret (pe_callX (D__law_walked T) (hr.mono (by decide)) rfl T.g__law_walked (pa_cons (pv 1) (pa_cons (pv 2) (pa_cons (pv 8) pa_nil))))))))))))))))), ?_⟩
    walk_at "go"
    refine ⟨g, h, G, hs, rfl, hG, hL, gok, tx, hO, fun H0 e0 => ?_⟩
    walk_at "go"
    rw [dec_str]
    by_cases hdr : ocF G hs = "drawn"
    · refine brT (decide_eq_true hdr) ?_
      walk_at "go"
      exact ⟨a, g, h, G, hs, rfl, hS.up e0, hG.up e0, e0 _ _ hL, gok, tx, hO, hT.ext e0, hdr, fun H2 e2 t2 => k H2 ((Es.of e0).trans e2) t2⟩
    · refine brF (decide_eq_false hdr) ?_
      walk_at "go"
      refine ⟨g, G, rfl, hG.up e0, gok, tx, hT.ext e0, fun f1 H1 e1 hT1 hh1 => ?_⟩
      walk_at "go"
      refine ⟨a, g, G, rfl, (hS.up e0).es e1, (hG.up e0).uw gok (Ew.ofN e1), gok, hT1, fun f2 H2 e2 hS2 hT2 hh2 => ?_⟩
      walk_at "go"
      have s2 : Es H H2 := (Es.of e0).trans ((Es.ofN e1).trans e2)
      have hG2 := hG.uw gok (Ew.ofS s2)
      have hL2 := lat_ew (Ew.ofS s2) hL
      have hh1 := hh1.es e2
      refine ⟨g, h, G, hs, rfl, hG2, hL2, gok, tx, hO, hdr, fun c H3 e3 hc => ?_⟩
      walk_at "go"
      refine ⟨szs (show 2 ≤ 100000 by decide), w_new fun q H4 hq e4 h4 => ?_⟩
      walk_at "go"
      rw [dec_str]
      -- the two hands
      have word : ocF G hs = "lost" ∨ ocF G hs = "won" := by
        rcases three gok hs with z | z | z
        · exact .inl z
        · exact .inr z
        · exact absurd z hdr
      have e24 := e3.trans e4
      refine br ?t ?f
      case' t =>
        intro y
        have hlo := of_decide_eq_true y
        walk_at "go"
        refine ⟨szs (show 2 ≤ 100000 by decide), w_new fun q2 H5 hq2 e5 h5 => ?_⟩
        have hands : ∃ A B, HandOk P w K mg base H5 f2 G A ∧ HandOk P w K mg base H5 f1 G B ∧ ∀ ms n, Plays G A B hs ms → (movesF G (runF hs ms) = [] ∨ ms.length = n) → n = c → endT G (runF hs ms) ms.length = (if ocF G hs = "won" then "first" else "second") := ⟨_, _, hh2.ext (exN (e24.trans e5)), hh1.ext (exN (e24.trans e5)), fun ms n hp he hn => by
          subst hn
          have hcc := hc.2 hlo
          obtain ⟨a1, a2⟩ := play_lost gok hO hlo hp (by rcases he with z | z; exact .inl z; exact .inr (by omega))
          rw [end_second a1 a2, hlo, if_neg s_lw]⟩
      case' f =>
        intro y
        have hwo : ocF G hs = "won" := word.resolve_left (of_decide_eq_false y)
        have h5 := h4
        have e5 := Ex.refl H4
        walk_at "go"
        have hands : ∃ A B, HandOk P w K mg base H4 f1 G A ∧ HandOk P w K mg base H4 f2 G B ∧ ∀ ms n, Plays G A B hs ms → (movesF G (runF hs ms) = [] ∨ ms.length = n) → n = c → endT G (runF hs ms) ms.length = (if ocF G hs = "won" then "first" else "second") := ⟨_, _, hh1.ext (exN e24), hh2.ext (exN e24), fun ms n hp he hn => by
          subst hn
          obtain ⟨m0, hm0, hmin, hcc⟩ := hc.1 hwo
          obtain ⟨a1, a2⟩ := play_won gok hO hwo hp (by rcases he with z | z; exact .inl z; exact .inr ⟨m0, hm0, by omega⟩)
          rw [end_first a1 a2, hwo, if_pos rfl]⟩
      all_goals
        walk_at "go"
        obtain ⟨A', B', hA, hB, hend⟩ := hands
        have e25 := e24.trans e5
        refine ⟨h, _, rfl, .inl (SqL.of (e25 _ _ hL2)), w_new fun h6 H6 hh6 e6 hL6 => ?_⟩
        walk_at "go"
        refine w_ixL (SqL.of (e6 _ _ h5)) (atI_nat (j := 0) rfl) ?_
        walk_at "go"
        refine w_ixL (SqL.of (e6 _ _ h5)) (atI_nat (j := 1) rfl) ?_
        walk_at "go"
        refine ⟨_, _, rfl, ?_⟩
        have mn : ∀ b : Nat, (if ((b : Nat) : Int) < (c : Int) then ((b : Nat) : Int) else (c : Int)) = ((if b < c then b else c : Nat) : Int) := fun b => by
          by_cases z : b < c
          · rw [if_pos (by omega), if_pos z]
          · rw [if_neg (by omega), if_neg z]
        rw [show (if (300 : Int) < (c : Int) then (300 : Int) else (c : Int)) = ((if 300 < c then 300 else c : Nat) : Int) from mn 300]
        have e26 := e25.trans e6
        refine ⟨g, h6, _, _, G, hs, A', B', (if 300 < c then 300 else c), rfl, hG2.up e26, hL6, gok, tx, hO, hA.ext (exN e6), hB.ext (exN e6), (by split <;> omega), fun t1 l1 H7 m1 e7 ht1 hM1 hp1 he1 hle1 => ?_⟩
        have e27 := e26.trans e7
        walk_at "go"
        have le3 : decide ((c : Int) ≤ 300) = decide (c ≤ 300) := by
          by_cases z : c ≤ 300
          · rw [decide_eq_true z, decide_eq_true (by omega)]
          · rw [decide_eq_false z, decide_eq_false (by omega)]
        have le6 : decide ((c : Int) ≤ 60) = decide (c ≤ 60) := by
          by_cases z : c ≤ 60
          · rw [decide_eq_true z, decide_eq_true (by omega)]
          · rw [decide_eq_false z, decide_eq_false (by omega)]
        rw [le3]
        -- the rest, from the second test on
        have P1 : ∀ {H8}, Ex H7 H8 → PlayAt H8 t1 G hs m1 := fun {H8} e => PlayAt.up ⟨l1, ht1, hM1⟩ e
        have own : ∀ ms n, Plays G (PGood G) (PGood G) hs ms → (movesF G (runF hs ms) = [] ∨ ms.length = n) → n = c → endT G (runF hs ms) ms.length = (if ocF G hs = "won" then "first" else "second") := fun ms n hp he hn => by
          subst hn
          rcases word with z | z
          · have hcc := hc.2 z
            obtain ⟨a1, a2⟩ := play_lost gok hO z hp (by rcases he with z | z; exact .inl z; exact .inr (by omega))
            rw [end_second a1 a2, z, if_neg s_lw]
          · obtain ⟨m0, hm0, hmin, hcc⟩ := hc.1 z
            obtain ⟨a1, a2⟩ := play_won gok hO z hp (by rcases he with z | z; exact .inl z; exact .inr ⟨m0, hm0, by omega⟩)
            rw [end_first a1 a2, z, if_pos rfl]
        have e2w : (if decide (V.str (ocF G hs) = V.str "won") = true then ("first" : Str) else "second") = (if ocF G hs = "won" then "first" else "second") := by
          rw [dec_str]
          by_cases y : ocF G hs = "won"
          · rw [decide_eq_true y, if_pos rfl, if_pos y]
          · rw [decide_eq_false y, if_neg Bool.false_ne_true, if_neg y]
        have hl300 : m1.length ≤ 1000 := by split at hle1 <;> omega
        refine br (fun z => ?_) (fun z => ?_)
        have z := of_decide_eq_true z
        walk_at "go"
        refine w_ixT (SqT.of ht1) rfl ?_
        walk_at "go"
        refine ⟨szs (show 2 ≤ 100000 by decide), w_new fun q3 H8 hq3 e8 h8 => ?_⟩
        walk_at "go"
        refine .inr ⟨_, rfl, ?_⟩
        refine fs_b h8 ?_
        walk_at "go"
        rw [e2w, hend m1 _ hp1 he1 (if_neg (by omega)), decide_eq_true rfl]
        refine brF rfl ?_
        rotate_left
        have e8 := Ex.refl H7
        refine brF rfl ?_
        all_goals
          walk_at "go"
          have e28 := e27.trans e8
          refine ⟨h, _, rfl, .inl (SqL.of (e28 _ _ hL2)), w_new fun h9 H9 hh9 e9 hL9 => ?_⟩
          walk_at "go"
          refine ⟨_, _, rfl, ?_⟩
          rw [show (if (60 : Int) < (c : Int) then (60 : Int) else (c : Int)) = ((if 60 < c then 60 else c : Nat) : Int) from mn 60]
          have e29 := e28.trans e9
          refine ⟨g, h9, f1, f1, G, hs, _, _, (if 60 < c then 60 else c), rfl, hG2.up e29, hL9, gok, tx, hO, hh1.ext (exN e29), hh1.ext (exN e29), (by split <;> omega), fun t2 l2 H10 m2 e10 ht2 hM2 hp2 he2 hle2 => ?_⟩
          have e2x := e29.trans e10
          walk_at "go"
          rw [le6]
          refine br (fun y => ?_) (fun y => ?_)
          · have y := of_decide_eq_true y
            walk_at "go"
            refine w_ixT (SqT.of ht2) rfl ?_
            walk_at "go"
            refine w_ixT (SqT.of (((e8.trans e9).trans e10) _ _ ht1)) rfl ?_
            walk_at "go"
            rw [hend m1 _ hp1 he1 (if_neg (by omega)), own m2 _ hp2 he2 (if_neg (by omega)), decide_eq_true rfl]
            refine brF rfl ?_
            walk_at "go"
            exact ⟨g, h, t1, G, hs, m1, rfl, hG2.up e2x, e2x _ _ hL2, P1 ((e8.trans e9).trans e10), gok, tx, hO, hp1.legal gok hO, hp1.ok gok hO, hl300, fun H11 e11 => k H11 (s2.trans (Es.of (e2x.trans e11))) (hT2.ext (e2x.trans e11))⟩
          · refine brF rfl ?_
            walk_at "go"
            exact ⟨g, h, t1, G, hs, m1, rfl, hG2.up e2x, e2x _ _ hL2, P1 ((e8.trans e9).trans e10), gok, tx, hO, hp1.legal gok hO, hp1.ok gok hO, hl300, fun H11 e11 => k H11 (s2.trans (Es.of (e2x.trans e11))) (hT2.ext (e2x.trans e11))⟩
end
end K96

set_option Elab.async false
set_option linter.all false
set_option maxRecDepth 100000
set_option maxHeartbeats 4000000
/-! K96X: one token alone. -/
namespace K96
open PySem PySem.Spec PyProof.Rows L2 LamX NdefX
open Evl (Ex)
open K96M (Gr)
local macro_rules | `(tactic| walk_at "go") => `(tactic| repeat (first
  | with_reducible refine w_seq ?_
  | with_reducible refine w_asg ?_
  | with_reducible refine w_name ?_
  | with_reducible refine w_var rfl ?_
  | with_reducible refine w_c ?_
  | with_reducible refine w_op ?_
  | with_reducible refine w_I0 ?_
  | with_reducible refine w_drop ?_
  | with_reducible refine w_ret ?_
  | with_reducible refine w_if ?_
  | with_reducible refine w_next ?_
  | with_reducible refine w_test ?_
  | with_reducible refine w_B ?_
  | with_reducible refine w_bl ?_
  | with_reducible refine w_not ?_
  | with_reducible refine w_and ?_
  | with_reducible refine w_or ?_
  | with_reducible refine w_andV ?_
  | with_reducible refine w_orV ?_
  | with_reducible refine w_notV ?_
  | with_reducible refine w_cons ?_
  | with_reducible refine w_nil ?_
  | with_reducible refine w_cb ?_
  | with_reducible refine w_call ?_
  | with_reducible refine w_isN ?_
  | with_reducible refine w_notN ?_
  | with_reducible refine w_chain ?_
  | with_reducible refine w_sl ?_
  | with_reducible refine w_nopart ?_
  | with_reducible refine w_tupT ?_
  | with_reducible refine w_lstT ?_
  | with_reducible refine w_eq rfl ?_
  | with_reducible refine w_ne rfl ?_
  | with_reducible refine w_for ?_
  | with_reducible refine w_iL ?_
  | with_reducible refine w_iT ?_
  | with_reducible refine w_iR1 ?_
  | with_reducible refine w_iR2 ?_
  | with_reducible refine w_iE ?_
  | with_reducible refine w_iS ?_
  | with_reducible refine w_lc ?_
  | with_reducible refine w_nm ?_
  | with_reducible refine w_din ?_
  | with_reducible refine w_dnotin ?_
  | with_reducible refine w_dput ?_
  | with_reducible refine w_dget1 ?_
  | with_reducible refine w_dget2 ?_
  | with_reducible refine w_bm ?_
  | with_reducible refine w_bm0 ?_
  | with_reducible refine w_sfld ?_
  | with_reducible refine w_make ?_
  | with_reducible refine w_part ?_
  | with_reducible refine w_aug rfl ?_
  | with_reducible refine w_ip ?_
  | with_reducible refine w_yes ?_
  | with_reducible refine w_gcs ?_
  | with_reducible refine w_gnil ?_
  | with_reducible refine w_dget ?_
  | with_reducible refine w_fld ?_
  | with_reducible refine w_meth ?_))
local macro_rules | `(tactic| walk_at "ex") => `(tactic| repeat (first | assumption | exact Ex.refl _ | refine Ex.trans ?_ (by assumption)))
/-! ### dict.update of a dict -/
def rUpdate : V → List V → Hp → VK → Prop := fun x xs H Q => ∃ (d o : Addr) (kvs more : List (Key × V)), x = .ref d ∧ xs = [.ref o] ∧ H d = some (.dK kvs) ∧ H o = some (.dK more) ∧ d ≠ o ∧ kvs.length + more.length ≤ sizeLine ∧ Q .non (upd H d (.dK (mergeK kvs more)))
theorem putK_len (kvs : List (Key × V)) (k : Key) (v : V) : (putK kvs k v).length ≤ kvs.length + 1 := by
  unfold putK
  split
  · rw [List.length_map]; omega
  · rw [List.length_append]; exact Nat.le_refl _
theorem mergeK_len : ∀ (more kvs : List (Key × V)), (mergeK kvs more).length ≤ kvs.length + more.length
  | [], kvs => Nat.le_refl _
  | p :: r, kvs => by
    show (mergeK (putK kvs p.1 p.2) r).length ≤ _
    have h1 := mergeK_len r (putK kvs p.1 p.2)
    have h2 := putK_len kvs p.1 p.2
    rw [List.length_cons]
    omega
theorem mt_update {X : Cx} : MtR X "dict.update" rUpdate := by
  intro pins s σ H x xs v us Q I rx rv h
  obtain ⟨d, o, kvs, more, rfl, rfl, hd, ho, hne, hz, q⟩ := h
  obtain rfl : v = .ref d := rx
  obtain ⟨u, rfl, ru⟩ := rv.one
  obtain rfl : u = .ref o := ru
  obtain ⟨z1, lo1, vs1, r1, d1⟩ := dk_of I.hok hd
  obtain ⟨z2, lo2, vs2, r2, d2⟩ := dk_of I.hok ho
  refine call_meetsIn PySem.F.slot_dict_update d1.typeIs PySem.F.entry_dict_update (PySem.F.args_dict_update_2 _ _) (meets_dict_update (mixKind X.prog X.w) d o hne lo2) ⟨vs1, vs2, d1, d2, by rw [← r1.length, ← r2.length]; exact hz, fun h' dd _ hs => ?_⟩
  have he : ∃ q, h'.get? d = some q := let ⟨q, _, _, hq, _⟩ := dd; ⟨q, hq⟩
  exact ⟨.non, _, d_write (t' := s.toks) I (by rw [hd]; exact True.intro) hs he (dk_new (Nat.le_trans (mergeK_len more kvs) hz) lo1 (KV.merge r2 r1) dd), rfl, q⟩
/-! ### the plain law -/
abbrev Kn : Type := Str → Option (Bool × Nat)
def isW (κ : Kn) (b : Str) : Bool := match κ b with
  | some (true, _) => true
  | _ => false
def isL (κ : Kn) (b : Str) : Bool := match κ b with
  | some (false, _) => true
  | _ => false
def madeF (G : G0) (κ : Kn) (m : Nat) (x : Str) : Option (Bool × Nat) := if (G.rd x).filter (fun b => !isW κ b) = [] then some (false, m) else if (G.rd x).filter (isL κ) = [] then none else some (true, m)
def nextK (G : G0) (κ : Kn) (m : Nat) : Kn := fun x => match κ x with
  | some v => some v
  | none => if x ∈ G.ns then madeF G κ m x else none
def knF (G : G0) : Nat → Kn
  | 0 => fun _ => none
  | m + 1 => nextK G (knF G m) m
/-- lost ones, by the labels -/
def Lo (G : G0) (x : Str) : Prop := ∃ s, K96M.lab0 G x = some (0, s)
def Wo (G : G0) (x : Str) : Prop := ∃ b ∈ G.rd x, Lo G b
theorem lo_not_wo {G : G0} (gok : GOk G) {x : Str} (hx : x ∈ G.ns) (h : Lo G x) : ¬ Wo G x := by
  rintro ⟨b, hb, s', hb2⟩
  obtain ⟨s, h⟩ := h
  exact (K96M.good_of gok.ok).unlike x 0 s h b hb s' hb2
theorem lo_back {G : G0} (gok : GOk G) {x : Str} {s : Nat} (h : K96M.lab0 G x = some (0, s)) {b : Str} (hb : b ∈ G.rd x) : ∃ c ∈ G.rd b, ∃ t, K96M.lab0 G c = some (0, t) ∧ t < s := by
  rcases (K96M.good_of gok.ok).back x 0 s h b hb with ⟨l', t', _, hl, _⟩ | ⟨c, hc, t', h1, h2⟩
  · exact absurd hl (Nat.not_lt_zero _)
  · exact ⟨c, hc, t', h1, h2⟩
theorem free_road {G : G0} (gok : GOk G) {x : Str} (hx : x ∈ G.ns) (h1 : ¬ Lo G x) (h2 : ¬ Wo G x) : ∃ b ∈ G.rd x, ¬ Lo G b ∧ ¬ Wo G b := by
  have good := K96M.good_of gok.ok
  cases h : K96M.lab0 G x with
  | some q =>
    obtain ⟨n, s⟩ := q
    exfalso
    cases n with
    | zero => exact h1 ⟨s, h⟩
    | succ n =>
      obtain ⟨b, hb, t, ht, _⟩ := good.down x (n + 1) s h 0 (Nat.succ_pos _)
      exact h2 ⟨b, hb, t, ht⟩
  | none =>
    obtain ⟨m, q1, q2, o, ho, ho0, q3⟩ := good.open_ x hx h
    have m0 : m = 0 := by
      rcases Nat.eq_zero_or_pos m with z | z
      · exact z
      · obtain ⟨b, hb, s, hs⟩ := q1 0 z
        exact absurd ⟨b, hb, s, hs⟩ h2
    subst m0
    refine ⟨o, ho, ?_, ?_⟩
    · rintro ⟨s, hs⟩
      rw [ho0] at hs
      cases hs
    · rintro ⟨c, hc, s, hs⟩
      exact q3 c hc s hs
/-- what the table says is so -/
theorem kn_sound {G : G0} (gok : GOk G) : ∀ (m : Nat) (x : Str), (∀ k, knF G m x = some (false, k) → x ∈ G.ns ∧ Lo G x) ∧ (∀ k, knF G m x = some (true, k) → x ∈ G.ns ∧ Wo G x)
  | 0, x => ⟨fun k h => (by cases h), fun k h => (by cases h)⟩
  | m + 1, x => by
    have ih := kn_sound gok m
    have wo : ∀ b, isW (knF G m) b = true → Wo G b := fun b hb => by
      unfold isW at hb
      cases q : knF G m b with
      | none => rw [q] at hb; cases hb
      | some z =>
        obtain ⟨c, k⟩ := z
        cases c with
        | true => exact ((ih b).2 k q).2
        | false => rw [q] at hb; cases hb
    have lo : ∀ b, isL (knF G m) b = true → Lo G b := fun b hb => by
      unfold isL at hb
      cases q : knF G m b with
      | none => rw [q] at hb; cases hb
      | some z =>
        obtain ⟨c, k⟩ := z
        cases c with
        | false => exact ((ih b).1 k q).2
        | true => rw [q] at hb; cases hb
    show (∀ k, nextK G (knF G m) m x = some (false, k) → _) ∧ (∀ k, nextK G (knF G m) m x = some (true, k) → _)
    unfold nextK
    cases q : knF G m x with
    | some z => exact ⟨fun k h => (ih x).1 k (q.trans h), fun k h => (ih x).2 k (q.trans h)⟩
    | none =>
      by_cases hx : x ∈ G.ns
      · simp only [if_pos hx]
        unfold madeF
        by_cases h1 : (G.rd x).filter (fun b => !isW (knF G m) b) = []
        · rw [if_pos h1]
          have allW : ∀ b ∈ G.rd x, Wo G b := fun b hb => by
            refine wo b ?_
            cases z : isW (knF G m) b with
            | true => rfl
            | false =>
              have : b ∈ (G.rd x).filter (fun b => !isW (knF G m) b) := List.mem_filter.mpr ⟨hb, by rw [z]; rfl⟩
              rw [h1] at this
              cases this
          refine ⟨fun k _ => ⟨hx, ?_⟩, fun k h => (by cases h)⟩
          refine Classical.byContradiction fun hl => ?_
          by_cases hw : Wo G x
          · obtain ⟨b, hb, hbl⟩ := hw
            exact lo_not_wo gok (gok.ok.cl x hx b hb) hbl (allW b hb)
          · obtain ⟨b, hb, _, hbw⟩ := free_road gok hx hl hw
            exact hbw (allW b hb)
        · rw [if_neg h1]
          by_cases h2 : (G.rd x).filter (isL (knF G m)) = []
          · rw [if_pos h2]
            exact ⟨fun k h => (by cases h), fun k h => (by cases h)⟩
          · rw [if_neg h2]
            refine ⟨fun k h => (by cases h), fun k _ => ⟨hx, ?_⟩⟩
            obtain ⟨b, hb⟩ := List.exists_mem_of_ne_nil _ h2
            obtain ⟨hb1, hb2⟩ := List.mem_filter.mp hb
            exact ⟨b, hb1, lo b hb2⟩
      · simp only [if_neg hx]
        exact ⟨fun k h => (by cases h), fun k h => (by cases h)⟩
/-- nothing more is found -/
def Done (G : G0) (κ : Kn) : Prop := ∀ x ∈ G.ns, κ x = none → (G.rd x).filter (fun b => !isW κ b) ≠ [] ∧ (G.rd x).filter (isL κ) = []
theorem done_made {G : G0} {κ : Kn} (h : Done G κ) (m : Nat) : nextK G κ m = κ := by
  funext x
  unfold nextK
  cases q : κ x with
  | some z => rfl
  | none =>
    by_cases hx : x ∈ G.ns
    · obtain ⟨h1, h2⟩ := h x hx q
      simp only [if_pos hx]
      unfold madeF
      rw [if_neg h1, if_pos h2]
    · simp only [if_neg hx]
def cnt (G : G0) (κ : Kn) : Nat := (G.ns.filter fun x => (κ x).isSome).length
theorem filt_lt {A : Type} {p q : A → Bool} : ∀ {l : List A}, (∀ x ∈ l, p x = true → q x = true) → (∃ x ∈ l, p x = false ∧ q x = true) → (l.filter p).length < (l.filter q).length
  | [], _, h => by obtain ⟨x, hx, _⟩ := h; cases hx
  | a :: r, h1, h2 => by
    have le : ∀ {l : List A}, (∀ x ∈ l, p x = true → q x = true) → (l.filter p).length ≤ (l.filter q).length := by
      intro l
      induction l with
      | nil => intro _; exact Nat.le_refl _
      | cons b t ih =>
        intro h
        have i2 := ih fun x hx => h x (List.mem_cons_of_mem _ hx)
        have hb := h b (List.mem_cons_self ..)
        rw [List.filter_cons, List.filter_cons]
        cases e1 : p b <;> cases e2 : q b <;> simp_all <;> omega
    obtain ⟨x, hx, hp, hq⟩ := h2
    rw [List.filter_cons, List.filter_cons]
    rcases List.mem_cons.mp hx with z | z
    · subst z
      have := le (l := r) fun y hy => h1 y (List.mem_cons_of_mem _ hy)
      rw [if_neg (by rw [hp]; exact Bool.false_ne_true), if_pos hq, List.length_cons]
      omega
    · have := filt_lt (p := p) (q := q) (l := r) (fun y hy => h1 y (List.mem_cons_of_mem _ hy)) ⟨x, z, hp, hq⟩
      have ha := h1 a (List.mem_cons_self ..)
      cases e1 : p a <;> cases e2 : q a <;> simp_all <;> omega
theorem grow {G : G0} : ∀ m, Done G (knF G m) ∨ m ≤ cnt G (knF G m)
  | 0 => .inr (Nat.zero_le _)
  | m + 1 => by
    rcases grow m with h | h
    · refine .inl ?_
      show Done G (nextK G (knF G m) m)
      rw [done_made h]
      exact h
    · by_cases hd : Done G (knF G m)
      · refine .inl ?_
        show Done G (nextK G (knF G m) m)
        rw [done_made hd]
        exact hd
      · refine .inr ?_
        have : cnt G (knF G m) < cnt G (knF G (m + 1)) := by
          refine filt_lt (fun x _ hx => ?_) ?_
          · show (nextK G (knF G m) m x).isSome = true
            unfold nextK
            cases q : knF G m x with
            | some z => rfl
            | none => rw [q] at hx; cases hx
          · refine Classical.byContradiction fun hno => hd fun x hx hn => ?_
            have hn2 : (nextK G (knF G m) m x).isSome = false := by
              cases z : (nextK G (knF G m) m x).isSome with
              | false => rfl
              | true => exact absurd ⟨x, hx, by rw [hn]; rfl, z⟩ hno
            unfold nextK at hn2
            rw [hn] at hn2
            simp only [if_pos hx] at hn2
            unfold madeF at hn2
            by_cases h1 : (G.rd x).filter (fun b => !isW (knF G m) b) = []
            · rw [if_pos h1] at hn2; cases hn2
            · rw [if_neg h1] at hn2
              by_cases h2 : (G.rd x).filter (isL (knF G m)) = []
              · exact ⟨h1, h2⟩
              · rw [if_neg h2] at hn2; cases hn2
        omega
/-- the table's end -/
def tabF (G : G0) : Kn := knF G (G.ns.length + 1)
theorem tab_done (G : G0) : Done G (tabF G) := by
  rcases grow (G := G) (G.ns.length + 1) with h | h
  · exact h
  · have : cnt G (knF G (G.ns.length + 1)) ≤ G.ns.length := List.length_filter_le _ _
    omega
theorem tab_lo {G : G0} (gok : GOk G) : ∀ (s : Nat) (x : Str), x ∈ G.ns → K96M.lab0 G x = some (0, s) → isL (tabF G) x = true := by
  intro s
  induction s using Nat.strongRecOn with
  | ind s ih =>
    intro x hx hl
    have snd := kn_sound gok (G.ns.length + 1)
    cases q : tabF G x with
    | some z =>
      obtain ⟨c, k⟩ := z
      cases c with
      | false => unfold isL; rw [q]
      | true => exact absurd ((snd x).2 k q).2 (lo_not_wo gok hx ⟨s, hl⟩)
    | none =>
      exfalso
      refine (tab_done G x hx q).1 ?_
      rw [List.filter_eq_nil_iff]
      intro b hb hnb
      have hbn := gok.ok.cl x hx b hb
      obtain ⟨c, hc, t, hct, hts⟩ := lo_back gok hl hb
      have hcl := ih t hts c (gok.ok.cl b hbn c hc) hct
      cases qb : tabF G b with
      | none =>
        have := (tab_done G b hbn qb).2
        have hm : c ∈ (G.rd b).filter (isL (tabF G)) := List.mem_filter.mpr ⟨hc, hcl⟩
        rw [this] at hm
        cases hm
      | some z =>
        obtain ⟨w', k⟩ := z
        cases w' with
        | true =>
          unfold isW at hnb
          rw [qb] at hnb
          cases hnb
        | false => exact lo_not_wo gok hbn ((snd b).1 k qb).2 ⟨c, hc, t, hct⟩
def wdF (o : Option (Bool × Nat)) : Str := match o with
  | some (true, _) => "won"
  | some (false, _) => "lost"
  | none => "drawn"
theorem oc_one {G : G0} (gok : GOk G) {x : Str} (hx : x ∈ G.ns) : (Lo G x → ocF G [x] = "lost") ∧ (Wo G x → ocF G [x] = "won") ∧ (¬ Lo G x → ¬ Wo G x → ocF G [x] = "drawn") := by
  have good := K96M.good_of gok.ok
  cases h : K96M.lab0 G x with
  | some q =>
    obtain ⟨n, s⟩ := q
    have e1 : ends G [x] = [] := ends_cons_n (lab_num h).2.2.2.1
    have e2 : xr G [x] = n := by
      rw [xr_cons, (lab_num h).2.1]
      exact Nat.xor_zero n
    refine ⟨fun ⟨t, ht⟩ => ?_, fun ⟨b, hb, t, ht⟩ => ?_, fun hl hw => ?_⟩
    · rw [h] at ht
      cases ht
      exact (is_lost gok).mpr ⟨e1, e2⟩
    · refine (is_won gok).mpr (.inl ⟨e1, ?_⟩)
      rw [e2]
      rintro rfl
      exact good.unlike x 0 s h b hb t ht
    · exfalso
      cases n with
      | zero => exact hl ⟨s, h⟩
      | succ n =>
        obtain ⟨b, hb, t, ht, _⟩ := good.down x (n + 1) s h 0 (Nat.succ_pos _)
        exact hw ⟨b, hb, t, ht⟩
  | none =>
    have e1 : ends G [x] = [x] := ends_cons_e (lab_end h).2.2.2.1
    have e2 : xr G [x] = 0 := by
      rw [xr_cons, (lab_end h).2.1, Nat.zero_xor]
      rfl
    refine ⟨fun ⟨t, ht⟩ => ?_, fun ⟨b, hb, t, ht⟩ => ?_, fun hl hw => ?_⟩
    · rw [h] at ht; cases ht
    · refine (is_won gok).mpr (.inr ⟨x, e1, ?_⟩)
      rw [e2]
      exact mem_bes.mpr ⟨b, hb, t, ht⟩
    · refine (is_drawn gok).mpr (.inl ⟨x, e1, ?_⟩)
      rw [e2]
      intro z
      obtain ⟨b, hb, t, ht⟩ := mem_bes.mp z
      exact hw ⟨b, hb, t, ht⟩
/-- the table says of each place how a heap of one token there ends -/
theorem tab_word {G : G0} (gok : GOk G) {x : Str} (hx : x ∈ G.ns) : wdF (tabF G x) = ocF G [x] := by
  have snd := kn_sound gok (G.ns.length + 1)
  obtain ⟨o1, o2, o3⟩ := oc_one gok hx
  cases q : tabF G x with
  | some z =>
    obtain ⟨c, k⟩ := z
    cases c with
    | true => exact (o2 ((snd x).2 k q).2).symm
    | false => exact (o1 ((snd x).1 k q).2).symm
  | none =>
    refine (o3 (fun ⟨s, hs⟩ => ?_) fun ⟨b, hb, s, hs⟩ => ?_).symm
    · have := tab_lo gok s x hx hs
      unfold isL at this
      rw [q] at this
      cases this
    · have hb' := tab_lo gok s b (gok.ok.cl x hx b hb) hs
      have hm : b ∈ (G.rd x).filter (isL (tabF G)) := List.mem_filter.mpr ⟨hb, hb'⟩
      rw [(tab_done G x hx q).2] at hm
      cases hm
end K96

set_option Elab.async false
set_option linter.all false
set_option maxRecDepth 100000
set_option maxHeartbeats 4000000
/-! K96Y: the table walked; the law's look at single places. -/
namespace K96
open PySem PySem.Spec PyProof.Rows L2 LamX NdefX
open Evl (Ex)
open K96M (Gr)
local macro_rules | `(tactic| walk_at "go") => `(tactic| repeat (first
  | with_reducible refine w_seq ?_
  | with_reducible refine w_asg ?_
  | with_reducible refine w_name ?_
  | with_reducible refine w_var rfl ?_
  | with_reducible refine w_c ?_
  | with_reducible refine w_op ?_
  | with_reducible refine w_I0 ?_
  | with_reducible refine w_drop ?_
  | with_reducible refine w_ret ?_
  | with_reducible refine w_if ?_
  | with_reducible refine w_next ?_
  | with_reducible refine w_test ?_
  | with_reducible refine w_B ?_
  | with_reducible refine w_bl ?_
  | with_reducible refine w_not ?_
  | with_reducible refine w_and ?_
  | with_reducible refine w_or ?_
  | with_reducible refine w_andV ?_
  | with_reducible refine w_orV ?_
  | with_reducible refine w_notV ?_
  | with_reducible refine w_cons ?_
  | with_reducible refine w_nil ?_
  | with_reducible refine w_cb ?_
  | with_reducible refine w_call ?_
  | with_reducible refine w_isN ?_
  | with_reducible refine w_notN ?_
  | with_reducible refine w_chain ?_
  | with_reducible refine w_sl ?_
  | with_reducible refine w_nopart ?_
  | with_reducible refine w_tupT ?_
  | with_reducible refine w_lstT ?_
  | with_reducible refine w_eq rfl ?_
  | with_reducible refine w_ne rfl ?_
  | with_reducible refine w_for ?_
  | with_reducible refine w_iL ?_
  | with_reducible refine w_iT ?_
  | with_reducible refine w_iR1 ?_
  | with_reducible refine w_iR2 ?_
  | with_reducible refine w_iE ?_
  | with_reducible refine w_iS ?_
  | with_reducible refine w_lc ?_
  | with_reducible refine w_nm ?_
  | with_reducible refine w_din ?_
  | with_reducible refine w_dnotin ?_
  | with_reducible refine w_dput ?_
  | with_reducible refine w_dget1 ?_
  | with_reducible refine w_dget2 ?_
  | with_reducible refine w_bm ?_
  | with_reducible refine w_bm0 ?_
  | with_reducible refine w_sfld ?_
  | with_reducible refine w_make ?_
  | with_reducible refine w_part ?_
  | with_reducible refine w_aug rfl ?_
  | with_reducible refine w_ip ?_
  | with_reducible refine w_yes ?_
  | with_reducible refine w_gcs ?_
  | with_reducible refine w_gnil ?_
  | with_reducible refine w_dget ?_
  | with_reducible refine w_fld ?_
  | with_reducible refine w_meth ?_))
local macro_rules | `(tactic| walk_at "ex") => `(tactic| repeat (first | assumption | exact Ex.refl _ | refine Ex.trans ?_ (by assumption)))
abbrev En : Type := Option (Bool × Nat)
def mvV : En → V
  | some (_, m) => nV m
  | none => .non
def mvD : En → PyData
  | some (_, m) => .int (m : Nat)
  | none => .none
def EnAt (H : Hp) (t : Addr) (e : En) : Prop := H t = some (.tup [.str (wdF e), mvV e])
theorem EnAt.tm {H H' : Hp} {t : Addr} {e : En} (h : EnAt H t e) (q : Tm H H') : EnAt H' t e := q _ _ h
def enD (e : En) : PyData := .tuple [.str (wdF e), mvD e]
theorem dp_en {K : PySem.W.Frag} {H : Hp} {t : Addr} {e : En} (h : EnAt H t e) : Dp K H (.ref t) (enD e) := by
  refine .tup (SqT.of h) (.cons (.str _) (.cons ?_ .nil))
  cases e with
  | none => exact .non
  | some z => exact .int _
theorem lay_d : (PyData.str "drawn").canLay0 = true := by decide +kernel
theorem lay_w : (PyData.str "won").canLay0 = true := by decide +kernel
theorem lay_l : (PyData.str "lost").canLay0 = true := by decide +kernel
theorem wd_lay (e : En) : (PyData.str (wdF e)).canLay0 = true := by
  cases e with
  | none => exact lay_d
  | some z =>
    obtain ⟨b, m⟩ := z
    cases b with
    | true => exact lay_w
    | false => exact lay_l
theorem en_lay (e : En) : (enD e).canLay0 = true := by
  show ((PyData.str (wdF e)).canLay0 && ((mvD e).canLay0 && true)) = true
  rw [wd_lay]
  cases e with
  | none => rfl
  | some z => rfl
theorem en_depth (e : En) : (enD e).depth ≤ 60 := by
  show max 0 (max (mvD e).depth 0) + 1 ≤ 60
  cases e with
  | none => decide
  | some z => show max 0 (max 0 0) + 1 ≤ 60; decide
theorem en_shaped (e : En) : SeqAt.shaped (enD e) = true := by
  refine shaped_tup (fun d hd => ?_) fun d hd => ?_
  · rcases List.mem_cons.mp hd with q | q
    · rw [q]; exact wd_lay e
    · rw [List.mem_singleton.mp q]
      cases e with
      | none => rfl
      | some z => rfl
  · rcases List.mem_cons.mp hd with q | q
    · rw [q]; exact Nat.zero_le _
    · rw [List.mem_singleton.mp q]
      cases e with
      | none => exact Nat.zero_le _
      | some z => exact Nat.zero_le _
/-- what a table of found places holds -/
def KnR (H : Hp) (o : Option V) (e : En) : Prop := match e with
  | none => o = none
  | some z => ∃ t, o = some (.ref t) ∧ EnAt H t (some z)
theorem KnR.tm {H H' : Hp} {o : Option V} {e : En} (h : KnR H o e) (q : Tm H H') : KnR H' o e := by
  cases e with
  | none => exact h
  | some z => obtain ⟨t, h1, h2⟩ := h; exact ⟨t, h1, h2.tm q⟩
/-- a list of entries -/
def EnsAt (H : Hp) (ys : List V) (es : List En) : Prop := ∃ ts : List Addr, ys = ts.map V.ref ∧ Paired (EnAt H) ts es
theorem EnsAt.tm {H H' : Hp} {ys : List V} {es : List En} (h : EnsAt H ys es) (q : Tm H H') : EnsAt H' ys es := by
  obtain ⟨ts, h1, h2⟩ := h
  exact ⟨ts, h1, Paired.mapP h2 fun _ _ z => EnAt.tm z q⟩
theorem EnsAt.snoc {H : Hp} {ys : List V} {es : List En} {t : Addr} {e : En} (h : EnsAt H ys es) (ht : EnAt H t e) : EnsAt H (ys ++ [.ref t]) (es ++ [e]) := by
  obtain ⟨ts, rfl, h2⟩ := h
  exact ⟨ts ++ [t], by rw [List.map_append]; rfl, h2.snoc ht⟩
theorem dp_ens {K : PySem.W.Frag} {H : Hp} {l : Addr} {ys : List V} {es : List En} (hl : H l = some (.lst ys)) (h : EnsAt H ys es) : Dp K H (.ref l) (.list (es.map enD)) := by
  obtain ⟨ts, rfl, h2⟩ := h
  exact .lst (SqL.of hl) (dpAll_pair (fun _ _ q => dp_en q) h2)
theorem ens_shaped (es : List En) : SeqAt.shaped (.list (es.map enD)) = true := by
  refine shaped_list (fun d hd => ?_) fun d hd => ?_
  · obtain ⟨e, _, rfl⟩ := List.mem_map.mp hd
    exact en_lay e
  · obtain ⟨e, _, rfl⟩ := List.mem_map.mp hd
    exact en_depth e
theorem wd_won (e : En) : decide (wdF e = "won") = (match e with | some (true, _) => true | _ => false) := by
  cases e with
  | none => exact decide_eq_false fun q => s_wd q.symm
  | some z =>
    obtain ⟨b, m⟩ := z
    cases b with
    | true => exact decide_eq_true rfl
    | false => exact decide_eq_false s_lw
theorem wd_lost (e : En) : decide (wdF e = "lost") = (match e with | some (false, _) => true | _ => false) := by
  cases e with
  | none => exact decide_eq_false fun q => s_ld q.symm
  | some z =>
    obtain ⟨b, m⟩ := z
    cases b with
    | true => exact decide_eq_false fun q => s_lw q.symm
    | false => exact decide_eq_true rfl
theorem filt_map {A B : Type} (f : A → B) (p : B → Bool) (l : List A) : (l.map f).filter p = (l.filter fun a => p (f a)).map f := by
  rw [List.filter_map]; rfl
section
variable {P : Program} {w : World} {K : PySem.W.Frag} {mg : Str → Option Value} {base : Heap}
def sp_made_so (K : PySem.W.Frag) : Sp := fun vs H Q _ => ∃ (g d : Addr) (G : G0) (κ : Kn) (x : Str) (m : Nat), vs = [.ref g, .ref d, .str x, nV m] ∧ GAt K H g G ∧ GOk G ∧ x ∈ G.ns ∧ DR H d G.ns (fun y o => KnR H o (κ y)) ∧
  ∀ v H2, Ex H H2 → (match madeF G κ m x with | none => v = .non | some z => ∃ t, v = .ref t ∧ EnAt H2 t (some z)) → Q v H2
theorem sc_made_so : FnScope ["ground", "known", "place", "moves", "beside", "other", "one"] ["ground", "known", "place", "moves"] (defScope s_made_so) := ⟨rfl, rfl, rfl, by decide +kernel, rfl, by decide +kernel, by decide +kernel⟩
theorem D_made_so (T : Tx K mg) : Def P w K mg base 2 (He.ga K "made_so") ["ground", "known", "place", "moves"] (sp_made_so K) := by
  refine Def.make T (d := d_made_so) 51 rfl rfl rfl sc_made_so (fun _ _ _ _ _ _ us hl => match us, hl with | [_, _, _, _], _ => rfl) (fun vs H Q E h => ?_) (fun cdv A outer s H vs Q E hr h => ?_)
  · obtain ⟨g, d, G, κ, x, m, rfl, _⟩ := h
    rfl
  · obtain ⟨g, d, G, κ, x, m, rfl, hG, gok, hx, hD, k⟩ := h
    have nd := sc_made_so.nd
    have hu := hu_of hr
    have hfew := gok.few x hx
    refine ⟨_, (pss_cons (ps_setLc (i := 4) (own := [("other", 5)]) rfl nd rfl rfl (sw_true rfl rfl rfl (by decide +kernel)) (pi_list (pe_methX (D_Ground_roads_from T) (hr.mono (by decide)) T.c_Ground T.m_Ground_roads_from (pv 0) (pa_cons (pv 2) pa_nil))) (blkOk_by (N := ["ground", "known", "place", "moves", "beside", "other", "one"]) (sc := defScope s_made_so) (by decide +kernel)) (fun _ _ _ _ _ => (pg_name (i := 5) nd rfl (Or.inl rfl))) (fun _ _ _ _ _ => pts_nil) (fun _ _ _ _ _ => (pe_dget2 hu (pv 1) (pv 5) (PE.nm (pe_tup (pa_cons pe_str (pa_cons pe_non pa_nil)))) ⟨by rfl, by rfl, by rfl, by rfl⟩)))
    (pss_cons (ps_if (pt_cmpR (op_eqD hr.units) (pe_lc (own := [("one", 6)]) rfl nd (pi_list (pv 4)) (blkOk_by (N := ["ground", "known", "place", "moves", "beside", "other", "one"]) (sc := defScope s_made_so) (by decide +kernel)) (fun _ _ _ _ _ => (pg_name (i := 6) nd rfl (Or.inl rfl))) (fun _ _ _ _ _ => (pts_one (pt_cmpR op_ne (pe_ix (r := rIxT K) ix_tup (pv 6) pe_int (fun _ _ => rfl)) pe_str (nomark _)))) (fun _ _ _ _ _ => (pv 6))) (PE.nm (pe_lst pa_nil)) (nomark _)) (pss_one (ps_ret (PE.nm (pe_tup (pa_cons pe_str (pa_cons (pv 3) pa_nil)))))) pss_nil)
    (pss_cons (ps_if (pt_cmpR (op_neD hr.units) (pe_lc (own := [("one", 6)]) rfl nd (pi_list (pv 4)) (blkOk_by (N := ["ground", "known", "place", "moves", "beside", "other", "one"]) (sc := defScope s_made_so) (by decide +kernel)) (fun _ _ _ _ _ => (pg_name (i := 6) nd rfl (Or.inl rfl))) (fun _ _ _ _ _ => (pts_one (pt_cmpR op_eq (pe_ix (r := rIxT K) ix_tup (pv 6) pe_int (fun _ _ => rfl)) pe_str (nomark _)))) (fun _ _ _ _ _ => (pv 6))) (PE.nm (pe_lst pa_nil)) (nomark _)) (pss_one (ps_ret (PE.nm (pe_tup (pa_cons pe_str (pa_cons (pv 3) pa_nil)))))) pss_nil)
    (pss_one (ps_ret pe_non))))), ?_⟩
    walk_at "go"
    obtain ⟨dx, _, _, hg, _⟩ := id hG
    refine ⟨g, dx, _, rfl, hg, rfl, ?_⟩
    walk_at "go"
    refine ⟨g, G, x, rfl, hG, hx, fun p H1 hp e1 hP => ?_⟩
    refine ⟨p, rfl, ⟨_, SqL.of hP⟩, lc_L (K := K) (SqL.of hP) (fun i ys H' => EnsAt H' ys (((G.rd x).take i).map κ)) (fun _ _ _ _ q h => h.tm q) ⟨[], rfl, .nil⟩ (by rw [List.length_map]; omega) ?_ ?_⟩
    · rintro i y ys H2 hi e2 hys N M hN hM
      obtain ⟨b, hb, rfl⟩ := map_at hi
      walk_at "go"
      refine ⟨rfl, ?_⟩
      walk_at "go"
      refine brT rfl ?_
      walk_at "go"
      have hD2 := (hD.upR (e1.trans e2) (R' := fun y o => KnR H2 o (κ y)) fun y o q => q.tm (Tm.of (e1.trans e2)))
      refine ⟨d, rfl, hD2.isD, ?_⟩
      walk_at "go"
      refine ⟨szs (show 2 ≤ 100000 by decide), w_new fun q H3 hq e3 h3 => ?_⟩
      have hD3 := (hD2.upR e3 (R' := fun y o => KnR H3 o (κ y)) fun y o q => q.tm (Tm.of e3))
      obtain ⟨o, ho, ro⟩ := hD3.get b
      refine ⟨o, ho, ?_⟩
      have ht : ∃ t, o.getD (.ref q) = .ref t ∧ EnAt H3 t (κ b) := by
        cases e : κ b with
        | none =>
          rw [e] at ro
          have ro : o = none := ro
          subst ro
          exact ⟨q, rfl, h3⟩
        | some z =>
          rw [e] at ro
          obtain ⟨t, rfl, ht⟩ := ro
          exact ⟨t, rfl, ht⟩
      obtain ⟨t, et, ht⟩ := ht
      rw [et]
      refine hN _ _ e3 ?_
      rw [tk hb, List.map_append]
      exact (hys.tm (Tm.of e3)).snoc ht
    · rintro D ys H2 hDn e2 hD2 hyl hys
      walk_at "go"
      rw [List.length_map, List.take_length] at hys
      obtain ⟨ts, rfl, hp2⟩ := hys
      have htl := Paired.length hp2
      rw [List.length_map] at htl
      rw [List.length_map, List.length_map] at hyl
      -- those that are not won
      refine ⟨D, rfl, ⟨_, SqL.of hD2⟩, lc_L (K := K) (SqL.of hD2) (fun i ys H' => EnsAt H' ys ((((G.rd x).map κ).take i).filter fun e => !decide (wdF e = "won"))) (fun _ _ _ _ q h => h.tm q) ⟨[], rfl, .nil⟩ (by rw [List.length_map]; omega) ?_ ?_⟩
      · rintro i y ys H3 hi e3 hys N M hN hM
        obtain ⟨t, ht, rfl⟩ := map_at hi
        obtain ⟨e, he, hte⟩ := Paired.at_ hp2 ht
        walk_at "go"
        refine ⟨rfl, ?_⟩
        walk_at "go"
        have hte3 : EnAt H3 t e := e3 _ _ hte
        refine w_ixT (SqT.of hte3) (v := .str (wdF e)) rfl ?_
        walk_at "go"
        rw [dec_str]
        refine br (fun z => ?_) (fun z => ?_)
        · walk_at "go"
          refine hN _ _ (Ex.refl _) ?_
          rw [tk he, List.filter_append, List.filter_cons, if_pos z]
          exact hys.snoc hte3
        · refine hM _ (Ex.refl _) ?_
          rw [tk he, List.filter_append, List.filter_cons, if_neg (by rw [z]; exact Bool.false_ne_true), List.filter_nil, List.append_nil]
          exact hys
      · rintro D2 ys2 H3 hD2n e3 hD23 _ hys2
        walk_at "go"
        refine ⟨szs (Nat.zero_le _), w_new fun q H4 hq e4 h4 => ?_⟩
        walk_at "go"
        rw [List.length_map, htl, ← List.length_map (f := κ), List.take_length] at hys2
        refine ⟨_, .list [], dp_ens (e4 _ _ hD23) (hys2.tm (Tm.of e4)), .lst (SqL.of h4) .nil, ens_shaped _, rfl, ?_⟩
        rw [eqvAll_nil, List.isEmpty_map]
        have f1 : ((G.rd x).map κ).filter (fun e => !decide (wdF e = "won")) = ((G.rd x).filter fun b => !isW κ b).map κ := by
          rw [filt_map]
          congr 1
          refine List.filter_congr fun b _ => ?_
          rw [wd_won]
          unfold isW
          rfl
        rw [f1, List.isEmpty_map]
        have e14 := (e1.trans e2).trans (e3.trans e4)
        walk_at "go"
        by_cases z : (G.rd x).filter (fun b => !isW κ b) = []
        · rw [z]
          refine brT rfl ?_
          walk_at "go"
          refine ⟨szs (show 2 ≤ 100000 by decide), w_new fun t H5 ht e5 h5 => ?_⟩
          refine k _ H5 (e14.trans e5) ?_
          unfold madeF
          rw [if_pos z]
          exact ⟨t, rfl, h5⟩
        · refine brF ?_ ?_
          · cases q : (G.rd x).filter (fun b => !isW κ b) with
            | nil => exact absurd q z
            | cons a r => rfl
          walk_at "go"
          have hD4 : H4 D = some (.lst (ts.map V.ref)) := (e3.trans e4) _ _ hD2
          have hp4 := Paired.mapP hp2 fun _ _ q => EnAt.tm q (Tm.of (e3.trans e4))
          refine ⟨D, rfl, ⟨_, SqL.of hD4⟩, lc_L (K := K) (SqL.of hD4) (fun i ys H' => EnsAt H' ys ((((G.rd x).map κ).take i).filter fun e => decide (wdF e = "lost"))) (fun _ _ _ _ q h => h.tm q) ⟨[], rfl, .nil⟩ (by rw [List.length_map]; omega) ?_ ?_⟩
          · rintro i y ys H5 hi e5 hys N M hN hM
            obtain ⟨t, ht, rfl⟩ := map_at hi
            obtain ⟨e, he, hte⟩ := Paired.at_ hp4 ht
            walk_at "go"
            refine ⟨rfl, ?_⟩
            walk_at "go"
            have hte3 : EnAt H5 t e := e5 _ _ hte
            refine w_ixT (SqT.of hte3) (v := .str (wdF e)) rfl ?_
            walk_at "go"
            rw [dec_str]
            refine br (fun z => ?_) (fun z => ?_)
            · walk_at "go"
              refine hN _ _ (Ex.refl _) ?_
              rw [tk he, List.filter_append, List.filter_cons, if_pos z]
              exact hys.snoc hte3
            · refine hM _ (Ex.refl _) ?_
              rw [tk he, List.filter_append, List.filter_cons, if_neg (by rw [z]; exact Bool.false_ne_true), List.filter_nil, List.append_nil]
              exact hys
          · rintro D3 ys3 H5 hD3n e5 hD35 _ hys3
            walk_at "go"
            refine ⟨szs (Nat.zero_le _), w_new fun q H6 hq e6 h6 => ?_⟩
            walk_at "go"
            rw [List.length_map, htl, ← List.length_map (f := κ), List.take_length] at hys3
            refine ⟨_, .list [], dp_ens (e6 _ _ hD35) (hys3.tm (Tm.of e6)), .lst (SqL.of h6) .nil, ens_shaped _, rfl, ?_⟩
            rw [eqvAll_nil, List.isEmpty_map]
            have f2 : ((G.rd x).map κ).filter (fun e => decide (wdF e = "lost")) = ((G.rd x).filter (isL κ)).map κ := by
              rw [filt_map]
              congr 1
              refine List.filter_congr fun b _ => ?_
              rw [wd_lost]
              unfold isL
              rfl
            rw [f2, List.isEmpty_map]
            have e16 := e14.trans (e5.trans e6)
            walk_at "go"
            by_cases z2 : (G.rd x).filter (isL κ) = []
            · rw [z2]
              refine brF rfl ?_
              walk_at "go"
              refine k _ H6 e16 ?_
              unfold madeF
              rw [if_neg z, if_pos z2]
            · refine brT ?_ ?_
              · cases q : (G.rd x).filter (isL κ) with
                | nil => exact absurd q z2
                | cons a r => rfl
              walk_at "go"
              refine ⟨szs (show 2 ≤ 100000 by decide), w_new fun t H7 ht e7 h7 => ?_⟩
              refine k _ H7 (e16.trans e7) ?_
              unfold madeF
              rw [if_neg z, if_neg z2]
              exact ⟨t, rfl, h7⟩
end
end K96

set_option Elab.async false
set_option linter.all false
set_option maxRecDepth 100000
set_option maxHeartbeats 4000000
/-! K96Z: table_of. -/
namespace K96
open PySem PySem.Spec PyProof.Rows L2 LamX NdefX
open Evl (Ex)
open K96M (Gr)
local macro_rules | `(tactic| walk_at "go") => `(tactic| repeat (first
  | with_reducible refine w_seq ?_
  | with_reducible refine w_asg ?_
  | with_reducible refine w_name ?_
  | with_reducible refine w_var rfl ?_
  | with_reducible refine w_c ?_
  | with_reducible refine w_op ?_
  | with_reducible refine w_I0 ?_
  | with_reducible refine w_drop ?_
  | with_reducible refine w_ret ?_
  | with_reducible refine w_if ?_
  | with_reducible refine w_next ?_
  | with_reducible refine w_test ?_
  | with_reducible refine w_B ?_
  | with_reducible refine w_bl ?_
  | with_reducible refine w_not ?_
  | with_reducible refine w_and ?_
  | with_reducible refine w_or ?_
  | with_reducible refine w_andV ?_
  | with_reducible refine w_orV ?_
  | with_reducible refine w_notV ?_
  | with_reducible refine w_cons ?_
  | with_reducible refine w_nil ?_
  | with_reducible refine w_cb ?_
  | with_reducible refine w_call ?_
  | with_reducible refine w_isN ?_
  | with_reducible refine w_notN ?_
  | with_reducible refine w_chain ?_
  | with_reducible refine w_sl ?_
  | with_reducible refine w_nopart ?_
  | with_reducible refine w_tupT ?_
  | with_reducible refine w_lstT ?_
  | with_reducible refine w_eq rfl ?_
  | with_reducible refine w_ne rfl ?_
  | with_reducible refine w_for ?_
  | with_reducible refine w_iL ?_
  | with_reducible refine w_iT ?_
  | with_reducible refine w_iR1 ?_
  | with_reducible refine w_iR2 ?_
  | with_reducible refine w_iE ?_
  | with_reducible refine w_iS ?_
  | with_reducible refine w_lc ?_
  | with_reducible refine w_nm ?_
  | with_reducible refine w_din ?_
  | with_reducible refine w_dnotin ?_
  | with_reducible refine w_dput ?_
  | with_reducible refine w_dget1 ?_
  | with_reducible refine w_dget2 ?_
  | with_reducible refine w_bm ?_
  | with_reducible refine w_bm0 ?_
  | with_reducible refine w_sfld ?_
  | with_reducible refine w_make ?_
  | with_reducible refine w_part ?_
  | with_reducible refine w_aug rfl ?_
  | with_reducible refine w_ip ?_
  | with_reducible refine w_yes ?_
  | with_reducible refine w_gcs ?_
  | with_reducible refine w_gnil ?_
  | with_reducible refine w_dget ?_
  | with_reducible refine w_fld ?_
  | with_reducible refine w_meth ?_))
local macro_rules | `(tactic| walk_at "ex") => `(tactic| repeat (first | assumption | exact Ex.refl _ | refine Ex.trans ?_ (by assumption)))
theorem valV_out {kvs : List (Key × V)} {k : Key} (h : k ∉ kvs.map (·.1)) : valV kvs k = none := by
  induction kvs with
  | nil => rfl
  | cons p r ih =>
    rw [List.map_cons] at h
    rw [valV_neg fun e => h (by rw [← e]; exact List.mem_cons_self ..)]
    exact ih fun q => h (List.mem_cons_of_mem _ q)
theorem valV_merge {k : Key} : ∀ {more kvs : List (Key × V)}, (more.map (·.1)).Nodup → valV (mergeK kvs more) k = match valV more k with | some v => some v | none => valV kvs k
  | [], kvs, _ => rfl
  | p :: r, kvs, h => by
    have h' := List.nodup_cons.mp h
    show valV (mergeK (putK kvs p.1 p.2) r) k = _
    rw [valV_merge h'.2, valV_put]
    by_cases e : p.1 = k
    · rw [valV_pos e]
      subst e
      rw [valV_out h'.1, if_pos rfl]
    · rw [valV_neg e, if_neg fun z => e z.symm]
theorem mergeK_nd : ∀ {more kvs : List (Key × V)}, (kvs.map (·.1)).Nodup → ((mergeK kvs more).map (·.1)).Nodup
  | [], _, h => h
  | p :: r, kvs, h => mergeK_nd (more := r) (kvs := putK kvs p.1 p.2) (putK_nd h)
theorem mergeK_in {ns : List Str} : ∀ {more kvs : List (Key × V)}, (∀ q ∈ kvs, ∃ x ∈ ns, q.1 = Sum.inr x) → (∀ q ∈ more, ∃ x ∈ ns, q.1 = Sum.inr x) → ∀ q ∈ mergeK kvs more, ∃ x ∈ ns, q.1 = Sum.inr x
  | [], _, h, _ => h
  | p :: r, kvs, h, h2 => by
    obtain ⟨x, hx, e⟩ := h2 p (List.mem_cons_self ..)
    refine mergeK_in (more := r) (kvs := putK kvs p.1 p.2) ?_ fun q hq => h2 q (List.mem_cons_of_mem _ hq)
    rw [e]
    exact putK_in hx h
theorem ite_iff {α : Type} {p q : Prop} [Decidable p] [Decidable q] (h : p ↔ q) (a b : α) : (if p then a else b) = if q then a else b := by
  by_cases z : p
  · rw [if_pos z, if_pos (h.mp z)]
  · rw [if_neg z, if_neg fun y => z (h.mpr y)]
/-- the table -/
def TbAt (H : Hp) (d : Addr) (G : G0) : Prop := ∃ kvs : List (Key × V), H d = some (.dK kvs) ∧ (∀ q ∈ kvs, ∃ x ∈ G.ns, q.1 = Sum.inr x) ∧ ∀ x ∈ G.ns, ∃ t, valV kvs (Sum.inr x) = some (.ref t) ∧ EnAt H t (tabF G x)
theorem TbAt.up {H H' : Hp} {d : Addr} {G : G0} (h : TbAt H d G) (e : Ex H H') : TbAt H' d G := by
  obtain ⟨kvs, h1, h2, h3⟩ := h
  exact ⟨kvs, e _ _ h1, h2, fun x hx => let ⟨t, a, b⟩ := h3 x hx; ⟨t, a, b.tm (Tm.of e)⟩⟩
theorem TbAt.get {H : Hp} {d : Addr} {G : G0} (h : TbAt H d G) {x : Str} (hx : x ∈ G.ns) : ∃ t, DGet H d (.str x) (some (.ref t)) ∧ EnAt H t (tabF G x) := by
  obtain ⟨kvs, h1, h2, h3⟩ := h
  obtain ⟨t, a, b⟩ := h3 x hx
  have q := DGet.k (k := Sum.inr x) h1
  rw [a] at q
  exact ⟨t, q, b⟩
/-- a pair of a name and its entry -/
def PrAt (κ : Kn) (H : Hp) (u : Addr) (x : Str) : Prop := ∃ t, H u = some (.tup [.str x, .ref t]) ∧ EnAt H t (κ x)
theorem PrAt.tm {κ : Kn} {H H' : Hp} {u : Addr} {x : Str} (h : PrAt κ H u x) (e : Tm H H') : PrAt κ H' u x := by
  obtain ⟨t, h1, h2⟩ := h
  exact ⟨t, e _ _ h1, h2.tm e⟩
theorem prs_kvs {K : PySem.W.Frag} {κ : Kn} {H : Hp} : ∀ {us : List Addr} {xs : List Str}, Paired (PrAt κ H) us xs → ∃ kvs : List (Key × V), kvs.map (·.1) = xs.map (fun x => (Sum.inr x : Key)) ∧ Paired (fun p kv => SqT K H p [kV kv.1, kv.2]) us kvs ∧ ∀ x ∈ xs, xs.Nodup → ∃ t, valV kvs (Sum.inr x) = some (.ref t) ∧ EnAt H t (κ x)
  | _, _, .nil => ⟨[], rfl, .nil, fun x hx => by cases hx⟩
  | u :: us, x :: xs, .cons ⟨t, h1, h2⟩ q => by
    obtain ⟨kvs, a1, a2, a3⟩ := prs_kvs (K := K) q
    refine ⟨(Sum.inr x, .ref t) :: kvs, by rw [List.map_cons, List.map_cons, a1], .cons (SqT.of h1) a2, fun y hy nd => ?_⟩
    by_cases e : x = y
    · subst e
      exact ⟨t, valV_pos rfl, h2⟩
    · rw [valV_neg fun z => e (Sum.inr.inj z)]
      exact a3 y ((List.mem_cons.mp hy).resolve_left fun z => e z.symm) (List.nodup_cons.mp nd).2
section
variable {P : Program} {w : World} {K : PySem.W.Frag} {mg : Str → Option Value} {base : Heap}
def sp_table_of (K : PySem.W.Frag) : Sp := fun vs H Q _ => ∃ (g : Addr) (G : G0), vs = [.ref g] ∧ GAt K H g G ∧ GOk G ∧ ∀ d H2, H d = none → Ex H H2 → TbAt H2 d G → Q (.ref d) H2
theorem sc_table_of : FnScope ["ground", "known", "moves", "coming", "place", "found"] ["ground"] (defScope s_table_of) := ⟨rfl, rfl, rfl, by decide +kernel, rfl, by decide +kernel, by decide +kernel⟩
theorem D_table_of (T : Tx K mg) : Def P w K mg base 3 (He.ga K "table_of") ["ground"] (sp_table_of K) := by
  refine Def.make T (d := d_table_of) 52 rfl rfl rfl sc_table_of (fun _ _ _ _ _ _ us hl => match us, hl with | [_], _ => rfl) (fun vs H Q E h => ?_) (fun cdv A outer s H vs Q E hr h => ?_)
  · obtain ⟨g, G, rfl, _⟩ := h
    rfl
  · obtain ⟨g, G, rfl, hG, gok, k⟩ := h
    have nd := sc_table_of.nd
    have hu := hu_of hr
    have hmany := gok.many
    refine ⟨_, (pss_cons (ps_set (i := 1) nd rfl (Or.inr rfl) pe_dnewK)
    (pss_cons (ps_for PassesOwn.never rfl (pi_range1 rfl T.f_range (pa_cons (pe_op op_add (pe_callB call_len_seq (by rfl) T.f_len (by decide +kernel) (pa_cons (pe_methX0 (D_Ground_names T) (hr.mono (by decide)) T.c_Ground T.m_Ground_names (pv 0)) pa_nil)) pe_int) pa_nil)) (pg_name (i := 2) nd rfl (Or.inl rfl))
    (pss_cons (ps_set (i := 3) nd rfl (Or.inl rfl) pe_dnewK)
    (pss_cons (ps_for PassesOwn.never rfl (pi_list (pe_methX0 (D_Ground_names T) (hr.mono (by decide)) T.c_Ground T.m_Ground_names (pv 0))) (pg_name (i := 4) nd rfl (Or.inl rfl))
    (pss_cons (ps_set (i := 5) nd rfl (Or.inl rfl) (pe_callX (D_made_so T) (hr.mono (by decide)) rfl T.g_made_so (pa_cons (pv 0) (pa_cons (pv 1) (pa_cons (pv 4) (pa_cons (pv 2) pa_nil))))))
    (pss_one (ps_if (PW.pt (pw_and (pt_cmp (pc_dnotin hu (pv 4) (pv 1))) (pw_and1 (pt_cmp (pc_notN (pv 5)))))) (pss_one (ps_dput hu (pv 3) (pv 4) (pv 5) rfl)) pss_nil))))
    (pss_one (ps_expr (pe_bm PySem.F.plainAttrs_dict PySem.F.slot_dict_update PySem.F.type_dict_update mt_update (pv 1) (pa_cons (pv 3) pa_nil)))))))
    (pss_one (ps_ret (PE.nm (pe_callTy (call_dictP rfl) (by rfl) T.f_dict (by decide +kernel) (pa_cons (pe_lc (own := [("place", 4)]) rfl nd (pi_list (pe_methX0 (D_Ground_names T) (hr.mono (by decide)) T.c_Ground T.m_Ground_names (pv 0))) (blkOk_by (N := ["ground", "known", "moves", "coming", "place", "found"]) (sc := defScope s_table_of) (by decide +kernel)) (fun _ _ _ _ _ => (pg_name (i := 4) nd rfl (Or.inl rfl))) (fun _ _ _ _ _ => pts_nil) (fun _ _ _ _ _ => (PE.nm (pe_tup (pa_cons (pv 4) (pa_cons (pe_dget2 hu (pv 1) (pv 4) (PE.nm (pe_tup (pa_cons pe_str (pa_cons pe_non pa_nil)))) ⟨by rfl, by rfl, by rfl, by rfl⟩) pa_nil)))))) pa_nil))))))), ?_⟩
    walk_at "go"
    refine w_dnewK fun d H1 hd e1 hd1 => ?_
    walk_at "go"
    obtain ⟨dx, _, _, hg, _⟩ := id hG
    refine ⟨g, dx, _, rfl, e1 _ _ hg, rfl, ?_⟩
    walk_at "go"
    refine ⟨g, G, rfl, hG.up e1, fun p H2 hp e2 hP => ?_⟩
    walk_at "go"
    refine ⟨p, _, rfl, .inl (SqL.of hP), ?_⟩
    walk_at "go"
    rw [List.length_map]
    have e12 := e1.trans e2
    refine ⟨_, rfl, by omega, by omega, for_range (lo := 0) (n := ((G.ns.length : Int) + 1).toNat) (fun i σ H3 => Ex H H3 ∧ DR H3 d G.ns (fun y o => KnR H3 o (knF G i y)) ∧ ∃ v2 v3 v4 v5, σ = [some (.ref g), some (.ref d), v2, v3, v4, v5]) ⟨e12, DR.new (e2 _ _ hd1) fun x => rfl, none, none, none, none, rfl⟩ ?_ ?_⟩
    · rintro i σ H3 hi ⟨e3, hD3, v2, v3, v4, v5, rfl⟩
      rw [Int.zero_add]
      walk_at "go"
      refine w_dnewK fun c H4 hc e4 hc4 => ?_
      walk_at "go"
      have hcd : c ≠ d := fun z => by
        obtain ⟨kvs, q, _⟩ := hD3
        rw [← z, hc] at q
        cases q
      refine ⟨g, dx, _, rfl, (e3.trans e4) _ _ hg, rfl, ?_⟩
      walk_at "go"
      refine ⟨g, G, rfl, hG.up (e3.trans e4), fun p5 H5 hp5 e5 hP5 => ?_⟩
      have e15 : Ex H H5 := (e3.trans e4).trans e5
      have hcn : H3 c = none := hc
      refine ⟨p5, rfl, ⟨_, SqL.of hP5⟩, for_list (K := K) (a := p5) (xs := G.ns.map sV) (fun j σ' H6 => Ex H3 H6 ∧ LAt H6 p5 G.ns ∧ DR H6 c G.ns (fun y o => KnR H6 o (if y ∈ G.ns.take j ∧ knF G i y = none then madeF G (knF G i) i y else none)) ∧ ∃ v4 v5, σ' = [some (.ref g), some (.ref d), some (nV i), some (.ref c), v4, v5]) ⟨e4.trans e5, hP5, DR.new (e5 _ _ hc4) fun x => ?_, v4, v5, rfl⟩ (fun j σ' H6 _ ⟨_, q, _⟩ => SqL.of q) ?_ ?_⟩
      · rw [List.take_zero, if_neg (by rintro ⟨q, _⟩; cases q)]
        rfl
      · rintro j y σ' H6 hj ⟨e6, hP6, hC6, v4, v5, rfl⟩
        obtain ⟨x, hx, rfl⟩ := map_at hj
        have hxn : x ∈ G.ns := List.mem_of_getElem? hx
        have hD6 := hD3.upR e6 (R' := fun y o => KnR H6 o (knF G i y)) fun y o q => q.tm (Tm.of e6)
        walk_at "go"
        refine ⟨g, d, G, knF G i, x, i, rfl, hG.up (e3.trans e6), gok, hxn, hD6, fun v H7 e7 hv => ?_⟩
        have e37 := e6.trans e7
        have hD7 := hD6.upR e7 (R' := fun y o => KnR H7 o (knF G i y)) fun y o q => q.tm (Tm.of e7)
        have hC7 := hC6.upR e7 (R' := fun y o => KnR H7 o (if y ∈ G.ns.take j ∧ knF G i y = none then madeF G (knF G i) i y else none)) fun y o q => q.tm (Tm.of e7)
        obtain ⟨o, ho, ro⟩ := hD7.get x
        have other : ∀ y, y ≠ x → (y ∈ G.ns.take (j + 1) ↔ y ∈ G.ns.take j) := fun y hy => by
          rw [tk hx, List.mem_append, List.mem_singleton]
          exact ⟨fun q => q.resolve_right hy, .inl⟩
        have here : x ∈ G.ns.take (j + 1) := by rw [tk hx]; exact List.mem_append_right _ (List.mem_singleton.mpr rfl)
        -- nothing is put
        have skip : (knF G i x ≠ none ∨ madeF G (knF G i) i x = none) → Ex H3 H7 ∧ LAt H7 p5 G.ns ∧ DR H7 c G.ns (fun y o => KnR H7 o (if y ∈ G.ns.take (j + 1) ∧ knF G i y = none then madeF G (knF G i) i y else none)) := fun z => by
          refine ⟨e37, e7 _ _ hP6, hC7.mono rfl fun y o q => ?_⟩
          by_cases hy : y = x
          · subst hy
            have nin : y ∉ G.ns.take j := fun m => by
              obtain ⟨j', hj'⟩ := List.mem_iff_getElem?.mp m
              have lt : j' < j := by
                have := lt_of_at hj'
                rw [List.length_take] at this
                omega
              rw [List.getElem?_take_of_lt lt] at hj'
              have := (List.getElem?_inj (lt_of_at hj') gok.ok.nd).mp (hj'.trans hx.symm)
              omega
            rw [if_neg fun q => nin q.1] at q
            rcases z with z | z
            · rw [if_neg fun q => z q.2]; exact q
            · split
              · rw [z]; exact q
              · exact q
          · rw [ite_iff (and_congr_left fun _ => other y hy)]
            exact q
        walk_at "go"
        refine ⟨d, o, rfl, ho, ?_⟩
        walk_at "go"
        cases hkn : knF G i x with
        | some z =>
          rw [hkn] at ro
          obtain ⟨t, rfl, _⟩ := ro
          refine brF rfl ?_
          refine brF rfl ?_
          walk_at "go"
          obtain ⟨q1, q2, q3⟩ := skip (.inl (by rw [hkn]; intro z; cases z))
          exact ⟨q1, q2, q3, _, _, rfl⟩
        | none =>
          rw [hkn] at ro
          have ro : o = none := ro
          subst ro
          refine brT rfl ?_
          walk_at "go"
          cases hmd : madeF G (knF G i) i x with
          | none =>
            rw [hmd] at hv
            have hv : v = .non := hv
            subst hv
            refine brF rfl ?_
            walk_at "go"
            obtain ⟨q1, q2, q3⟩ := skip (.inr hmd)
            exact ⟨q1, q2, q3, _, _, rfl⟩
          | some z =>
            rw [hmd] at hv
            obtain ⟨t, rfl, ht⟩ := hv
            refine brT rfl ?_
            walk_at "go"
            obtain ⟨H8, hput, hC8, o8, rfl⟩ := hC7.put (R' := fun y o => KnR H7 o (if y ∈ G.ns.take (j + 1) ∧ knF G i y = none then madeF G (knF G i) i y else none)) (x := x) (v := .ref t) hxn (by omega) (by
              rw [if_pos ⟨here, hkn⟩, hmd]
              exact ⟨t, rfl, ht⟩) (fun y o hy q => by rw [ite_iff (and_congr_left fun _ => other y hy)]; exact q)
            obtain ⟨kvs, hk, _⟩ := hC7
            have tm8 : Tm H7 (upd H7 c o8) := Tm.upd fun xs z => by rw [hk] at z; cases z
            have hpc : p5 ≠ c := fun z => by
              have := e7 _ _ hP6
              rw [z, hk] at this
              cases this
            refine ⟨c, _, rfl, hput, Ex.mut e37 hcn, ?_, hC8.mono rfl (fun x o z => z.tm tm8), _, _, rfl⟩
            show upd H7 c o8 p5 = _
            rw [upd_ne hpc]
            exact e7 _ _ hP6
      · rintro σ' H6 ⟨e6, hP6, hC6, v4, v5, rfl⟩
        rw [List.length_map, List.take_length] at hC6
        have hD6 := hD3.upR e6 (R' := fun y o => KnR H6 o (knF G i y)) fun y o q => q.tm (Tm.of e6)
        obtain ⟨kvs, hk1, hk2, hk3, hk4⟩ := hD6
        obtain ⟨more, hm1, hm2, hm3, hm4⟩ := hC6
        have l1 := dr_len hk2 hk3
        have l2 := dr_len hm2 hm3
        walk_at "go"
        refine ⟨.inr (.inr (.inl ⟨rfl, .inl ⟨_, hk1⟩⟩)), ?_⟩
        walk_at "go"
        refine ⟨d, c, kvs, more, rfl, rfl, hk1, hm1, fun z => hcd z.symm, szs (by omega), ?_⟩
        have tm7 : Tm H6 (upd H6 d (.dK (mergeK kvs more))) := Tm.upd fun xs z => by rw [hk1] at z; cases z
        refine ⟨Ex.mut (e3.trans e6) hd, ⟨mergeK kvs more, upd_same, mergeK_nd hk2, mergeK_in hk3 hm3, fun y => ?_⟩, _, _, _, _, rfl⟩
        rw [valV_merge hm2]
        have h1 : KnR H6 (valV kvs (Sum.inr y)) (knF G i y) := hk4 y
        have h2 : KnR H6 (valV more (Sum.inr y)) (if y ∈ G.ns ∧ knF G i y = none then madeF G (knF G i) i y else none) := hm4 y
        show KnR _ _ (nextK G (knF G i) i y)
        unfold nextK
        cases hky : knF G i y with
        | some z =>
          rw [hky] at h1
          rw [if_neg (by rintro ⟨_, q⟩; rw [hky] at q; cases q)] at h2
          have h2 : valV more (Sum.inr y) = none := h2
          rw [h2]
          exact KnR.tm (e := some z) h1 tm7
        | none =>
          rw [hky] at h1
          have h1 : valV kvs (Sum.inr y) = none := h1
          by_cases hy : y ∈ G.ns
          · rw [if_pos ⟨hy, hky⟩] at h2
            show KnR _ _ (if y ∈ G.ns then madeF G (knF G i) i y else none)
            rw [if_pos hy]
            cases hmd : madeF G (knF G i) i y with
            | none =>
              rw [hmd] at h2
              have h2 : valV more (Sum.inr y) = none := h2
              rw [h2, h1]
              rfl
            | some z =>
              rw [hmd] at h2
              obtain ⟨t, ht1, ht2⟩ := h2
              rw [ht1]
              exact ⟨t, rfl, ht2.tm tm7⟩
          · rw [if_neg fun q => hy q.1] at h2
            have h2 : valV more (Sum.inr y) = none := h2
            show KnR _ _ (if y ∈ G.ns then madeF G (knF G i) i y else none)
            rw [if_neg hy, h2, h1]
            rfl
    · rintro σ H3 ⟨e3, hD3, v2, v3, v4, v5, rfl⟩
      have en : ((G.ns.length : Int) + 1).toNat = G.ns.length + 1 := by omega
      rw [en] at hD3
      have hD3 : DR H3 d G.ns (fun y o => KnR H3 o (tabF G y)) := hD3
      walk_at "go"
      refine ⟨g, dx, _, rfl, e3 _ _ hg, rfl, ?_⟩
      walk_at "go"
      refine ⟨g, G, rfl, hG.up e3, fun p4 H4 hp4 e4 hP4 => ?_⟩
      refine ⟨p4, rfl, ⟨_, SqL.of hP4⟩, lc_L (K := K) (SqL.of hP4) (fun i ys H' => ∃ us : List Addr, ys = us.map V.ref ∧ Paired (PrAt (tabF G) H') us (G.ns.take i)) (fun i ys H H' q ⟨us, h1, h2⟩ => ⟨us, h1, Paired.mapP h2 fun _ _ z => PrAt.tm z q⟩) ⟨[], rfl, .nil⟩ (by rw [List.length_map]; omega) ?_ ?_⟩
      · rintro i y ys H5 hi e5 ⟨us, rfl, hus⟩ N M hN hM
        obtain ⟨x, hx, rfl⟩ := map_at hi
        walk_at "go"
        refine ⟨rfl, ?_⟩
        walk_at "go"
        refine brT rfl ?_
        walk_at "go"
        have hD5 := hD3.upR (e4.trans e5) (R' := fun y o => KnR H5 o (tabF G y)) fun y o q => q.tm (Tm.of (e4.trans e5))
        refine ⟨d, rfl, hD5.isD, ?_⟩
        walk_at "go"
        refine ⟨szs (show 2 ≤ 100000 by decide), w_new fun q H6 hq e6 h6 => ?_⟩
        have hD6 := hD5.upR e6 (R' := fun y o => KnR H6 o (tabF G y)) fun y o q => q.tm (Tm.of e6)
        obtain ⟨o, ho, ro⟩ := hD6.get x
        refine ⟨o, ho, ?_⟩
        have ht : ∃ t, o.getD (.ref q) = .ref t ∧ EnAt H6 t (tabF G x) := by
          cases e : tabF G x with
          | none =>
            rw [e] at ro
            have ro : o = none := ro
            subst ro
            exact ⟨q, rfl, h6⟩
          | some z =>
            rw [e] at ro
            obtain ⟨t, rfl, ht⟩ := ro
            exact ⟨t, rfl, ht⟩
        obtain ⟨t, et, ht⟩ := ht
        rw [et]
        walk_at "go"
        refine ⟨szs (show 2 ≤ 100000 by decide), w_new fun u H7 hu7 e7 h7 => ?_⟩
        refine hN _ _ (e6.trans e7) ⟨us ++ [u], by rw [List.map_append]; rfl, ?_⟩
        rw [tk hx]
        exact (Paired.mapP hus fun _ _ z => PrAt.tm z (Tm.of (e6.trans e7))).snoc ⟨t, h7, ht.tm (Tm.of e7)⟩
      · rintro D ys H5 hDn e5 hD5 _ ⟨us, rfl, hus⟩
        walk_at "go"
        rw [List.length_map, List.take_length] at hus
        obtain ⟨kvs, a1, a2, a3⟩ := prs_kvs (K := K) hus
        refine ⟨D, us, kvs, rfl, SqL.of hD5, a2, w_new fun p6 H6 hp6 e6 h6 => ?_⟩
        have nd' : (kvs.map (·.1)).Nodup := by
          rw [a1]
          unfold List.Nodup
          rw [List.pairwise_map]
          exact gok.ok.nd.imp fun h e => h (Sum.inr.inj e)
        refine k p6 H6 (Evl.fresh_back ((e3.trans e4).trans e5) hp6) ((e3.trans e4).trans (e5.trans e6)) ⟨_, h6, mergeK_in (fun q hq => by cases hq) (fun q hq => ?_), fun x hx => ?_⟩
        · have : q.1 ∈ kvs.map (·.1) := List.mem_map.mpr ⟨q, hq, rfl⟩
          rw [a1] at this
          obtain ⟨x, hx, e⟩ := List.mem_map.mp this
          exact ⟨x, hx, e.symm⟩
        · obtain ⟨t, ht1, ht2⟩ := a3 x hx gok.ok.nd
          rw [valV_merge nd', ht1]
          exact ⟨t, rfl, ht2.tm (Tm.of e6)⟩
end
end K96

set_option Elab.async false
set_option linter.all false
set_option maxRecDepth 100000
set_option maxHeartbeats 4000000
/-! K96J: best_moves; the law's look at single places. -/
namespace K96
open PySem PySem.Spec PyProof.Rows L2 LamX NdefX
open Evl (Ex)
open K96M (Gr)
local macro_rules | `(tactic| walk_at "go") => `(tactic| repeat (first
  | with_reducible refine w_seq ?_
  | with_reducible refine w_asg ?_
  | with_reducible refine w_name ?_
  | with_reducible refine w_var rfl ?_
  | with_reducible refine w_c ?_
  | with_reducible refine w_op ?_
  | with_reducible refine w_I0 ?_
  | with_reducible refine w_drop ?_
  | with_reducible refine w_ret ?_
  | with_reducible refine w_if ?_
  | with_reducible refine w_next ?_
  | with_reducible refine w_test ?_
  | with_reducible refine w_B ?_
  | with_reducible refine w_bl ?_
  | with_reducible refine w_not ?_
  | with_reducible refine w_and ?_
  | with_reducible refine w_or ?_
  | with_reducible refine w_andV ?_
  | with_reducible refine w_orV ?_
  | with_reducible refine w_notV ?_
  | with_reducible refine w_cons ?_
  | with_reducible refine w_nil ?_
  | with_reducible refine w_cb ?_
  | with_reducible refine w_call ?_
  | with_reducible refine w_isN ?_
  | with_reducible refine w_notN ?_
  | with_reducible refine w_chain ?_
  | with_reducible refine w_sl ?_
  | with_reducible refine w_nopart ?_
  | with_reducible refine w_tupT ?_
  | with_reducible refine w_lstT ?_
  | with_reducible refine w_eq rfl ?_
  | with_reducible refine w_ne rfl ?_
  | with_reducible refine w_for ?_
  | with_reducible refine w_iL ?_
  | with_reducible refine w_iT ?_
  | with_reducible refine w_iR1 ?_
  | with_reducible refine w_iR2 ?_
  | with_reducible refine w_iE ?_
  | with_reducible refine w_iS ?_
  | with_reducible refine w_lc ?_
  | with_reducible refine w_nm ?_
  | with_reducible refine w_din ?_
  | with_reducible refine w_dnotin ?_
  | with_reducible refine w_dput ?_
  | with_reducible refine w_dget1 ?_
  | with_reducible refine w_dget2 ?_
  | with_reducible refine w_bm ?_
  | with_reducible refine w_bm0 ?_
  | with_reducible refine w_sfld ?_
  | with_reducible refine w_make ?_
  | with_reducible refine w_part ?_
  | with_reducible refine w_aug rfl ?_
  | with_reducible refine w_ip ?_
  | with_reducible refine w_yes ?_
  | with_reducible refine w_gcs ?_
  | with_reducible refine w_gnil ?_
  | with_reducible refine w_dget ?_
  | with_reducible refine w_fld ?_
  | with_reducible refine w_meth ?_))
local macro_rules | `(tactic| walk_at "ex") => `(tactic| repeat (first | assumption | exact Ex.refl _ | refine Ex.trans ?_ (by assumption)))
/-- what a word becomes -/
def abF (w : Str) : Str := if w = "won" then "lost" else if w = "lost" then "won" else "drawn"
theorem ab_w : abF "won" = "lost" := if_pos rfl
theorem ab_l : abF "lost" = "won" := by
  unfold abF
  rw [if_neg s_lw, if_pos rfl]
theorem ab_d : abF "drawn" = "drawn" := by
  unfold abF
  rw [if_neg fun q => s_wd q.symm, if_neg fun q => s_ld q.symm]
theorem wl_b {K : PySem.W.Frag} {H : Hp} {q : Addr} {b : Bool} {Q : VK} (hq : H q = some (.lst [.str "won", .str "lost"])) (k : Q (.str (if b = true then "lost" else "won")) H) : rIxL K (.ref q) (.int (if b = true then 1 else 0)) H Q := by
  cases b with
  | true => exact w_ixL (SqL.of hq) (atI_nat (j := 1) rfl) k
  | false => exact w_ixL (SqL.of hq) (atI_nat (j := 0) rfl) k
section
variable {P : Program} {w : World} {K : PySem.W.Frag} {mg : Str → Option Value} {base : Heap}
def sp_best_moves (K : PySem.W.Frag) : Sp := fun vs H Q _ => ∃ (g : Addr) (G : G0) (x : Str), vs = [.ref g, .str x] ∧ GAt K H g G ∧ GOk G ∧ x ∈ G.ns ∧
  ∀ p H2 ys, Ex H H2 → LAt H2 p ys → (∀ y ∈ ys, y ∈ G.rd x ∧ wdF (tabF G y) = abF (wdF (tabF G x))) → ys.length ≤ 14 → Q (.ref p) H2
theorem sc_best_moves : FnScope ["ground", "name", "roads", "table", "word", "moves", "due", "other"] ["ground", "name"] (defScope s_best_moves) := ⟨rfl, rfl, rfl, by decide +kernel, rfl, by decide +kernel, by decide +kernel⟩
theorem D_best_moves (T : Tx K mg) : Def P w K mg base 4 (He.ga K "best_moves") ["ground", "name"] (sp_best_moves K) := by
  refine Def.make T (d := d_best_moves) 53 rfl rfl rfl sc_best_moves (fun _ _ _ _ _ _ us hl => match us, hl with | [_, _], _ => rfl) (fun vs H Q E h => ?_) (fun cdv A outer s H vs Q E hr h => ?_)
  · obtain ⟨g, G, x, rfl, _⟩ := h
    rfl
  · obtain ⟨g, G, x, rfl, hG, gok, hx, k⟩ := h
    have nd := sc_best_moves.nd
    have hu := hu_of hr
    have hfew := gok.few x hx
    refine ⟨_, (pss_cons (ps_set (i := 2) nd rfl (Or.inl rfl) (pe_methX (D_Ground_roads_from T) (hr.mono (by decide)) T.c_Ground T.m_Ground_roads_from (pv 0) (pa_cons (pv 1) pa_nil)))
    (pss_cons (ps_set (i := 3) nd rfl (Or.inr rfl) (pe_callX (D_table_of T) (hr.mono (by decide)) rfl T.g_table_of (pa_cons (pv 0) pa_nil)))
    (pss_cons (ps_asg (pe_dget hu (pv 3) (pv 1) (fun _ _ => rfl)) (pg_tup rfl (pgs_cons (pg_name (i := 4) nd rfl (Or.inl rfl)) (pgs_cons (pg_name (i := 5) nd rfl (Or.inl rfl)) pgs_nil))))
    (pss_cons (ps_if (pt_cmpR op_eq (pv 4) pe_str (nomark _)) (pss_one (ps_ret (pe_lc (own := [("other", 7)]) rfl nd (pi_list (pv 2)) (blkOk_by (N := ["ground", "name", "roads", "table", "word", "moves", "due", "other"]) (sc := defScope s_best_moves) (by decide +kernel)) (fun _ _ _ _ _ => (pg_name (i := 7) nd rfl (Or.inl rfl))) (fun _ _ _ _ _ => (pts_one (pt_cmpR op_eq (pe_ix (r := rIxT K) ix_tup (pe_dget hu (pv 3) (pv 7) (fun _ _ => rfl)) pe_int (fun _ _ => rfl)) pe_str (nomark _)))) (fun _ _ _ _ _ => (pv 7))))) pss_nil)
    (pss_cons (ps_set (i := 6) nd rfl (Or.inr rfl) (PE.nm (pe_tup (pa_cons (pe_ix ix_list (PE.nm (pe_lst (pa_cons pe_str (pa_cons pe_str pa_nil)))) (pe_callTy call_int1 (by rfl) T.f_int (by decide +kernel) (pa_cons (pe_cmpR op_eq (pv 4) pe_str (nomark _)) pa_nil)) (fun _ _ => rfl)) (pa_cons (pe_op op_sub (pv 5) pe_int) pa_nil)))))
    (pss_one (ps_ret (pe_lc (own := [("other", 7)]) rfl nd (pi_list (pv 2)) (blkOk_by (N := ["ground", "name", "roads", "table", "word", "moves", "due", "other"]) (sc := defScope s_best_moves) (by decide +kernel)) (fun _ _ _ _ _ => (pg_name (i := 7) nd rfl (Or.inl rfl))) (fun _ _ _ _ _ => (pts_one (pt_cmpR (r := rEqD K) (op_eqD hr.units) (pe_dget hu (pv 3) (pv 7) (fun _ _ => rfl)) (pv 6) (nomark _)))) (fun _ _ _ _ _ => (pv 7)))))))))), ?_⟩
    walk_at "go"
    obtain ⟨dx, _, _, hg, _⟩ := id hG
    refine ⟨g, dx, _, rfl, hg, rfl, ?_⟩
    walk_at "go"
    refine ⟨g, G, x, rfl, hG, hx, fun p H1 hp e1 hP => ?_⟩
    walk_at "go"
    refine ⟨g, G, rfl, hG.up e1, gok, fun d H2 hd e2 hT => ?_⟩
    walk_at "go"
    have e12 := e1.trans e2
    obtain ⟨t, ht, hte⟩ := hT.get hx
    refine ⟨d, _, rfl, ht, ?_⟩
    refine w_gtup ⟨t, _, rfl, SqT.of hte, rfl, ?_⟩
    walk_at "go"
    rw [dec_str]
    have hP2 : LAt H2 p (G.rd x) := e2 _ _ hP
    by_cases z : wdF (tabF G x) = "drawn"
    · refine brT (decide_eq_true z) ?_
      walk_at "go"
      refine ⟨p, rfl, ⟨_, SqL.of hP2⟩, lc_L (K := K) (SqL.of hP2) (fun i ys H' => ∃ xs : List Str, ys = xs.map sV ∧ ∀ y ∈ xs, y ∈ G.rd x ∧ wdF (tabF G y) = "drawn") (fun _ _ _ _ _ q => q) ⟨[], rfl, fun y hy => by cases hy⟩ (by rw [List.length_map]; omega) ?_ ?_⟩
      · rintro i y ys H3 hi e3 ⟨xs, rfl, hxs⟩ N M hN hM
        obtain ⟨b, hb, rfl⟩ := map_at hi
        have hbr : b ∈ G.rd x := List.mem_of_getElem? hb
        walk_at "go"
        refine ⟨rfl, ?_⟩
        walk_at "go"
        obtain ⟨u, hu1, hub⟩ := (hT.up e3).get (gok.ok.cl x hx b hbr)
        refine ⟨d, _, rfl, hu1, ?_⟩
        walk_at "go"
        refine w_ixT (SqT.of hub) (v := .str (wdF (tabF G b))) rfl ?_
        walk_at "go"
        rw [dec_str]
        refine br (fun y => ?_) (fun y => ?_)
        · walk_at "go"
          refine hN _ _ (Ex.refl _) ⟨xs ++ [b], by rw [List.map_append]; rfl, fun c hc => ?_⟩
          rcases List.mem_append.mp hc with q | q
          · exact hxs c q
          · rw [List.mem_singleton.mp q]
            exact ⟨hbr, of_decide_eq_true y⟩
        · exact hM _ (Ex.refl _) ⟨xs, rfl, hxs⟩
      · rintro D ys H3 hDn e3 hD3 hyl ⟨xs, rfl, hxs⟩
        rw [List.length_map, List.length_map] at hyl
        exact k D H3 xs (e12.trans e3) hD3 (fun y hy => ⟨(hxs y hy).1, by rw [z, ab_d]; exact (hxs y hy).2⟩) (by omega)
    · refine brF (decide_eq_false z) ?_
      walk_at "go"
      refine ⟨szs (show 2 ≤ 100000 by decide), w_new fun q H3 hq e3 h3 => ?_⟩
      walk_at "go"
      refine .inr ⟨_, rfl, ?_⟩
      refine wl_b h3 ?_
      walk_at "go"
      obtain ⟨c, n, hc⟩ : ∃ c n, tabF G x = some (c, n) := by
        cases q : tabF G x with
        | none => rw [q] at z; exact absurd rfl z
        | some v => exact ⟨v.1, v.2, rfl⟩
      have hmv : mvV (tabF G x) = nV n := by rw [hc]; rfl
      rw [hmv]
      walk_at "go"
      have due : (if decide (V.str (wdF (tabF G x)) = V.str "won") = true then ("lost" : Str) else "won") = abF (wdF (tabF G x)) := by
        rw [dec_str, hc]
        cases c with
        | true =>
          show (if decide (("won" : Str) = "won") = true then ("lost" : Str) else "won") = abF "won"
          rw [decide_eq_true rfl, if_pos rfl, ab_w]
        | false =>
          show (if decide (("lost" : Str) = "won") = true then ("lost" : Str) else "won") = abF "lost"
          rw [decide_eq_false s_lw, if_neg Bool.false_ne_true, ab_l]
      rw [due]
      refine ⟨szs (show 2 ≤ 100000 by decide), w_new fun u H4 hu4 e4 h4 => ?_⟩
      walk_at "go"
      have e24 := e3.trans e4
      have hlay : (PyData.str (abF (wdF (tabF G x)))).canLay0 = true := by
        rw [hc]
        cases c with
        | true => show (PyData.str (abF "won")).canLay0 = true; rw [ab_w]; exact lay_l
        | false => show (PyData.str (abF "lost")).canLay0 = true; rw [ab_l]; exact lay_w
      refine ⟨p, rfl, ⟨_, SqL.of (e24 _ _ hP2)⟩, lc_L (K := K) (SqL.of (e24 _ _ hP2)) (fun i ys H' => ∃ xs : List Str, ys = xs.map sV ∧ ∀ y ∈ xs, y ∈ G.rd x ∧ wdF (tabF G y) = abF (wdF (tabF G x))) (fun _ _ _ _ _ q => q) ⟨[], rfl, fun y hy => by cases hy⟩ (by rw [List.length_map]; omega) ?_ ?_⟩
      · rintro i y ys H5 hi e5 ⟨xs, rfl, hxs⟩ N M hN hM
        obtain ⟨b, hb, rfl⟩ := map_at hi
        have hbr : b ∈ G.rd x := List.mem_of_getElem? hb
        walk_at "go"
        refine ⟨rfl, ?_⟩
        walk_at "go"
        obtain ⟨v, hv1, hvb⟩ := (hT.up (e24.trans e5)).get (gok.ok.cl x hx b hbr)
        refine ⟨d, _, rfl, hv1, ?_⟩
        walk_at "go"
        refine ⟨enD (tabF G b), .tuple [.str (abF (wdF (tabF G x))), .int ((n : Int) - 1)], dp_en hvb, .tup (SqT.of (e5 _ _ h4)) (.cons (.str _) (.cons (.int _) .nil)), en_shaped _, ?_, ?_⟩
        · refine shaped_tup (fun d hd => ?_) fun d hd => ?_
          · rcases List.mem_cons.mp hd with q | q
            · rw [q]; exact hlay
            · rw [List.mem_singleton.mp q]; rfl
          · rcases List.mem_cons.mp hd with q | q
            · rw [q]; exact Nat.zero_le _
            · rw [List.mem_singleton.mp q]; exact Nat.zero_le _
        walk_at "go"
        refine br (fun y => ?_) (fun y => ?_)
        · walk_at "go"
          have y : ((wdF (tabF G b) == abF (wdF (tabF G x))) && (PyData.eqv (mvD (tabF G b)) (.int ((n : Int) - 1)) && true)) = true := y
          have y1 := beq_iff_eq.mp (Bool.and_eq_true_iff.mp y).1
          refine hN _ _ (Ex.refl _) ⟨xs ++ [b], by rw [List.map_append]; rfl, fun c hc => ?_⟩
          rcases List.mem_append.mp hc with q | q
          · exact hxs c q
          · rw [List.mem_singleton.mp q]
            exact ⟨hbr, y1⟩
        · exact hM _ (Ex.refl _) ⟨xs, rfl, hxs⟩
      · rintro D ys H5 hDn e5 hD5 hyl ⟨xs, rfl, hxs⟩
        rw [List.length_map, List.length_map] at hyl
        exact k D H5 xs (e12.trans (e24.trans e5)) hD5 hxs (by omega)
/-! ### the law's look -/
def abK : List (Key × V) := [(.inr "won", .str "lost"), (.inr "lost", .str "won"), (.inr "drawn", .str "drawn")]
theorem merge_ab : mergeK [] abK = abK := by
  unfold mergeK abK putK
  simp [s_lw, fun q : ("won" : Str) = "lost" => s_lw q.symm, s_ld, s_wd]
  decide +kernel
theorem k_wl : ¬ (Sum.inr "won" : Key) = (Sum.inr "lost" : Key) := by decide +kernel
theorem k_wd : ¬ (Sum.inr "won" : Key) = (Sum.inr "drawn" : Key) := by decide +kernel
theorem k_ld : ¬ (Sum.inr "lost" : Key) = (Sum.inr "drawn" : Key) := by decide +kernel
theorem ab_get (e : En) : valV abK (Sum.inr (wdF e)) = some (.str (abF (wdF e))) := by
  cases e with
  | none =>
    show valV abK (Sum.inr "drawn") = some (.str (abF "drawn"))
    rw [ab_d]
    exact ((valV_neg k_wd).trans (valV_neg k_ld)).trans (valV_pos rfl)
  | some z =>
    obtain ⟨b, m⟩ := z
    cases b with
    | true =>
      show valV abK (Sum.inr "won") = some (.str (abF "won"))
      rw [ab_w]
      exact valV_pos rfl
    | false =>
      show valV abK (Sum.inr "lost") = some (.str (abF "lost"))
      rw [ab_l]
      exact (valV_neg k_wl).trans (valV_pos rfl)
def sp_single_right (K : PySem.W.Frag) : Sp := fun vs H Q _ => ∃ (g : Addr) (G : G0), vs = [.ref g] ∧ GAt K H g G ∧ GOk G ∧ Txt G ∧ ∀ H2, Q (.bl true) H2
theorem sc__law_single_right : FnScope ["_law_ground", "_law_table", "_law_about", "_law_name", "_law_place"] ["_law_ground"] (defScope s__law_single_right) := ⟨rfl, rfl, rfl, by decide +kernel, rfl, by decide +kernel, by decide +kernel⟩
theorem D__law_single_right (T : Tx K mg) : Def P w K mg base 10 (He.ga K "_law_single_right") ["_law_ground"] (sp_single_right K) := by
  refine Def.make T (d := d__law_single_right) 64 rfl rfl rfl sc__law_single_right (fun _ _ _ _ _ _ us hl => match us, hl with | [_], _ => rfl) (fun vs H Q E h => ?_) (fun cdv A outer s H vs Q E hr h => ?_)
  · obtain ⟨g, G, rfl, _⟩ := h
    rfl
  · obtain ⟨g, G, rfl, hG, gok, tx, k⟩ := h
    have nd := sc__law_single_right.nd
    have hu := hu_of hr
    refine ⟨_, (pss_cons (ps_set (i := 1) nd rfl (Or.inl rfl) (pe_callX (D_table_of T) (hr.mono (by decide)) rfl T.g_table_of (pa_cons (pv 0) pa_nil)))
    (pss_cons (ps_set (i := 2) nd rfl (Or.inl rfl) (PE.nm (pe_disp (pps_cons pe_str pe_str (pps_cons pe_str pe_str (pps_cons pe_str pe_str pps_nil))) (by rfl) (by rfl) (fun z => by cases z) (by decide))))
    (pss_cons (ps_lock (ps_for PassesOwn.never rfl (pi_keys (pv 1)) (pg_name (i := 3) nd rfl (Or.inl rfl))
    (pss_cons (ps_if (pt_cmpR op_ne (pe_ix ix_tup (pe_dget hu (pv 1) (pv 3) (fun _ _ => rfl)) pe_int (fun _ _ => rfl)) (pe_callX (D_outcome T) (hr.mono (by decide)) rfl T.g_outcome (pa_cons (pv 0) (pa_cons (PE.nm (pe_lst (pa_cons (pv 3) pa_nil))) pa_nil))) (nomark _)) (pss_one (ps_ret pe_bl)) pss_nil)
    (pss_one (ps_for PassesOwn.never rfl (pi_list (pe_callX (D_best_moves T) (hr.mono (by decide)) rfl T.g_best_moves (pa_cons (pv 0) (pa_cons (pv 3) pa_nil)))) (pg_name (i := 4) nd rfl (Or.inl rfl))
    (pss_one (ps_if (pt_cmpR op_ne (pe_callX (D_outcome T) (hr.mono (by decide)) rfl T.g_outcome (pa_cons (pv 0) (pa_cons (PE.nm (pe_lst (pa_cons (pv 4) pa_nil))) pa_nil))) (pe_dget hu (pv 2) (pe_ix ix_tup (pe_dget hu (pv 1) (pv 3) (fun _ _ => rfl)) pe_int (fun _ _ => rfl)) (fun _ _ => rfl)) (nomark _)) (pss_one (ps_ret pe_bl)) pss_nil)))))))
    (pss_one (ps_ret pe_bl))))), ?_⟩
    walk_at "go"
    refine ⟨g, G, rfl, hG, gok, fun d H1 hdn e1 hT => ?_⟩
    walk_at "go"
    intro ab hab
    refine w_pc ?_
    walk_at "go"
    refine w_pc ?_
    walk_at "go"
    refine w_pc ?_
    walk_at "go"
    refine w_pn ?_
    refine ⟨upd_same, abK, rfl, (by show 3 ≤ 15; decide), fun H2 e2 => ?_⟩
    rw [merge_ab, upd_upd] at e2
    have e12 : Ex H1 H2 := by rw [e2]; exact Ex.new hab
    have hab2 : H2 ab = some (.dK abK) := by rw [e2]; exact upd_same
    walk_at "go"
    obtain ⟨kvs, hk1, hk2, hk3⟩ := hT.up e12
    have hda : ab ≠ d := fun z => by
      obtain ⟨_, q, _⟩ := hT
      rw [z] at hab
      rw [hab] at q
      cases q
    refine ⟨d, _, hk1, trivial, fun od => ?_⟩
    have eL : Ex H (upd H2 d (.frz od (.dK kvs))) := Ex.mut (e1.trans e12) hdn
    have tmL : Tm H2 (upd H2 d (.frz od (.dK kvs))) := Tm.upd fun xs z => by rw [hk1] at z; cases z
    have habL : (upd H2 d (.frz od (.dK kvs))) ab = some (.dK abK) := by rw [upd_ne hda]; exact hab2
    have hdL : (upd H2 d (.frz od (.dK kvs))) d = some (.frz od (.dK kvs)) := upd_same
    have hkL : ∀ x ∈ G.ns, ∃ t, valV kvs (Sum.inr x) = some (.ref t) ∧ EnAt (upd H2 d (.frz od (.dK kvs))) t (tabF G x) := fun x hx => let ⟨t, a, b⟩ := hk3 x hx; ⟨t, a, b.tm tmL⟩
    generalize upd H2 d (.frz od (.dK kvs)) = H3 at eL habL hdL hkL
    have get : ∀ {H4 : Hp} {x : Str}, Ex H3 H4 → x ∈ G.ns → ∃ t, DGet H4 d (.str x) (some (.ref t)) ∧ EnAt H4 t (tabF G x) := fun {H4 x} e hx => by
      obtain ⟨t, a, b⟩ := hkL x hx
      refine ⟨t, .inl ⟨kvs, Sum.inr x, .inr ⟨od, e _ _ hdL⟩, rfl, a.symm⟩, b.tm (Tm.of e)⟩
    walk_at "go"
    refine ⟨.ref d, rfl, d, od, rfl, .inl ⟨kvs, hdL, for_it (walk_keys (d := d) (o := od) (kvs := kvs)) (fun i σ H4 => Ex H3 H4 ∧ ∃ v3 v4, σ = [some (.ref g), some (.ref d), some (.ref ab), v3, v4]) ⟨Ex.refl _, none, none, rfl⟩ (fun i σ H4 _ ⟨e, _⟩ => e _ _ hdL) ?_ ?_⟩⟩
    · rintro i v σ H4 H4' hi ⟨e4, v3, v4, rfl⟩ ⟨rfl, key, val, hkv, rfl⟩
      obtain ⟨x, hx, ekey⟩ := hk2 _ (List.mem_of_getElem? hkv)
      have ekey : key = Sum.inr x := ekey
      subst ekey
      show gName 3 (.str x) _ _ _
      walk_at "go"
      obtain ⟨t, ht, hte⟩ := get e4 hx
      refine ⟨d, _, rfl, ht, ?_⟩
      walk_at "go"
      refine w_ixT (SqT.of hte) (v := .str (wdF (tabF G x))) rfl ?_
      walk_at "go"
      refine ⟨szs (show 1 ≤ 100000 by decide), w_new fun l H5 hl e5 h5 => ?_⟩
      have hOx : ∀ {y}, y ∈ G.ns → HOk' G [y] := fun {y} hy => ⟨by show 1 ≤ 8; decide, fun z hz => by rw [List.mem_singleton.mp hz]; exact hy⟩
      walk_at "go"
      refine ⟨g, l, G, [x], rfl, hG.up (eL.trans (e4.trans e5)), h5, gok, tx, hOx hx, fun H6 e6 => ?_⟩
      walk_at "go"
      rw [tab_word gok hx, decide_eq_true rfl]
      refine brF rfl ?_
      walk_at "go"
      have e46 := e4.trans (e5.trans e6)
      refine ⟨g, G, x, rfl, hG.up (eL.trans e46), gok, hx, fun p H7 ys e7 hp hys hyl => ?_⟩
      have e37 := e46.trans e7
      refine ⟨p, rfl, ⟨_, SqL.of hp⟩, for_list (K := K) (a := p) (xs := ys.map sV) (fun j σ' H8 => Ex H7 H8 ∧ ∃ v4, σ' = [some (.ref g), some (.ref d), some (.ref ab), some (.str x), v4]) ⟨Ex.refl _, v4, rfl⟩ (fun j σ' H8 _ ⟨e, _⟩ => SqL.of (e _ _ hp)) ?_ ?_⟩
      · rintro j y σ' H8 hj ⟨e8, v4, rfl⟩
        obtain ⟨b, hb, rfl⟩ := map_at hj
        obtain ⟨hb1, hb2⟩ := hys b (List.mem_of_getElem? hb)
        have hbn := gok.ok.cl x hx b hb1
        walk_at "go"
        refine ⟨szs (show 1 ≤ 100000 by decide), w_new fun l2 H9 hl2 e9 h9 => ?_⟩
        have e39 := (e37.trans e8).trans e9
        walk_at "go"
        refine ⟨g, l2, G, [b], rfl, hG.up (eL.trans e39), h9, gok, tx, hOx hbn, fun H10 e10 => ?_⟩
        walk_at "go"
        obtain ⟨t2, ht2, hte2⟩ := get (e39.trans e10) hx
        refine ⟨d, _, rfl, ht2, ?_⟩
        walk_at "go"
        refine w_ixT (SqT.of hte2) (v := .str (wdF (tabF G x))) rfl ?_
        have hab10 : H10 ab = some (.dK abK) := (e39.trans e10) _ _ habL
        have gab := DGet.k (k := Sum.inr (wdF (tabF G x))) hab10
        rw [ab_get] at gab
        refine ⟨ab, _, rfl, gab, ?_⟩
        walk_at "go"
        rw [← tab_word gok hbn, hb2, decide_eq_true rfl]
        refine brF rfl ?_
        walk_at "go"
        exact ⟨(e8.trans e9).trans e10, _, rfl⟩
      · rintro σ' H8 ⟨e8, v4, rfl⟩
        exact ⟨e37.trans e8, _, _, rfl⟩
    · rintro σ H4 ⟨e4, v3, v4, rfl⟩
      refine ⟨e4 _ _ hdL, ?_⟩
      walk_at "go"
      exact k _
end
end K96

set_option Elab.async false
set_option linter.all false
set_option maxRecDepth 100000
set_option maxHeartbeats 4000000
/-! K96O: grounds made of rows. -/
namespace K96
open PySem PySem.Spec PyProof.Rows L2 LamX NdefX
open Evl (Ex)
open K96M (Gr)
local macro_rules | `(tactic| walk_at "go") => `(tactic| repeat (first
  | with_reducible refine w_seq ?_
  | with_reducible refine w_asg ?_
  | with_reducible refine w_name ?_
  | with_reducible refine w_var rfl ?_
  | with_reducible refine w_c ?_
  | with_reducible refine w_op ?_
  | with_reducible refine w_I0 ?_
  | with_reducible refine w_drop ?_
  | with_reducible refine w_ret ?_
  | with_reducible refine w_if ?_
  | with_reducible refine w_next ?_
  | with_reducible refine w_test ?_
  | with_reducible refine w_B ?_
  | with_reducible refine w_bl ?_
  | with_reducible refine w_not ?_
  | with_reducible refine w_and ?_
  | with_reducible refine w_or ?_
  | with_reducible refine w_andV ?_
  | with_reducible refine w_orV ?_
  | with_reducible refine w_notV ?_
  | with_reducible refine w_cons ?_
  | with_reducible refine w_nil ?_
  | with_reducible refine w_cb ?_
  | with_reducible refine w_call ?_
  | with_reducible refine w_isN ?_
  | with_reducible refine w_notN ?_
  | with_reducible refine w_chain ?_
  | with_reducible refine w_sl ?_
  | with_reducible refine w_nopart ?_
  | with_reducible refine w_tupT ?_
  | with_reducible refine w_lstT ?_
  | with_reducible refine w_eq rfl ?_
  | with_reducible refine w_ne rfl ?_
  | with_reducible refine w_for ?_
  | with_reducible refine w_iL ?_
  | with_reducible refine w_iT ?_
  | with_reducible refine w_iR1 ?_
  | with_reducible refine w_iR2 ?_
  | with_reducible refine w_iE ?_
  | with_reducible refine w_iS ?_
  | with_reducible refine w_lc ?_
  | with_reducible refine w_nm ?_
  | with_reducible refine w_din ?_
  | with_reducible refine w_dnotin ?_
  | with_reducible refine w_dput ?_
  | with_reducible refine w_dget1 ?_
  | with_reducible refine w_dget2 ?_
  | with_reducible refine w_bm ?_
  | with_reducible refine w_bm0 ?_
  | with_reducible refine w_sfld ?_
  | with_reducible refine w_make ?_
  | with_reducible refine w_part ?_
  | with_reducible refine w_aug rfl ?_
  | with_reducible refine w_ip ?_
  | with_reducible refine w_yes ?_
  | with_reducible refine w_gcs ?_
  | with_reducible refine w_gnil ?_
  | with_reducible refine w_dget ?_
  | with_reducible refine w_fld ?_
  | with_reducible refine w_meth ?_))
local macro_rules | `(tactic| walk_at "ex") => `(tactic| repeat (first | assumption | exact Ex.refl _ | refine Ex.trans ?_ (by assumption)))
abbrev Rw : Type := Str × List Str
structure RowsOk (rows : List Rw) : Prop where
  pos : rows ≠ []
  many : rows.length ≤ 9
  nd : (rows.map (·.1)).Nodup
  nm : ∀ r ∈ rows, nameB r.1 = true
  inn : ∀ r ∈ rows, ∀ y ∈ r.2, y ∈ rows.map (·.1)
  lnd : ∀ r ∈ rows, r.2.Nodup
  tot : (rows.map (·.2.length)).sum ≤ 40
def namesR (rows : List Rw) : List Str := rows.map (·.1)
def leadsF (rows : List Rw) (n : Str) : List Str := match rows.find? (fun (r : Rw) => r.1 == n) with
  | some r => (namesR rows).filter (fun o => decide (o ∈ r.2))
  | none => []
/-- the ground of rows -/
def gOf (rows : List Rw) : G0 := ⟨namesR rows, leadsF rows⟩
theorem find_nd : ∀ {rows : List Rw} {r : Rw}, (rows.map (·.1)).Nodup → r ∈ rows → rows.find? (fun q => q.1 == r.1) = some r
  | [], _, _, h => by cases h
  | a :: t, r, nd, h => by
    have nd' := List.nodup_cons.mp nd
    rw [List.find?_cons]
    by_cases e : a.1 = r.1
    · have : (a.1 == r.1) = true := by rw [e]; exact beq_self_eq_true _
      rw [this]
      rcases List.mem_cons.mp h with z | z
      · rw [z]
      · exact absurd (by show a.1 ∈ _; rw [e]; exact List.mem_map.mpr ⟨r, z, rfl⟩) nd'.1
    · have : (a.1 == r.1) = false := beq_eq_false_iff_ne.mpr e
      rw [this]
      exact find_nd nd'.2 ((List.mem_cons.mp h).resolve_left fun z => e (by rw [z]))
theorem rd_at {rows : List Rw} (nd : (rows.map (·.1)).Nodup) {r : Rw} (h : r ∈ rows) : (gOf rows).rd r.1 = (namesR rows).filter (fun o => decide (o ∈ r.2)) := by
  show leadsF rows r.1 = _
  unfold leadsF
  rw [find_nd nd h]
theorem leads_sub {rows : List Rw} {a b : Str} (h : b ∈ leadsF rows a) : b ∈ namesR rows := by
  unfold leadsF at h
  cases q : rows.find? (fun (r : Rw) => r.1 == a) with
  | none => rw [q] at h; cases h
  | some r => rw [q] at h; exact (List.mem_filter.mp h).1
theorem leads_len (rows : List Rw) (a : Str) : (leadsF rows a).length ≤ rows.length := by
  unfold leadsF
  cases q : rows.find? (fun (r : Rw) => r.1 == a) with
  | none => exact Nat.zero_le _
  | some r =>
    have h1 := List.length_filter_le (fun o => decide (o ∈ r.2)) (namesR rows)
    have h2 : (namesR rows).length = rows.length := List.length_map ..
    rw [h2] at h1
    exact h1
theorem gok_of {rows : List Rw} (ok : RowsOk rows) : GOk (gOf rows) := by
  have h2 : (namesR rows).length = rows.length := List.length_map ..
  have hm := ok.many
  refine ⟨⟨ok.nd, fun a _ b hb => leads_sub hb⟩, fun e => ok.pos (List.map_eq_nil_iff.mp (show rows.map (·.1) = [] from e)), ?_, fun a _ => ?_⟩
  · show (namesR rows).length ≤ 9
    omega
  · show (leadsF rows a).length ≤ 14
    have := leads_len rows a
    omega
theorem name_parts {z : Str} (h : nameB z = true) : 1 ≤ z.length ∧ z.length ≤ 8 ∧ ∀ c ∈ z.cps.toList, c ∈ LET := by
  unfold nameB at h
  simp only [Bool.and_eq_true, decide_eq_true_eq, List.all_eq_true] at h
  exact ⟨h.1, h.2.1, fun c hc => h.2.2 c hc⟩
theorem let_lt : ∀ c ∈ LET, 97 ≤ c ∧ c ≤ 122 := by decide +kernel
theorem name_lay {z : Str} (h : nameB z = true) : (PyData.str z).canLay0 = true := by
  show z.cps.all (· < 0x110000) = true
  rw [Array.all_eq_true']
  intro c hc
  have := let_lt c ((name_parts h).2.2 c (Array.mem_toList_iff.mpr hc))
  exact decide_eq_true (by omega)
theorem txt_of {rows : List Rw} (ok : RowsOk rows) : Txt (gOf rows) := fun a ha => by
  obtain ⟨r, hr, rfl⟩ := List.mem_map.mp ha
  exact name_lay (ok.nm r hr)
/-- a row at t -/
def RowAt (H : Hp) (t : Addr) (r : Rw) : Prop := ∃ u, H t = some (.tup [.str r.1, .ref u]) ∧ H u = some (.tup (r.2.map sV))
theorem RowAt.tm {H H' : Hp} {t : Addr} {r : Rw} (h : RowAt H t r) (e : Tm H H') : RowAt H' t r := by
  obtain ⟨u, h1, h2⟩ := h
  exact ⟨u, e _ _ h1, e _ _ h2⟩
theorem lead_name {rows : List Rw} (ok : RowsOk rows) {r : Rw} (hr : r ∈ rows) {y : Str} (hy : y ∈ r.2) : nameB y = true := by
  obtain ⟨q, hq, rfl⟩ := List.mem_map.mp (ok.inn r hr y hy)
  exact ok.nm q hq
def rwD (r : Rw) : PyData := .tuple [.str r.1, .tuple (r.2.map .str)]
theorem dp_row {K : PySem.W.Frag} {H : Hp} {t : Addr} {r : Rw} (h : RowAt H t r) : Dp K H (.ref t) (rwD r) := by
  obtain ⟨u, h1, h2⟩ := h
  exact .tup (SqT.of h1) (.cons (.str _) (.cons (.tup (SqT.of h2) (dpAll_map fun x _ => .str x)) .nil))
theorem rows_shaped {rows : List Rw} (ok : RowsOk rows) : SeqAt.shaped (.list (rows.map rwD)) = true := by
  refine shaped_list (fun d hd => ?_) fun d hd => ?_
  · obtain ⟨r, hr, rfl⟩ := List.mem_map.mp hd
    show ((PyData.str r.1).canLay0 && (PyData.canLayAll0 (r.2.map .str) && true)) = true
    rw [name_lay (ok.nm r hr), lay_all fun d hd => ?_]
    · rfl
    · obtain ⟨y, hy, rfl⟩ := List.mem_map.mp hd
      exact name_lay (lead_name ok hr hy)
  · obtain ⟨r, hr, rfl⟩ := List.mem_map.mp hd
    show max 0 (max (PyData.depthAll (r.2.map .str) + 1) 0) + 1 ≤ 60
    have : PyData.depthAll (r.2.map PyData.str) ≤ 0 := depth_all fun d hd => by
      obtain ⟨y, hy, rfl⟩ := List.mem_map.mp hd
      exact Nat.le_refl _
    omega
theorem not_before {A : Type} {xs : List A} {i : Nat} {x : A} (nd : xs.Nodup) (h : xs[i]? = some x) : x ∉ xs.take i := fun m => by
  obtain ⟨j, hj⟩ := List.mem_iff_getElem?.mp m
  have lt : j < i := by
    have := lt_of_at hj
    rw [List.length_take] at this
    omega
  rw [List.getElem?_take_of_lt lt] at hj
  have := (List.getElem?_inj (lt_of_at hj) nd).mp (hj.trans h.symm)
  omega
theorem in_false {x : Str} {ns : List Str} (h : x ∉ ns) : (if false = true then !inV (sV x) (ns.map sV) else inV (sV x) (ns.map sV)) = false := by
  rw [if_neg Bool.false_ne_true, mem_sV, decide_eq_false h]
section
variable {P : Program} {w : World} {K : PySem.W.Frag} {mg : Str → Option Value} {base : Heap}
def sp_is_row : Sp := fun vs H Q _ => ∃ (t : Addr) (r : Rw), vs = [.ref t] ∧ RowAt H t r ∧ nameB r.1 = true ∧ (∀ y ∈ r.2, nameB y = true) ∧ r.2.length ≤ 1000 ∧ ∀ H2, Ex H H2 → Q (.bl true) H2
theorem sc_is_row : FnScope ["thing", "name"] ["thing"] (defScope s_is_row) := ⟨rfl, rfl, rfl, by decide +kernel, rfl, by decide +kernel, by decide +kernel⟩
theorem D_is_row (T : Tx K mg) : Def P w K mg base 2 (He.ga K "is_row") ["thing"] sp_is_row := by
  refine Def.make T (d := d_is_row) 41 rfl rfl rfl sc_is_row (fun _ _ _ _ _ _ us hl => match us, hl with | [_], _ => rfl) (fun vs H Q E h => ?_) (fun cdv A outer s H vs Q E hr h => ?_)
  · obtain ⟨t, r, rfl, _⟩ := h
    rfl
  · obtain ⟨t, r, rfl, ⟨u, h1, h2⟩, hn, hl, hz, k⟩ := h
    have nd := sc_is_row.nd
    refine ⟨_, (pss_cons (ps_if (PW.pt (pw_or (pt_not (pt_val (pe_callB call_isi (by rfl) T.f_isinstance (by decide +kernel) (pa_cons (pv 0) (pa_cons (pe_bltn (v := .ty "tuple") (by rfl) T.f_tuple (by decide +kernel) rfl) pa_nil))))) (pw_or (pt_cmpR op_ne (pe_callB call_len_seq (by rfl) T.f_len (by decide +kernel) (pa_cons (pv 0) pa_nil)) pe_int (nomark _)) (pw_or1 (pt_not (pt_val (pe_callB call_isi (by rfl) T.f_isinstance (by decide +kernel) (pa_cons (pe_ix ix_tup (pv 0) pe_int (fun _ _ => rfl)) (pa_cons (pe_bltn (v := .ty "tuple") (by rfl) T.f_tuple (by decide +kernel) rfl) pa_nil))))))))) (pss_one (ps_ret pe_bl)) pss_nil)
    (pss_one (ps_ret (pe_and (pe_callX (D_is_name T) (hr.mono (by decide)) rfl T.g_is_name (pa_cons (pe_ix ix_tup (pv 0) pe_int (fun _ _ => rfl)) pa_nil)) (pe_one (pe_callB (cr_all rfl) (by rfl) T.f_all (by decide +kernel) (pa_cons (pe_lc (own := [("name", 1)]) rfl nd (pi_tup (pe_ix ix_tup (pv 0) pe_int (fun _ _ => rfl))) (blkOk_by (N := ["thing", "name"]) (sc := defScope s_is_row) (by decide +kernel)) (fun _ _ _ _ _ => (pg_name (i := 1) nd rfl (Or.inl rfl))) (fun _ _ _ _ _ => pts_nil) (fun _ _ _ _ _ => (pe_callX (D_is_name T) (hr.mono (by decide)) rfl T.g_is_name (pa_cons (pv 1) pa_nil)))) pa_nil))))))), ?_⟩
    walk_at "go"
    refine ⟨_, _, _, _, true, rfl, .ty "tuple", .base (.tup h1), kit_ty (by decide +kernel), ?_⟩
    walk_at "go"
    refine brF rfl ?_
    walk_at "go"
    refine ⟨t, _, rfl, .inr (SqT.of h1), ?_⟩
    walk_at "go"
    refine brF rfl ?_
    walk_at "go"
    refine w_ixT (SqT.of h1) (v := .ref u) rfl ?_
    walk_at "go"
    refine ⟨_, _, _, _, true, rfl, .ty "tuple", .base (.tup h2), kit_ty (by decide +kernel), ?_⟩
    walk_at "go"
    refine brF rfl ?_
    walk_at "go"
    refine w_ixT (SqT.of h1) (v := .str r.1) rfl ?_
    walk_at "go"
    refine ⟨r.1, rfl, (by have := (name_parts hn).2.1; omega), fun H1 e1 => ?_⟩
    rw [hn]
    refine ⟨_, rfl, brT rfl ?_⟩
    walk_at "go"
    refine w_ixT (SqT.of (e1 _ _ h1)) (v := .ref u) rfl ?_
    refine ⟨u, rfl, ⟨_, SqT.of (e1 _ _ h2)⟩, lc_T (K := K) (SqT.of (e1 _ _ h2)) (fun i ys H' => ys = (List.replicate i true).map V.bl) (fun _ _ _ _ _ q => q) rfl (by rw [List.length_map]; omega) ?_ ?_⟩
    · rintro i y ys H2 hi e2 rfl N M hN hM
      obtain ⟨x, hx, rfl⟩ := map_at hi
      have hxn := hl x (List.mem_of_getElem? hx)
      walk_at "go"
      refine ⟨rfl, ?_⟩
      walk_at "go"
      refine brT rfl ?_
      walk_at "go"
      refine ⟨x, rfl, (by have := (name_parts hxn).2.1; omega), fun H3 e3 => ?_⟩
      rw [hxn]
      refine hN _ _ e3 ?_
      rw [List.replicate_succ', List.map_append]
      rfl
    · rintro D ys H2 hDn e2 hD2 _ rfl
      walk_at "go"
      refine ⟨D, _, rfl, SqL.of hD2, ?_⟩
      have e : (List.replicate (r.2.map sV).length true).all id = true := List.all_eq_true.mpr fun b hb => by
        rw [(List.mem_replicate.mp hb).2]
        rfl
      rw [e]
      exact k H2 (e1.trans e2)
def sp_need_unlike : Sp := fun vs H Q _ => ∃ (a : Addr) (ns : List Str), vs = [.ref a] ∧ LAt H a ns ∧ ns.Nodup ∧ ns.length ≤ 1000 ∧ ∀ H2, Ex H H2 → Q .non H2
theorem sc_need_unlike : FnScope ["names", "known", "name"] ["names"] (defScope s_need_unlike) := ⟨rfl, rfl, rfl, by decide +kernel, rfl, by decide +kernel, by decide +kernel⟩
theorem D_need_unlike (T : Tx K mg) : Def P w K mg base 1 (He.ga K "need_unlike") ["names"] sp_need_unlike := by
  refine Def.make T (d := d_need_unlike) 42 rfl rfl rfl sc_need_unlike (fun _ _ _ _ _ _ us hl => match us, hl with | [_], _ => rfl) (fun vs H Q E h => ?_) (fun cdv A outer s H vs Q E hr h => ?_)
  · obtain ⟨a, ns, rfl, _⟩ := h
    rfl
  · obtain ⟨a, ns, rfl, hL, hnd, hz, k⟩ := h
    have nd := sc_need_unlike.nd
    refine ⟨_, (pss_cons (ps_set (i := 1) nd rfl (Or.inl rfl) (PE.nm (pe_lst pa_nil)))
    (pss_one (ps_for PassesOwn.never rfl (pi_list (pv 0)) (pg_name (i := 2) nd rfl (Or.inl rfl))
    (pss_cons (ps_if (pt_cmpR op_in_seq (pv 2) (pv 1) rfl) (pss_one ps_never) pss_nil)
    (pss_one (ps_expr (pe_bm PySem.F.plainAttrs_list PySem.F.slot_list_append PySem.F.type_list_append mt_append (pv 1) (pa_cons (pv 2) pa_nil)))))))), ?_⟩
    walk_at "go"
    refine ⟨szs (Nat.zero_le _), w_new fun l H1 hl e1 hl1 => ?_⟩
    walk_at "go"
    have hal : a ≠ l := fun z => by
      rw [z] at hL
      have hL : H l = _ := hL
      rw [hl] at hL
      cases hL
    refine ⟨a, rfl, ⟨_, SqL.of (e1 _ _ hL)⟩, for_list (K := K) (a := a) (xs := ns.map sV) (fun i σ H2 => Ex H H2 ∧ LAt H2 a ns ∧ LAt H2 l (ns.take i) ∧ ∃ v, σ = [some (.ref a), some (.ref l), v]) ⟨e1, e1 _ _ hL, hl1, none, rfl⟩ (fun i σ H2 _ ⟨_, q, _⟩ => SqL.of q) ?_ ?_⟩
    · rintro i y σ H2 hi ⟨e2, hL2, hl2, v, rfl⟩
      obtain ⟨x, hx, rfl⟩ := map_at hi
      walk_at "go"
      refine ⟨l, _, rfl, .inl (SqL.of hl2), rfl, flat_sV _, ?_⟩
      rw [in_false (not_before hnd hx)]
      refine ⟨_, rfl, brF rfl ?_⟩
      walk_at "go"
      refine ⟨.inl ⟨rfl, _, SqL.of hl2⟩, ?_⟩
      walk_at "go"
      have hln : H l = none := hl
      refine ⟨l, _, _, rfl, rfl, hl2, szl (by rw [List.length_map, List.length_take]; omega), ?_⟩
      refine ⟨Ex.mut e2 hln, ?_, ?_, _, rfl⟩
      · show upd H2 l _ a = _
        rw [upd_ne hal]
        exact hL2
      · show upd H2 l _ l = _
        rw [upd_same, tk hx, List.map_append]
        rfl
    · rintro σ H2 ⟨e2, _⟩
      exact k H2 e2
def sp_need_places : Sp := fun vs H Q _ => ∃ (u a : Addr) (ys ns : List Str), vs = [.ref u, .ref a] ∧ H u = some (.tup (ys.map sV)) ∧ LAt H a ns ∧ ys.Nodup ∧ (∀ y ∈ ys, y ∈ ns) ∧ ys.length ≤ 1000 ∧ ∀ H2, Ex H H2 → Q .non H2
theorem sc_need_places : FnScope ["names", "known", "ahead", "name"] ["names", "known"] (defScope s_need_places) := ⟨rfl, rfl, rfl, by decide +kernel, rfl, by decide +kernel, by decide +kernel⟩
theorem D_need_places (T : Tx K mg) : Def P w K mg base 1 (He.ga K "need_places") ["names", "known"] sp_need_places := by
  refine Def.make T (d := d_need_places) 43 rfl rfl rfl sc_need_places (fun _ _ _ _ _ _ us hl => match us, hl with | [_, _], _ => rfl) (fun vs H Q E h => ?_) (fun cdv A outer s H vs Q E hr h => ?_)
  · obtain ⟨u, a, ys, ns, rfl, _⟩ := h
    rfl
  · obtain ⟨u, a, ys, ns, rfl, hU, hL, hnd, hin, hz, k⟩ := h
    have nd := sc_need_places.nd
    refine ⟨_, (pss_cons (ps_set (i := 2) nd rfl (Or.inl rfl) (PE.nm (pe_lst pa_nil)))
    (pss_one (ps_for PassesOwn.never rfl (pi_tup (pv 0)) (pg_name (i := 3) nd rfl (Or.inl rfl))
    (pss_cons (ps_if (pt_cmpR op_notIn_seq (pv 3) (pv 1) rfl) (pss_one ps_never) pss_nil)
    (pss_cons (ps_if (pt_cmpR op_in_seq (pv 3) (pv 2) rfl) (pss_one ps_never) pss_nil)
    (pss_one (ps_expr (pe_bm PySem.F.plainAttrs_list PySem.F.slot_list_append PySem.F.type_list_append mt_append (pv 2) (pa_cons (pv 3) pa_nil))))))))), ?_⟩
    walk_at "go"
    refine ⟨szs (Nat.zero_le _), w_new fun l H1 hl e1 hl1 => ?_⟩
    walk_at "go"
    have hln : H l = none := hl
    have hal : a ≠ l := fun z => by
      rw [z] at hL
      have hL : H l = _ := hL
      rw [hl] at hL
      cases hL
    refine ⟨u, rfl, ⟨_, SqT.of (e1 _ _ hU)⟩, for_it (walk_tup (K := K) (a := u) (xs := ys.map sV)) (fun i σ H2 => Ex H H2 ∧ H2 u = some (.tup (ys.map sV)) ∧ LAt H2 a ns ∧ LAt H2 l (ys.take i) ∧ ∃ v, σ = [some (.ref u), some (.ref a), some (.ref l), v]) ⟨e1, e1 _ _ hU, e1 _ _ hL, hl1, none, rfl⟩ (fun i σ H2 _ ⟨_, q, _⟩ => SqT.of q) ?_ ?_⟩
    · rintro i y σ H2 H2' hi ⟨e2, hU2, hL2, hl2, v, rfl⟩ ⟨rfl, hy⟩
      obtain ⟨x, hx, rfl⟩ := map_at hy
      walk_at "go"
      refine ⟨a, _, rfl, .inl (SqL.of hL2), rfl, flat_sV _, ?_⟩
      rw [if_pos rfl, mem_sV, decide_eq_true (hin x (List.mem_of_getElem? hx))]
      refine ⟨_, rfl, brF rfl ?_⟩
      walk_at "go"
      refine ⟨l, _, rfl, .inl (SqL.of hl2), rfl, flat_sV _, ?_⟩
      rw [in_false (not_before hnd hx)]
      refine ⟨_, rfl, brF rfl ?_⟩
      walk_at "go"
      refine ⟨.inl ⟨rfl, _, SqL.of hl2⟩, ?_⟩
      walk_at "go"
      refine ⟨l, _, _, rfl, rfl, hl2, szl (by rw [List.length_map, List.length_take]; omega), ?_⟩
      refine ⟨Ex.mut e2 hln, Tm.updL hl2 _ _ hU2, ?_, ?_, _, rfl⟩
      · show upd _ l _ a = _
        rw [upd_ne hal]
        exact hL2
      · show upd _ l _ l = _
        rw [upd_same, tk hx, List.map_append]
        rfl
    · rintro σ H2 ⟨e2, _⟩
      exact k H2 e2
end
end K96

set_option Elab.async false
set_option linter.all false
set_option maxRecDepth 100000
set_option maxHeartbeats 4000000
/-! K96OB: a ground read. -/
namespace K96
open PySem PySem.Spec PyProof.Rows L2 LamX NdefX
open Evl (Ex)
open K96M (Gr)
local macro_rules | `(tactic| walk_at "go") => `(tactic| repeat (first
  | with_reducible refine w_seq ?_
  | with_reducible refine w_asg ?_
  | with_reducible refine w_name ?_
  | with_reducible refine w_var rfl ?_
  | with_reducible refine w_c ?_
  | with_reducible refine w_op ?_
  | with_reducible refine w_I0 ?_
  | with_reducible refine w_drop ?_
  | with_reducible refine w_ret ?_
  | with_reducible refine w_if ?_
  | with_reducible refine w_next ?_
  | with_reducible refine w_test ?_
  | with_reducible refine w_B ?_
  | with_reducible refine w_bl ?_
  | with_reducible refine w_not ?_
  | with_reducible refine w_and ?_
  | with_reducible refine w_or ?_
  | with_reducible refine w_andV ?_
  | with_reducible refine w_orV ?_
  | with_reducible refine w_notV ?_
  | with_reducible refine w_cons ?_
  | with_reducible refine w_nil ?_
  | with_reducible refine w_cb ?_
  | with_reducible refine w_call ?_
  | with_reducible refine w_isN ?_
  | with_reducible refine w_notN ?_
  | with_reducible refine w_chain ?_
  | with_reducible refine w_sl ?_
  | with_reducible refine w_nopart ?_
  | with_reducible refine w_tupT ?_
  | with_reducible refine w_lstT ?_
  | with_reducible refine w_eq rfl ?_
  | with_reducible refine w_ne rfl ?_
  | with_reducible refine w_for ?_
  | with_reducible refine w_iL ?_
  | with_reducible refine w_iT ?_
  | with_reducible refine w_iR1 ?_
  | with_reducible refine w_iR2 ?_
  | with_reducible refine w_iE ?_
  | with_reducible refine w_iS ?_
  | with_reducible refine w_lc ?_
  | with_reducible refine w_nm ?_
  | with_reducible refine w_din ?_
  | with_reducible refine w_dnotin ?_
  | with_reducible refine w_dput ?_
  | with_reducible refine w_dget1 ?_
  | with_reducible refine w_dget2 ?_
  | with_reducible refine w_bm ?_
  | with_reducible refine w_bm0 ?_
  | with_reducible refine w_sfld ?_
  | with_reducible refine w_make ?_
  | with_reducible refine w_part ?_
  | with_reducible refine w_aug rfl ?_
  | with_reducible refine w_ip ?_
  | with_reducible refine w_yes ?_
  | with_reducible refine w_gcs ?_
  | with_reducible refine w_gnil ?_
  | with_reducible refine w_dget ?_
  | with_reducible refine w_fld ?_
  | with_reducible refine w_meth ?_))
local macro_rules | `(tactic| walk_at "ex") => `(tactic| repeat (first | assumption | exact Ex.refl _ | refine Ex.trans ?_ (by assumption)))
def RowsAt (H : Hp) (l : Addr) (rows : List Rw) : Prop := ∃ ts : List Addr, H l = some (.lst (ts.map V.ref)) ∧ Paired (RowAt H) ts rows
theorem RowsAt.up {H H' : Hp} {l : Addr} {rows : List Rw} (h : RowsAt H l rows) (e : Ex H H') : RowsAt H' l rows := by
  obtain ⟨ts, h1, h2⟩ := h
  exact ⟨ts, e _ _ h1, Paired.mapP h2 fun _ _ q => q.tm (Tm.of e)⟩
theorem rows_tm {H H' : Hp} (e : Tm H H') {ts : List Addr} {rows : List Rw} (h : Paired (RowAt H) ts rows) : Paired (RowAt H') ts rows := Paired.mapP h fun _ _ q => q.tm e
/-- all but p stands -/
def Eb (p : Addr) (H H' : Hp) : Prop := ∀ b o, b ≠ p → H b = some o → H' b = some o
theorem Eb.of {p : Addr} {H H' : Hp} (e : Ex H H') : Eb p H H' := fun b o _ h => e b o h
theorem Eb.trans {p : Addr} {H H1 H2 : Hp} (a : Eb p H H1) (b : Eb p H1 H2) : Eb p H H2 := fun c o n h => b c o n (a c o n h)
theorem Eb.self {p : Addr} {H : Hp} {o : HO} : Eb p H (upd H p o) := fun b u n h => by rw [upd_ne n]; exact h
theorem Eb.mut {p d : Addr} {H H1 : Hp} {o : HO} (e : Eb p H H1) (h : H d = none) : Eb p H (upd H1 d o) := fun b u n hb => by
  rw [upd_ne fun z => by rw [z, h] at hb; cases hb]
  exact e b u n hb
theorem Paired.take {A B : Type} {R : A → B → Prop} : ∀ {xs : List A} {ys : List B} (n : Nat), Paired R xs ys → Paired R (xs.take n) (ys.take n)
  | _, _, 0, _ => by simp; exact .nil
  | _, _, n + 1, .nil => by simp; exact .nil
  | _, _, n + 1, .cons r t => by rw [List.take_succ_cons, List.take_succ_cons]; exact .cons r (Paired.take n t)
section
variable {P : Program} {w : World} {K : PySem.W.Frag} {mg : Str → Option Value} {base : Heap}
def sp_Ginit (K : PySem.W.Frag) : Sp := fun vs H Q _ => ∃ (p l dx : Addr) (rows : List Rw), vs = [.ref p, .ref l] ∧ H p = some (.ins (He.ga K "Ground") dx []) ∧ RowsAt H l rows ∧ RowsOk rows ∧ ∀ H2, Eb p H H2 → GAt K H2 p (gOf rows) → Q .non H2
theorem sc_Ground_init : FnScope ["self", "rows", "number", "row", "known", "name", "others", "many", "other"] ["self", "rows"] (defScope s_Ground_init) := ⟨rfl, rfl, rfl, by decide +kernel, rfl, by decide +kernel, by decide +kernel⟩
theorem D_Ground_init (T : Tx K mg) : Def P w K mg base 3 (He.ma K (He.ga K "Ground") "__init__") ["self", "rows"] (sp_Ginit K) := by
  refine Def.make T (d := d_Ground_init) 44 rfl rfl rfl sc_Ground_init (fun _ _ _ _ _ _ us hl => match us, hl with | [_, _], _ => rfl) (fun vs H Q E h => ?_) (fun cdv A outer s H vs Q E hr h => ?_)
  · obtain ⟨p, l, dx, rows, rfl, _⟩ := h
    rfl
  · obtain ⟨p, l, dx, rows, rfl, hp, ⟨ts, hts, hpr⟩, ok, k⟩ := h
    have nd := sc_Ground_init.nd
    have hu := hu_of hr
    have htl := Paired.length hpr
    have hmany := ok.many
    have hnl : (namesR rows).length = rows.length := List.length_map ..
    refine ⟨_, (pss_cons (ps_if (PW.pt (pw_or (pt_not (pt_val (pe_callB call_isi (by rfl) T.f_isinstance (by decide +kernel) (pa_cons (pv 1) (pa_cons (pe_bltn (v := .ty "list") (by rfl) T.f_list (by decide +kernel) rfl) pa_nil))))) (pw_or1 (pt_cmpR (op_eqD hr.units) (pv 1) (PE.nm (pe_lst pa_nil)) (nomark _))))) (pss_one ps_never) pss_nil)
    (pss_cons (ps_if (pt_cmpR op_gt (pe_callB call_len_seq (by rfl) T.f_len (by decide +kernel) (pa_cons (pv 1) pa_nil)) (pe_gI rfl T.i_MOST_PLACES) (nomark _)) (pss_one ps_never) pss_nil)
    (pss_cons (ps_for PassesOwn.never rfl (pi_enum (by rfl) T.f_enumerate (pa_cons (pv 1) pa_nil)) (pg_tup rfl (pgs_cons (pg_name (i := 2) nd rfl (Or.inl rfl)) (pgs_cons (pg_name (i := 3) nd rfl (Or.inl rfl)) pgs_nil)))
    (pss_one (ps_if (pt_not (pt_val (pe_callX (D_is_row T) (hr.mono (by decide)) rfl T.g_is_row (pa_cons (pv 3) pa_nil)))) (pss_one ps_never) pss_nil)))
    (pss_cons (ps_setLc (i := 4) (own := [("row", 3)]) rfl nd rfl rfl (sw_true rfl rfl rfl (by decide +kernel)) (pi_list (pv 1)) (blkOk_by (N := ["self", "rows", "number", "row", "known", "name", "others", "many", "other"]) (sc := defScope s_Ground_init) (by decide +kernel)) (fun _ _ _ _ _ => (pg_name (i := 3) nd rfl (Or.inl rfl))) (fun _ _ _ _ _ => pts_nil) (fun _ _ _ _ _ => (pe_ix (r := rIxT K) ix_tup (pv 3) pe_int (fun _ _ => rfl))))
    (pss_cons (ps_expr (pe_callX (D_need_unlike T) (hr.mono (by decide)) rfl T.g_need_unlike (pa_cons (pv 4) pa_nil)))
    (pss_cons (ps_for PassesOwn.never rfl (pi_list (pv 1)) (pg_tup rfl (pgs_cons (pg_name (i := 5) nd rfl (Or.inl rfl)) (pgs_cons (pg_name (i := 6) nd rfl (Or.inr rfl)) pgs_nil)))
    (pss_one (ps_expr (pe_callX (D_need_places T) (hr.mono (by decide)) rfl T.g_need_places (pa_cons (pv 6) (pa_cons (pv 4) pa_nil))))))
    (pss_cons (ps_set (i := 7) nd rfl (Or.inl rfl) (pe_callB (cr_sum rfl) (by rfl) T.f_sum (by decide +kernel) (pa_cons (pe_lc (own := [("name", 5), ("others", 6)]) rfl nd (pi_list (pv 1)) (blkOk_by (N := ["self", "rows", "number", "row", "known", "name", "others", "many", "other"]) (sc := defScope s_Ground_init) (by decide +kernel)) (fun _ _ _ _ _ => (pg_tupK (K := K) (n := 2) rfl rfl (pgs_cons (pg_name (i := 5) nd rfl (Or.inl rfl)) (pgs_cons (pg_name (i := 6) nd rfl (Or.inl rfl)) pgs_nil)))) (fun _ _ _ _ _ => pts_nil) (fun _ _ _ _ _ => (pe_callB (r := rLen K) call_len (by rfl) T.f_len (by decide +kernel) (pa_cons (pv 6) pa_nil)))) pa_nil)))
    (pss_cons (ps_if (pt_cmpR op_gt (pv 7) (pe_gI rfl T.i_MOST_ROADS) (nomark _)) (pss_one ps_never) pss_nil)
    (pss_cons (ps_fld (pv 0) pe_dnewK rfl)
    (pss_one (ps_for PassesOwn.never rfl (pi_list (pv 1)) (pg_tup rfl (pgs_cons (pg_name (i := 5) nd rfl (Or.inl rfl)) (pgs_cons (pg_name (i := 6) nd rfl (Or.inr rfl)) pgs_nil)))
    (pss_one (ps_dput hu (pe_fld (pv 0) rfl) (pv 5) (PE.nm (pe_callTy call_tuple_of (by rfl) T.f_tuple (by decide +kernel) (pa_cons (pe_lc (own := [("other", 8)]) rfl nd (pi_list (pv 4)) (blkOk_by (N := ["self", "rows", "number", "row", "known", "name", "others", "many", "other"]) (sc := defScope s_Ground_init) (by decide +kernel)) (fun _ _ _ _ _ => (pg_name (i := 8) nd rfl (Or.inl rfl))) (fun _ _ _ _ _ => (pts_one (pt_cmpR (r := rIn K false) op_in_seq (pv 8) (pv 6) rfl))) (fun _ _ _ _ _ => (pv 8))) pa_nil))) rfl))))))))))))), ?_⟩
    walk_at "go"
    refine ⟨_, _, _, _, true, rfl, .ty "list", .base (.lst hts), kit_ty (by decide +kernel), ?_⟩
    walk_at "go"
    refine brF rfl ?_
    walk_at "go"
    refine ⟨szs (Nat.zero_le _), w_new fun q H1 hq e1 h1 => ?_⟩
    walk_at "go"
    refine ⟨_, .list [], .lst (SqL.of (e1 _ _ hts)) (dpAll_pair (fun _ _ z => dp_row z) (rows_tm (Tm.of e1) hpr)), .lst (SqL.of h1) .nil, rows_shaped ok, rfl, ?_⟩
    rw [eqvAll_nil, List.isEmpty_map]
    refine ⟨_, rfl, brF ?_ ?_⟩
    · cases rows with
      | nil => exact absurd rfl ok.pos
      | cons a r => rfl
    walk_at "go"
    refine ⟨l, _, rfl, .inl (SqL.of (e1 _ _ hts)), ?_⟩
    walk_at "go"
    refine brF (decide_eq_false ?_) ?_
    · rw [List.length_map, htl]
      omega
    walk_at "go"
    refine ⟨l, _, rfl, SqL.of (e1 _ _ hts), for_it (walk_enum (K := K) (a := l) (xs := ts.map V.ref)) (fun i σ H3 => Ex H H3 ∧ ∃ v1 v2, σ = [some (.ref p), some (.ref l), v1, v2, none, none, none, none, none]) ⟨e1, none, none, rfl⟩ (fun i σ H3 _ ⟨e, _⟩ => SqL.of (e _ _ hts)) ?_ ?_⟩
    · rintro i v σ H3 H3' hi ⟨e3, v1, v2, rfl⟩ ⟨T', x, y, rfl, hT', rfl, h1', h2'⟩
      obtain rfl : V.int (i : Nat) = x := Option.some.inj h1'
      obtain ⟨u, hu1, rfl⟩ := map_at h2'
      have eT : Ex H3 (upd H3 T' (.tup [.int (i : Nat), .ref u])) := Ex.new hT'
      generalize hH4 : upd H3 T' (.tup [.int (i : Nat), .ref u]) = H4 at eT
      have hT4 : H4 T' = some (.tup [nV i, .ref u]) := by rw [← hH4]; exact upd_same
      refine w_gtup ⟨T', _, rfl, SqT.of hT4, rfl, ?_⟩
      walk_at "go"
      obtain ⟨r, hr1, hrt⟩ := Paired.at_ hpr hu1
      have hrm := List.mem_of_getElem? hr1
      have hll : r.2.length ≤ 1000 := by
        have := nodup_le r.2 (rows.map (·.1)) (ok.lnd r hrm) (ok.inn r hrm)
        rw [List.length_map] at this
        omega
      refine ⟨u, r, rfl, hrt.tm (Tm.of (e3.trans eT)), ok.nm r hrm, fun y hy => lead_name ok hrm hy, hll, fun H5 e5 => ?_⟩
      refine ⟨_, rfl, brF rfl ?_⟩
      walk_at "go"
      exact ⟨(e3.trans eT).trans e5, _, _, rfl⟩
    · rintro σ H3 ⟨e3, v1, v2, rfl⟩
      walk_at "go"
      -- known
      refine ⟨l, rfl, ⟨_, SqL.of (e3 _ _ hts)⟩, lc_L (K := K) (SqL.of (e3 _ _ hts)) (fun i ys H' => ys = ((namesR rows).take i).map sV) (fun _ _ _ _ _ q => q) rfl (by rw [List.length_map]; omega) ?_ ?_⟩
      · rintro i y ys H4 hi e4 rfl N M hN hM
        obtain ⟨t, ht, rfl⟩ := map_at hi
        obtain ⟨r, hr1, u, h1, h2⟩ := Paired.at_ hpr ht
        walk_at "go"
        refine ⟨rfl, ?_⟩
        walk_at "go"
        refine brT rfl ?_
        walk_at "go"
        refine w_ixT (SqT.of ((e3.trans e4) _ _ h1)) (v := .str r.1) rfl ?_
        refine hN _ _ (Ex.refl _) ?_
        have hn1 : (namesR rows)[i]? = some r.1 := by
          unfold namesR
          rw [List.getElem?_map, hr1]
          rfl
        rw [tk hn1, List.map_append]
        rfl
      · rintro kn ys H4 hkn e4 hk4 _ rfl
        walk_at "go"
        rw [List.length_map, htl, ← hnl, List.take_length] at hk4
        have hk4 : LAt H4 kn (namesR rows) := hk4
        have e34 := e3.trans e4
        have hknH : H kn = none := Evl.fresh_back e3 hkn
        refine ⟨kn, namesR rows, rfl, hk4, ok.nd, by omega, fun H5 e5 => ?_⟩
        walk_at "go"
        have e35 := e34.trans e5
        -- places
        refine ⟨l, rfl, ⟨_, SqL.of (e35 _ _ hts)⟩, for_list (K := K) (a := l) (xs := ts.map V.ref) (fun i σ H6 => Ex H5 H6 ∧ ∃ v2 v3 v5 v6, σ = [some (.ref p), some (.ref l), v2, v3, some (.ref kn), v5, v6, none, none]) ⟨Ex.refl _, _, _, none, none, rfl⟩ (fun i σ H6 _ ⟨e, _⟩ => SqL.of (e _ _ (e35 _ _ hts))) ?_ ?_⟩
        · rintro i y σ H6 hi ⟨e6, v2, v3, v5, v6, rfl⟩
          obtain ⟨t, ht, rfl⟩ := map_at hi
          obtain ⟨r, hr1, u, h1, h2⟩ := Paired.at_ hpr ht
          have hrm := List.mem_of_getElem? hr1
          have e36 := e35.trans e6
          have hll : r.2.length ≤ 1000 := by
            have := nodup_le r.2 (rows.map (·.1)) (ok.lnd r hrm) (ok.inn r hrm)
            rw [List.length_map] at this
            omega
          refine w_gtup ⟨t, _, rfl, SqT.of (e36 _ _ h1), rfl, ?_⟩
          walk_at "go"
          refine ⟨u, kn, r.2, namesR rows, rfl, e36 _ _ h2, (e5.trans e6) _ _ hk4, ok.lnd r hrm, ok.inn r hrm, hll, fun H7 e7 => ?_⟩
          exact ⟨e6.trans e7, _, _, _, _, rfl⟩
        · rintro σ H6 ⟨e6, v2, v3, v5, v6, rfl⟩
          have e36 := e35.trans e6
          walk_at "go"
          -- many
          refine ⟨l, rfl, ⟨_, SqL.of (e36 _ _ hts)⟩, lc_L (K := K) (SqL.of (e36 _ _ hts)) (fun i ys H' => ys = ((rows.take i).map (·.2.length)).map nV) (fun _ _ _ _ _ q => q) rfl (by rw [List.length_map]; omega) ?_ ?_⟩
          · rintro i y ys H7 hi e7 rfl N M hN hM
            obtain ⟨t, ht, rfl⟩ := map_at hi
            obtain ⟨r, hr1, u, h1, h2⟩ := Paired.at_ hpr ht
            refine w_gtup ⟨t, _, rfl, SqT.of ((e36.trans e7) _ _ h1), rfl, ?_⟩
            walk_at "go"
            refine ⟨rfl, ?_⟩
            walk_at "go"
            refine brT rfl ?_
            walk_at "go"
            refine ⟨_, _, rfl, .inr ⟨_, SqT.of ((e36.trans e7) _ _ h2), rfl⟩, ?_⟩
            refine hN _ _ (Ex.refl _) ?_
            rw [tk hr1, List.map_append, List.map_append, List.length_map]
            rfl
          · rintro D ys H7 hDn e7 hD7 _ rfl
            walk_at "go"
            rw [List.length_map, htl, List.take_length] at hD7
            refine ⟨D, (rows.map (·.2.length)).map fun (n : Nat) => (n : Int), rfl, ?_, ?_⟩
            · rw [List.map_map]
              refine SqL.of ?_
              rw [hD7]
              rfl
            rw [sum_nat]
            walk_at "go"
            refine brF (decide_eq_false ?_) ?_
            · have := ok.tot
              omega
            walk_at "go"
            have e37 := e36.trans e7
            refine w_dnewK fun d H8 hd e8 hd8 => ?_
            walk_at "go"
            have hdH : H d = none := Evl.fresh_back e37 hd
            have e38 := e37.trans e8
            have hp8 := e38 _ _ hp
            refine ⟨p, _, dx, _, rfl, hp8, T.c_Ground, T.na_Ground_leading, (by show 0 < 1000; decide), ?_⟩
            have pf : putF "leading" (.ref d) [] = [(("leading" : Str), V.ref d)] := rfl
            rw [pf]
            have hpl : l ≠ p := fun z => by rw [z, hp] at hts; cases hts
            have hpk : kn ≠ p := fun z => by rw [z, hp] at hknH; cases hknH
            have hpd : d ≠ p := fun z => by rw [z, hp] at hdH; cases hdH
            have hdl : l ≠ d := fun z => by rw [z, hdH] at hts; cases hts
            have hdk : kn ≠ d := fun z => by
              have := (e5.trans (e6.trans e7)) _ _ hk4
              rw [z, hd] at this
              cases this
            have eb9 : Eb p H (upd H8 p (.ins (He.ga K "Ground") dx [("leading", .ref d)])) := (Eb.of e38).trans Eb.self
            have tm9 : Tm H8 (upd H8 p (.ins (He.ga K "Ground") dx [("leading", .ref d)])) := Tm.upd fun xs z => by rw [hp8] at z; cases z
            have hp9 : (upd H8 p (.ins (He.ga K "Ground") dx [("leading", .ref d)])) p = some (.ins (He.ga K "Ground") dx [("leading", .ref d)]) := upd_same
            have hd9 : (upd H8 p (.ins (He.ga K "Ground") dx [("leading", .ref d)])) d = some (.dK []) := by rw [upd_ne hpd]; exact hd8
            have hl9 : (upd H8 p (.ins (He.ga K "Ground") dx [("leading", .ref d)])) l = some (.lst (ts.map V.ref)) := by rw [upd_ne hpl]; exact e38 _ _ hts
            have hk9 : (upd H8 p (.ins (He.ga K "Ground") dx [("leading", .ref d)])) kn = some (.lst ((namesR rows).map sV)) := by rw [upd_ne hpk]; exact (e5.trans (e6.trans (e7.trans e8))) _ _ hk4
            have hr9 := rows_tm (tm9) (rows_tm (Tm.of e38) hpr)
            generalize upd H8 p (.ins (He.ga K "Ground") dx [("leading", .ref d)]) = H9 at eb9 tm9 hp9 hd9 hl9 hk9 hr9
            walk_at "go"
            refine ⟨l, rfl, ⟨_, SqL.of hl9⟩, for_list (K := K) (a := l) (xs := ts.map V.ref) (fun i σ HA => Eb p H HA ∧ HA p = some (.ins (He.ga K "Ground") dx [("leading", .ref d)]) ∧ HA l = some (.lst (ts.map V.ref)) ∧ Paired (RowAt HA) ts rows ∧ LAt HA kn (namesR rows) ∧
                (∃ us : List Addr, HA d = some (.dK ((((namesR rows).take i).zip us).map fun p => ((Sum.inr p.1 : Key), V.ref p.2))) ∧ Paired (fun n t => HA t = some (.tup (((gOf rows).rd n).map sV))) ((namesR rows).take i) us) ∧ ∃ v2 v3 v5 v6 v7 v8, σ = [some (.ref p), some (.ref l), v2, v3, some (.ref kn), v5, v6, v7, v8])
              ⟨eb9, hp9, hl9, hr9, hk9, ⟨[], by rw [List.take_zero]; exact hd9, by rw [List.take_zero]; exact .nil⟩, _, _, _, _, _, _, rfl⟩ (fun i σ HA _ ⟨_, _, q, _⟩ => SqL.of q) ?_ ?_⟩
            · rintro i y σ HA hi ⟨ebA, hpA, hlA, hrA, hkA, ⟨us, hdA, husA⟩, v2, v3, v5, v6, v7, v8, rfl⟩
              obtain ⟨t, ht, rfl⟩ := map_at hi
              obtain ⟨r, hr1, u, h1, h2⟩ := Paired.at_ hrA ht
              have hrm := List.mem_of_getElem? hr1
              have hn1 : (namesR rows)[i]? = some r.1 := by
                unfold namesR
                rw [List.getElem?_map, hr1]
                rfl
              refine w_gtup ⟨t, _, rfl, SqT.of h1, rfl, ?_⟩
              walk_at "go"
              refine ⟨kn, rfl, ⟨_, SqL.of hkA⟩, lc_L (K := K) (SqL.of hkA) (fun j ys H' => ys = (((namesR rows).take j).filter fun o => decide (o ∈ r.2)).map sV) (fun _ _ _ _ _ q => q) rfl (by rw [List.length_map]; omega) ?_ ?_⟩
              · rintro j y ys HB hj eB rfl N M hN hM
                obtain ⟨x, hx, rfl⟩ := map_at hj
                walk_at "go"
                refine ⟨rfl, ?_⟩
                walk_at "go"
                refine ⟨u, _, rfl, .inr (SqT.of (eB _ _ h2)), rfl, flat_sV _, ?_⟩
                rw [if_neg Bool.false_ne_true, mem_sV]
                refine ⟨_, rfl, br (fun z => ?_) (fun z => ?_)⟩
                · walk_at "go"
                  refine hN _ _ (Ex.refl _) ?_
                  rw [tk hx, List.filter_append, List.filter_cons, if_pos z, List.map_append]
                  rfl
                · refine hM _ (Ex.refl _) ?_
                  rw [tk hx, List.filter_append, List.filter_cons, if_neg (by rw [z]; exact Bool.false_ne_true), List.filter_nil, List.append_nil]
              · rintro D2 ys HB hD2 eB hDB _ rfl
                walk_at "go"
                rw [List.length_map, List.take_length] at hDB
                refine ⟨D2, _, rfl, .inl ⟨SqL.of hDB, w_new fun v HC hv eC hC => ?_⟩⟩
                walk_at "go"
                have eAC := eB.trans eC
                refine ⟨p, _, dx, _, _, rfl, eAC _ _ hpA, T.c_Ground, T.na_Ground_leading, lk1, ?_⟩
                walk_at "go"
                have hdC := eAC _ _ hdA
                have hzl : (((namesR rows).take i).zip us).length ≤ 9 := by
                  rw [List.length_zip, List.length_take]
                  omega
                have hout : valV ((((namesR rows).take i).zip us).map fun p => ((Sum.inr p.1 : Key), V.ref p.2)) (Sum.inr r.1) = none := by
                  refine valV_out fun z => ?_
                  rw [List.map_map] at z
                  obtain ⟨q, hq, e⟩ := List.mem_map.mp z
                  have hq1 := (List.of_mem_zip (show (q.1, q.2) ∈ _ from hq)).1
                  have e : q.1 = r.1 := Sum.inr.inj e
                  rw [e] at hq1
                  exact not_before ok.nd hn1 hq1
                refine ⟨d, _, rfl, DPut.k (k := Sum.inr r.1) hdC (szl (by rw [List.length_map]; omega)), ?_⟩
                rw [putK_new _ hout]
                have tmD : Tm HC (upd HC d (.dK (((((namesR rows).take i).zip us).map fun p => ((Sum.inr p.1 : Key), V.ref p.2)) ++ [(Sum.inr r.1, .ref v)]))) := Tm.upd fun xs z => by rw [hdC] at z; cases z
                refine ⟨Eb.mut (ebA.trans (Eb.of eAC)) hdH, ?_, ?_, rows_tm ((Tm.of eAC).trans tmD) hrA, ?_, ⟨us ++ [v], ?_, ?_⟩, _, _, _, _, _, _, rfl⟩
                · rw [upd_ne fun z => hpd z.symm]
                  exact eAC _ _ hpA
                · rw [upd_ne hdl]
                  exact eAC _ _ hlA
                · show upd HC d _ kn = _
                  rw [upd_ne hdk]
                  exact eAC _ _ hkA
                · rw [upd_same, tk hn1, List.zip_append (Paired.length husA), List.map_append]
                  rfl
                · rw [tk hn1]
                  refine (Paired.mapP husA fun _ _ q => tmD _ _ (eAC _ _ q)).snoc (tmD _ _ ?_)
                  rw [rd_at ok.nd hrm]
                  exact hC
            · rintro σ HA ⟨ebA, hpA, hlA, hrA, hkA, ⟨us, hdA, husA⟩, _⟩
              rw [List.length_map, htl, ← hnl, List.take_length] at hdA husA
              exact k HA ebA ⟨dx, d, us, hpA, hdA, husA⟩
theorem mkG {H1 : Hp} {l : Addr} {rows : List Rw} {R : Addr → Hp → Prop} (hl : RowsAt H1 l rows) (ok : RowsOk rows) (h : ∀ x H3, H1 x = none → Ex H1 H3 → GAt K H3 x (gOf rows) → R x H3) :
    ∀ x dx, H1 x = none → H1 dx = none → dx ≠ x → sp_Ginit K [.ref x, .ref l] (upd (upd H1 dx (.own x)) x (.ins (He.ga K "Ground") dx [])) (fun v H2 => v = .non ∧ ∀ H3, H3 = H2 → R x H3) E0 := fun x dx hx hd hne => by
  have e1 : Ex H1 (upd (upd H1 dx (.own x)) x (.ins (He.ga K "Ground") dx [])) := Ex.mut (Ex.new hd) hx
  refine ⟨x, l, dx, rows, rfl, upd_same, hl.up e1, ok, fun H2 eb hG => ⟨rfl, fun H3 e => ?_⟩⟩
  subst e
  exact h x H3 hx (fun b o hb => eb b o (fun z => by rw [z, hx] at hb; cases hb) (e1 b o hb)) hG
end
end K96

set_option Elab.async false
set_option linter.all false
set_option maxRecDepth 100000
set_option maxHeartbeats 4000000
/-! K96OC: rows and grounds read from texts. -/
namespace K96
open PySem PySem.Spec PyProof.Rows L2 LamX NdefX
open Evl (Ex)
open K96M (Gr)
open TL (tl)
local macro_rules | `(tactic| walk_at "go") => `(tactic| repeat (first
  | with_reducible refine w_seq ?_
  | with_reducible refine w_asg ?_
  | with_reducible refine w_name ?_
  | with_reducible refine w_var rfl ?_
  | with_reducible refine w_c ?_
  | with_reducible refine w_op ?_
  | with_reducible refine w_I0 ?_
  | with_reducible refine w_drop ?_
  | with_reducible refine w_ret ?_
  | with_reducible refine w_if ?_
  | with_reducible refine w_next ?_
  | with_reducible refine w_test ?_
  | with_reducible refine w_B ?_
  | with_reducible refine w_bl ?_
  | with_reducible refine w_not ?_
  | with_reducible refine w_and ?_
  | with_reducible refine w_or ?_
  | with_reducible refine w_andV ?_
  | with_reducible refine w_orV ?_
  | with_reducible refine w_notV ?_
  | with_reducible refine w_cons ?_
  | with_reducible refine w_nil ?_
  | with_reducible refine w_cb ?_
  | with_reducible refine w_call ?_
  | with_reducible refine w_isN ?_
  | with_reducible refine w_notN ?_
  | with_reducible refine w_chain ?_
  | with_reducible refine w_sl ?_
  | with_reducible refine w_nopart ?_
  | with_reducible refine w_tupT ?_
  | with_reducible refine w_lstT ?_
  | with_reducible refine w_eq rfl ?_
  | with_reducible refine w_ne rfl ?_
  | with_reducible refine w_for ?_
  | with_reducible refine w_iL ?_
  | with_reducible refine w_iT ?_
  | with_reducible refine w_iR1 ?_
  | with_reducible refine w_iR2 ?_
  | with_reducible refine w_iE ?_
  | with_reducible refine w_iS ?_
  | with_reducible refine w_lc ?_
  | with_reducible refine w_nm ?_
  | with_reducible refine w_din ?_
  | with_reducible refine w_dnotin ?_
  | with_reducible refine w_dput ?_
  | with_reducible refine w_dget1 ?_
  | with_reducible refine w_dget2 ?_
  | with_reducible refine w_bm ?_
  | with_reducible refine w_bm0 ?_
  | with_reducible refine w_sfld ?_
  | with_reducible refine w_make ?_
  | with_reducible refine w_part ?_
  | with_reducible refine w_aug rfl ?_
  | with_reducible refine w_ip ?_
  | with_reducible refine w_yes ?_
  | with_reducible refine w_gcs ?_
  | with_reducible refine w_gnil ?_
  | with_reducible refine w_dget ?_
  | with_reducible refine w_fld ?_
  | with_reducible refine w_meth ?_))
local macro_rules | `(tactic| walk_at "ex") => `(tactic| repeat (first | assumption | exact Ex.refl _ | refine Ex.trans ?_ (by assumption)))
abbrev colS : Str := ":"
abbrev spS : Str := " "
abbrev nlS : Str := "\n"
def wordsF (r : Rw) : List Str := (r.1 ++ colS) :: r.2
def lineF (r : Rw) : Str := Txt.join spS (wordsF r)
def textF (rows : List Rw) : Str := Txt.join nlS (rows.map lineF)
theorem tl_col : tl colS = [58] := by decide +kernel
theorem tl_sp : tl spS = [32] := by decide +kernel
theorem tl_nl : tl nlS = [10] := by decide +kernel
theorem mem_joinL {S : List Nat} {c : Nat} : ∀ {parts : List (List Nat)}, c ∈ TL.joinL S parts → c ∈ S ∨ ∃ p ∈ parts, c ∈ p
  | [], h => by cases h
  | [p], h => .inr ⟨p, List.mem_cons_self .., h⟩
  | p :: q :: r, h => by
    have h : c ∈ p ++ (S ++ TL.joinL S (q :: r)) := h
    rcases List.mem_append.mp h with z | z
    · exact .inr ⟨p, List.mem_cons_self .., z⟩
    · rcases List.mem_append.mp z with z | z
      · exact .inl z
      · rcases mem_joinL z with z | ⟨x, hx, z⟩
        · exact .inl z
        · exact .inr ⟨x, List.mem_cons_of_mem _ hx, z⟩
theorem len_joinL {S : List Nat} {b : Nat} : ∀ {parts : List (List Nat)}, (∀ p ∈ parts, p.length ≤ b) → (TL.joinL S parts).length ≤ parts.length * (b + S.length)
  | [], _ => Nat.zero_le _
  | [p], h => by
    show p.length ≤ 1 * (b + S.length)
    have := h p (List.mem_cons_self ..)
    omega
  | p :: q :: r, h => by
    show (p ++ (S ++ TL.joinL S (q :: r))).length ≤ (r.length + 1 + 1) * (b + S.length)
    have h1 := h p (List.mem_cons_self ..)
    have h2 := len_joinL (S := S) (b := b) (parts := q :: r) fun x hx => h x (List.mem_cons_of_mem _ hx)
    rw [List.length_append, List.length_append, Nat.add_mul]
    have h3 : (q :: r).length = r.length + 1 := rfl
    rw [h3] at h2
    omega
theorem join_len {y : Str} {parts : List Str} {b : Nat} (h : ∀ p ∈ parts, p.length ≤ b) : (Txt.join y parts).length ≤ parts.length * (b + y.length) := by
  rw [TL.join_eq, TL.len_tl, TL.tl_join, TL.len_tl]
  have := len_joinL (S := tl y) (b := b) (parts := parts.map tl) fun p hp => by
    obtain ⟨z, hz, rfl⟩ := List.mem_map.mp hp
    rw [← TL.len_tl]
    exact h z hz
  rw [List.length_map] at this
  exact this
theorem name_tl {z : Str} (h : nameB z = true) : ∀ c ∈ tl z, 97 ≤ c ∧ c ≤ 122 := fun c hc => let_lt c ((name_parts h).2.2 c hc)
theorem word_tl {r : Rw} (h1 : nameB r.1 = true) (h2 : ∀ y ∈ r.2, nameB y = true) : ∀ p ∈ wordsF r, (∀ c ∈ tl p, 58 ≤ c) ∧ p.length ≤ 9 := fun p hp => by
  rcases List.mem_cons.mp hp with q | q
  · rw [q]
    refine ⟨fun c hc => ?_, ?_⟩
    · rw [TL.tl_append, tl_col] at hc
      rcases List.mem_append.mp hc with z | z
      · have := name_tl h1 c z
        omega
      · rw [List.mem_singleton.mp z]
        exact Nat.le_refl _
    · rw [Str.length_append]
      have := (name_parts h1).2.1
      have e : colS.length = 1 := by decide +kernel
      omega
  · refine ⟨fun c hc => ?_, ?_⟩
    · have := name_tl (h2 p q) c hc
      omega
    · have := (name_parts (h2 p q)).2.1
      omega
theorem split_line {r : Rw} (h1 : nameB r.1 = true) (h2 : ∀ y ∈ r.2, nameB y = true) : Txt.split (lineF r) spS = wordsF r :=
  TL.split_join tl_sp (by decide +kernel) (by intro z; cases z) fun p hp z => by
    have := (word_tl h1 h2 p hp).1 _ z
    omega
theorem line_len {r : Rw} (h1 : nameB r.1 = true) (h2 : ∀ y ∈ r.2, nameB y = true) : (lineF r).length ≤ (r.2.length + 1) * 10 := by
  have e : spS.length = 1 := by decide +kernel
  have := join_len (y := spS) (parts := wordsF r) (b := 9) fun p hp => (word_tl h1 h2 p hp).2
  rw [e] at this
  exact this
theorem split_text {rows : List Rw} (hne : rows ≠ []) (h1 : ∀ r ∈ rows, nameB r.1 = true) (h2 : ∀ r ∈ rows, ∀ y ∈ r.2, nameB y = true) : Txt.split (textF rows) nlS = rows.map lineF :=
  TL.split_join tl_nl (by decide +kernel) (fun z => hne (List.map_eq_nil_iff.mp z)) fun p hp z => by
    obtain ⟨r, hr, rfl⟩ := List.mem_map.mp hp
    unfold lineF at z
    rw [TL.join_eq, TL.tl_join] at z
    rcases mem_joinL z with y | ⟨x, hx, y⟩
    · rw [tl_sp] at y
      cases List.mem_singleton.mp y
    · obtain ⟨v, hv, rfl⟩ := List.mem_map.mp hx
      have := (word_tl (h1 r hr) (h2 r hr) v hv).1 _ y
      omega
/-- the last sign cut off, and alone -/
theorem cut_last (z : Str) : cutS (z ++ colS) (some (-1)) none = colS ∧ cutS (z ++ colS) none (some (-1)) = z := by
  have hl : (z ++ colS).length = z.length + 1 := by
    rw [Str.length_append]
    have e : colS.length = 1 := by decide +kernel
    rw [e]
  have ht : (z ++ colS).cps.toList = tl z ++ [58] := by
    have := TL.tl_append z colS
    rw [tl_col] at this
    exact this
  have hz : z.length = (tl z).length := TL.len_tl z
  have s1 : HT.sIx (z.length + 1) 0 (some (-1)) = z.length := by
    show (if (-1 : Int) < 0 then ((-1 : Int) + ((z.length + 1 : Nat) : Int)).toNat else min (-1 : Int).toNat (z.length + 1)) = _
    rw [if_pos (by decide)]
    omega
  have s2 : HT.sIx (z.length + 1) (z.length + 1) (some (-1)) = z.length := by
    show (if (-1 : Int) < 0 then ((-1 : Int) + ((z.length + 1 : Nat) : Int)).toNat else min (-1 : Int).toNat (z.length + 1)) = _
    rw [if_pos (by decide)]
    omega
  constructor
  · unfold cutS
    rw [hl, ht, s1, HT.sIx_none, hz, List.drop_left]
    refine TL.ext_tl ?_
    show List.take _ [58] = tl colS
    rw [tl_col, Nat.add_sub_cancel_left]
    rfl
  · unfold cutS
    rw [hl, ht, HT.sIx_none, s2, hz, List.drop_zero, Nat.sub_zero, List.take_left]
theorem w_m1 {σ : L2.St} {H : Hp} {Q : VK} {to te : TE} {r : V → List V → Hp → VK → Prop} (h : to σ H fun x H1 => (∃ a, x = .str a) ∧ te σ H1 fun y H2 => r x [y] H2 Q) : tM1 r to te σ H Q := h
section
variable {P : Program} {w : World} {K : PySem.W.Frag} {mg : Str → Option Value} {base : Heap}
def sp_row_in : Sp := fun vs H Q _ => ∃ (r : Rw), vs = [.str (lineF r)] ∧ nameB r.1 = true ∧ (∀ y ∈ r.2, nameB y = true) ∧ r.2.length ≤ 1000 ∧ ∀ t H2, Ex H H2 → RowAt H2 t r → Q (.ref t) H2
theorem sc_row_in : FnScope ["text", "words", "word"] ["text"] (defScope s_row_in) := ⟨rfl, rfl, rfl, by decide +kernel, rfl, by decide +kernel, by decide +kernel⟩
theorem D_row_in (T : Tx K mg) : Def P w K mg base 2 (He.ga K "row_in") ["text"] sp_row_in := by
  refine Def.make T (d := d_row_in) 47 rfl rfl rfl sc_row_in (fun _ _ _ _ _ _ us hl => match us, hl with | [_], _ => rfl) (fun vs H Q E h => ?_) (fun cdv A outer s H vs Q E hr h => ?_)
  · obtain ⟨r, rfl, _⟩ := h
    rfl
  · obtain ⟨r, rfl, hn, hl, hz, k⟩ := h
    have nd := sc_row_in.nd
    have hll := line_len hn hl
    have hn8 := (name_parts hn).2.1
    refine ⟨_, (pss_cons (ps_set (i := 1) nd rfl (Or.inl rfl) (PE.nm (pe_split (pv 0) pe_str)))
    (pss_cons (ps_if (PW.pt (pw_or (pt_cmpR op_ne (pe_slice sl_str (pe_ix ix_list (pv 1) pe_int (fun _ _ => rfl)) (po_some (pe_un un_neg pe_int)) po_none) pe_str (nomark _)) (pw_or1 (pt_not (pt_val (pe_callB (cr_all rfl) (by rfl) T.f_all (by decide +kernel) (pa_cons (pe_lc (own := [("word", 2)]) rfl nd (pi_list (PE.nm (pe_op op_cat (PE.nm (pe_lst (pa_cons (pe_slice sl_str (pe_ix ix_list (pv 1) pe_int (fun _ _ => rfl)) po_none (po_some (pe_un un_neg pe_int))) pa_nil))) (PE.nm (pe_slice sl_list (pv 1) (po_some pe_int) po_none))))) (blkOk_by (N := ["text", "words", "word"]) (sc := defScope s_row_in) (by decide +kernel)) (fun _ _ _ _ _ => (pg_name (i := 2) nd rfl (Or.inl rfl))) (fun _ _ _ _ _ => pts_nil) (fun _ _ _ _ _ => (pe_callX (D_is_name T) (hr.mono (by decide)) rfl T.g_is_name (pa_cons (pv 2) pa_nil)))) pa_nil))))))) (pss_one (ps_ret pe_non)) pss_nil)
    (pss_one (ps_ret (PE.nm (pe_tup (pa_cons (pe_slice sl_str (pe_ix ix_list (pv 1) pe_int (fun _ _ => rfl)) po_none (po_some (pe_un un_neg pe_int))) (pa_cons (PE.nm (pe_callTy call_tuple_of (by rfl) T.f_tuple (by decide +kernel) (pa_cons (PE.nm (pe_slice sl_list (pv 1) (po_some pe_int) po_none)) pa_nil))) pa_nil)))))))), ?_⟩
    walk_at "go"
    refine w_m1 ?_
    walk_at "go"
    refine ⟨⟨_, rfl⟩, ?_⟩
    walk_at "go"
    refine ⟨_, _, rfl, rfl, (by decide +kernel), ?_, w_new fun p H1 hp e1 h1 => ?_⟩
    · refine szs (n := (lineF r).length + 2) ?_
      omega
    rw [split_line hn hl] at h1
    walk_at "go"
    have h1 : LAt H1 p (wordsF r) := h1
    obtain ⟨c1, c2⟩ := cut_last r.1
    have wl : (r.1 ++ colS).length ≤ 9 := (word_tl hn hl _ (List.mem_cons_self ..)).2
    have p0 : atI ((wordsF r).map sV) 0 = some (sV (r.1 ++ colS)) := atI_nat (j := 0) rfl
    refine w_ixL (SqL.of h1) p0 ?_
    walk_at "go"
    refine ⟨_, rfl, ?_⟩
    walk_at "go"
    refine ⟨_, rfl, ?_⟩
    walk_at "go"
    refine ⟨_, rfl, szs (by omega), ?_⟩
    rw [c1]
    walk_at "go"
    rw [decide_eq_true rfl]
    refine brF rfl ?_
    walk_at "go"
    refine w_ixL (SqL.of h1) p0 ?_
    walk_at "go"
    refine ⟨_, rfl, ?_⟩
    walk_at "go"
    refine ⟨_, rfl, ?_⟩
    walk_at "go"
    refine ⟨_, rfl, szs (by omega), ?_⟩
    rw [c2]
    walk_at "go"
    refine ⟨szs (show 1 ≤ 100000 by decide), w_new fun q H2 hq e2 h2 => ?_⟩
    walk_at "go"
    refine ⟨_, rfl, ?_⟩
    walk_at "go"
    have wv : cutV ((wordsF r).map sV) (some 1) none = r.2.map sV := by
      unfold cutV
      have e : HT.sIx ((wordsF r).map sV).length 0 (some 1) = 1 := by
        show HT.sIx ((wordsF r).map sV).length 0 (some ((1 : Nat) : Int)) = 1
        rw [HT.sIx_nat, List.length_map]
        show min 1 (r.2.length + 1) = 1
        omega
      rw [HT.sIx_none, e]
      show List.take _ (r.2.map sV) = _
      refine List.take_of_length_le ?_
      rw [List.length_map, List.length_map]
      show r.2.length ≤ r.2.length + 1 - 1
      omega
    refine ⟨p, _, rfl, SqL.of (e2 _ _ h1), w_new fun u H3 hu3 e3 h3 => ?_⟩
    rw [wv] at h3
    refine ⟨q, u, _, _, rfl, rfl, e3 _ _ h2, h3, szs (by rw [List.length_map]; show 1 + _ ≤ _; omega), w_new fun v H4 hv e4 h4 => ?_⟩
    have h4 : LAt H4 v (r.1 :: r.2) := h4
    have allN : ∀ x ∈ r.1 :: r.2, nameB x = true := fun x hx => by
      rcases List.mem_cons.mp hx with z | z
      · rw [z]; exact hn
      · exact hl x z
    refine ⟨v, rfl, ⟨_, SqL.of h4⟩, lc_L (K := K) (SqL.of h4) (fun i ys H' => ys = (List.replicate i true).map V.bl) (fun _ _ _ _ _ q => q) rfl (by rw [List.length_map, List.length_cons]; omega) ?_ ?_⟩
    · rintro i y ys H5 hi e5 rfl N M hN hM
      obtain ⟨x, hx, rfl⟩ := map_at hi
      have hxn := allN x (List.mem_of_getElem? hx)
      walk_at "go"
      refine ⟨rfl, ?_⟩
      walk_at "go"
      refine brT rfl ?_
      walk_at "go"
      refine ⟨x, rfl, (by have := (name_parts hxn).2.1; omega), fun H6 e6 => ?_⟩
      rw [hxn]
      refine hN _ _ e6 ?_
      rw [List.replicate_succ', List.map_append]
      rfl
    · rintro D ys H5 hDn e5 hD5 _ rfl
      walk_at "go"
      have e : (List.replicate ((r.1 :: r.2).map sV).length true).all id = true := List.all_eq_true.mpr fun b hb => by
        rw [(List.mem_replicate.mp hb).2]
        rfl
      refine ⟨D, _, rfl, SqL.of hD5, ?_⟩
      rw [e]
      refine ⟨_, rfl, brF rfl ?_⟩
      walk_at "go"
      have e15 := (e2.trans e3).trans (e4.trans e5)
      refine w_ixL (SqL.of (e15 _ _ h1)) p0 ?_
      walk_at "go"
      refine ⟨_, rfl, ?_⟩
      walk_at "go"
      refine ⟨_, rfl, ?_⟩
      walk_at "go"
      refine ⟨_, rfl, szs (by omega), ?_⟩
      rw [c2]
      walk_at "go"
      refine ⟨_, rfl, ?_⟩
      walk_at "go"
      refine ⟨p, _, rfl, SqL.of (e15 _ _ h1), w_new fun u2 H6 hu6 e6 h6 => ?_⟩
      rw [wv] at h6
      walk_at "go"
      refine ⟨u2, _, rfl, .inl ⟨SqL.of h6, w_new fun u3 H7 hu7 e7 h7 => ?_⟩⟩
      walk_at "go"
      refine ⟨szs (show 2 ≤ 100000 by decide), w_new fun t H8 ht e8 h8 => ?_⟩
      exact k t H8 ((e1.trans e15).trans ((e6.trans e7).trans e8)) ⟨u3, h8, e8 _ _ h7⟩
def sp_read_ground (K : PySem.W.Frag) : Sp := fun vs H Q _ => ∃ (rows : List Rw), vs = [.str (textF rows)] ∧ RowsOk rows ∧ ∀ g H2, Ex H H2 → GAt K H2 g (gOf rows) → Q (.ref g) H2
theorem sc_read_ground : FnScope ["text", "rows", "line"] ["text"] (defScope s_read_ground) := ⟨rfl, rfl, rfl, by decide +kernel, rfl, by decide +kernel, by decide +kernel⟩
theorem D_read_ground (T : Tx K mg) : Def P w K mg base 5 (He.ga K "read_ground") ["text"] (sp_read_ground K) := by
  refine Def.make T (d := d_read_ground) 48 rfl rfl rfl sc_read_ground (fun _ _ _ _ _ _ us hl => match us, hl with | [_], _ => rfl) (fun vs H Q E h => ?_) (fun cdv A outer s H vs Q E hr h => ?_)
  · obtain ⟨rows, rfl, _⟩ := h
    rfl
  · obtain ⟨rows, rfl, ok, k⟩ := h
    have nd := sc_read_ground.nd
    have hmany := ok.many
    have hlead : ∀ r ∈ rows, r.2.length ≤ 9 := fun r hr => by
      have := nodup_le r.2 (rows.map (·.1)) (ok.lnd r hr) (ok.inn r hr)
      rw [List.length_map] at this
      omega
    have hlen : (textF rows).length ≤ 10000 := by
      have e : nlS.length = 1 := by decide +kernel
      have := join_len (y := nlS) (parts := rows.map lineF) (b := 100) fun p hp => by
        obtain ⟨r, hr, rfl⟩ := List.mem_map.mp hp
        have h1 := line_len (ok.nm r hr) fun y hy => lead_name ok hr hy
        have h2 := hlead r hr
        omega
      rw [e, List.length_map] at this
      have h3 : rows.length * (100 + 1) ≤ 9 * (100 + 1) := Nat.mul_le_mul_right _ hmany
      exact Nat.le_trans this (by omega)
    refine ⟨_, (pss_cons (ps_if (pt_not (pt_val (pe_callB call_isi (by rfl) T.f_isinstance (by decide +kernel) (pa_cons (pv 0) (pa_cons (pe_bltn (v := .ty "str") (by rfl) T.f_str (by decide +kernel) rfl) pa_nil))))) (pss_one ps_never) pss_nil)
    (pss_cons (ps_setLc (i := 1) (own := [("line", 2)]) rfl nd rfl rfl (sw_true rfl rfl rfl (by decide +kernel)) (pi_list (PE.nm (pe_split (pv 0) pe_str))) (blkOk_by (N := ["text", "rows", "line"]) (sc := defScope s_read_ground) (by decide +kernel)) (fun _ _ _ _ _ => (pg_name (i := 2) nd rfl (Or.inl rfl))) (fun _ _ _ _ _ => pts_nil) (fun _ _ _ _ _ => (pe_callX (D_row_in T) (hr.mono (by decide)) rfl T.g_row_in (pa_cons (pv 2) pa_nil))))
    (pss_cons (ps_if (pt_cmpR (op_inD (Room.units1 hr)) pe_non (pv 1) rfl) (pss_one ps_never) pss_nil)
    (pss_one (ps_ret (PE.nm (pe_makeX (D_Ground_init T) (hr.mono (by decide)) T.k_Ground rfl T.g_Ground (pa_cons (pv 1) pa_nil)))))))), ?_⟩
    walk_at "go"
    refine ⟨_, _, _, _, true, rfl, .ty "str", .base (.str _), kit_ty (by decide +kernel), ?_⟩
    walk_at "go"
    refine brF rfl ?_
    walk_at "go"
    refine w_m1 ?_
    walk_at "go"
    refine ⟨⟨_, rfl⟩, ?_⟩
    walk_at "go"
    refine ⟨_, _, rfl, rfl, (by decide +kernel), ?_, w_new fun p H1 hp e1 h1 => ?_⟩
    · refine szs (n := (textF rows).length + 2) ?_
      omega
    rw [split_text ok.pos ok.nm fun r hr y hy => lead_name ok hr hy] at h1
    have h1 : LAt H1 p (rows.map lineF) := h1
    refine ⟨p, rfl, ⟨_, SqL.of h1⟩, lc_L (K := K) (SqL.of h1) (fun i ys H' => ∃ ts : List Addr, ys = ts.map V.ref ∧ Paired (RowAt H') ts (rows.take i)) (fun i ys H H' q ⟨ts, a, b⟩ => ⟨ts, a, rows_tm q b⟩) ⟨[], rfl, .nil⟩ (by rw [List.length_map, List.length_map]; omega) ?_ ?_⟩
    · rintro i y ys H2 hi e2 ⟨ts, rfl, hts⟩ N M hN hM
      obtain ⟨z, hz, rfl⟩ := map_at hi
      rw [List.getElem?_map] at hz
      cases hr1 : rows[i]? with
      | none => rw [hr1] at hz; cases hz
      | some r =>
        rw [hr1] at hz
        obtain rfl := Option.some.inj hz
        have hrm := List.mem_of_getElem? hr1
        walk_at "go"
        refine ⟨rfl, ?_⟩
        walk_at "go"
        refine brT rfl ?_
        walk_at "go"
        refine ⟨r, rfl, ok.nm r hrm, fun y hy => lead_name ok hrm hy, (by have := hlead r hrm; omega), fun t H3 e3 ht => ?_⟩
        refine hN _ _ e3 ⟨ts ++ [t], by rw [List.map_append]; rfl, ?_⟩
        rw [tk hr1]
        exact (rows_tm (Tm.of e3) hts).snoc ht
    · rintro D ys H2 hDn e2 hD2 _ ⟨ts, rfl, hts⟩
      rw [List.length_map, List.length_map, List.take_length] at hts
      walk_at "go"
      have any : (rows.map rwD).any (fun z => PyData.eqv z .none) = false := List.any_eq_false.mpr fun z hz => by
        obtain ⟨r, _, rfl⟩ := List.mem_map.mp hz
        exact Bool.false_ne_true
      refine ⟨.none, _, .non, .lst (SqL.of hD2) (dpAll_pair (fun _ _ z => dp_row z) hts), rfl, rows_shaped ok, ?_⟩
      rw [any]
      refine ⟨_, rfl, brF rfl ?_⟩
      walk_at "go"
      exact mkG ⟨ts, hD2, hts⟩ ok fun x H3 hx e3 hG => k x H3 ((e1.trans e2).trans e3) hG
end
end K96

set_option Elab.async false
set_option linter.all false
set_option maxRecDepth 100000
set_option maxHeartbeats 4000000
/-! K96KR: rules: list(reversed(range(..))), len(set(..)) of any ints, sorted of a dict whose keys are pairs. -/
namespace PySem
open Sem (wp)
theorem k96_hint_meets (r : Addr) (a n c : Value) (m : Int) (t : Tok) (hn : n = .int m t) :
    Meets (Builtin.«range_iterator.__length_hint__» ⟨[.ref r], []⟩) (fun _ R s => s.heap.get? r = some { cls := .type "range_iterator", dict := none, data := .fields #[a, n, c], slots := #[] } ∧ ∀ u tk, s.toks ≤ tk → R (.ok (.ret (.int m u))) { s with toks := tk }) := by
  subst hn
  exact .of_wp fun prog w A R s h => by obtain ⟨hp, g, d, tk, os⟩ := s; obtain ⟨hl, h⟩ := h; wp_walk; exact ⟨_, rfl, h _ _ (by simp)⟩
section
variable {prog : Program} {w : World} {A : Around} {E : Value → Shared → Prop} {s : Shared} {r : Addr} {a c : Int} {n : Nat}
theorem k96_hint {Q : Value → Shared → Prop} {x m st : Int} (hr : IsRangeIter s.heap r x m st) (h : ∀ u tk, s.toks ≤ tk → Q (.int m u) { s with toks := tk }) : wpAny (model prog w) A (call (.builtin "range_iterator.__length_hint__") [.ref r]) Q E s :=
  call_meets F.slot_range_iterator_length_hint ⟨_, hr, rfl⟩ F.entry_range_iterator_length_hint (F.args_range_iterator_length_hint_1 _) (k96_hint_meets r (rawInt x) (rawInt m) (rawInt st) m 0 rfl) ⟨hr, h⟩
/-- a list takes all of a range's iterator -/
theorem k96_extend {R : Result → Shared → Prop} (hh : A.handled = none) (hok : IsRangeIter s.heap r a (n : Int) c) (S : Addr) (hSr : S ≠ r) (res : Value) (c₀ : Nat) (hS : s.heap.get? S = some { cls := .type "list", data := .seq #[] c₀ }) (hn : n ≤ 1000)
    (hR : ∀ h' tk acc' c', (∀ b o, b ≠ S → b ≠ r → s.heap.get? b = some o → h'.get? b = some o) → h'.get? S = some { cls := .type "list", dict := none, data := .seq acc' c', slots := #[] } → ItemsOf (fun i v => ∃ t, v = .int (a + i * c) t) acc' n → R (.ok (.ret res)) { s with heap := h', toks := tk }) :
    wpAny (model prog w) A.in1 (Builtin.List.listExtendWith (.ref S) (.ref r) res)
      (fun fin s' => match fin with | .done f => R (.ok f) s' | .again c' => c'.quiet = true ∧ codeAny (model prog w) A c' R s') (fun e s' => R (.error e) s') s := by
  have W := Walks.range (prog := prog) (w := w) (A := A.in1) hh r a c n
  have hSf : S ∉ [r] := by simp only [List.mem_cons, List.not_mem_nil, or_false]; exact hSr
  have hT : s.TypeIs (.ref r) "range_iterator" := ⟨_, hok, rfl⟩
  have hst : IsRangeIter s.heap r (a + ((0 : Nat) : Int) * c) ((n : Int) - ((0 : Nat) : Int)) c := by
    have e1 : a + ((0 : Nat) : Int) * c = a := by simp
    have e2 : (n : Int) - ((0 : Nat) : Int) = n := by simp
    rw [e1, e2]
    exact hok
  unfold Builtin.List.listExtendWith
  refine wpAny_bind (wpAny_typeOf hT ?_)
  have h1 : Builtin.List.listSameRef (.ref S) (.ref r) = false := by simp [Builtin.List.listSameRef, hSr]
  rw [if_neg (by rw [h1]; decide)]
  refine wpAny_bind (W.self 0 _ _ _ hst ?_)
  refine wpAny_bind (wpAny_holding ?_)
  unfold Builtin.List.listLengthHint
  refine wpAny_bind (wpAny_specialOf hT F.nolen_ra ?_)
  show wpAny _ A.in1 (specialOf (Value.ref r) (Str.ofString "__length_hint__") >>= _) _ _ _
  refine wpAny_bind (wpAny_specialOf hT F.hint_ra ?_)
  (generalize hid : ("range_iterator.__length_hint__" : String) = id0; (fail_if_success (clear hid id0)); wp_delta; rw [show splitId id0 = some ("range_iterator", "__length_hint__") from by subst hid; decide +kernel]; subst hid)
  refine wpAny_bind (wpAny_isInstance (b := true) hT (by rw [isSubtype_type]; kernel_rfl) ?_)
  show wpAny _ A.in1 (call (.builtin "range_iterator.__length_hint__") [.ref r] >>= _) _ _ _
  refine wpAny_bind (k96_hint hok fun u tk htk => ?_)
  refine wpAny_bind (m := asInt? (.int (n : Int) u)) (wpAny_pure ?_)
  dsimp only
  have hk : Builtin.List.listTooLong (Int.toNat (n : Int)) = false := by
    unfold Builtin.List.listTooLong
    rw [Int.toNat_natCast]
    have := sizeLine_eq
    exact decide_eq_false (by omega)
  rw [if_neg (by rw [hk]; decide)]
  refine wpAny_pure ?_
  rw [if_neg (by decide)]
  refine wpAny_pure ⟨plainId_quiet F.plain_extend_loop _, codeAny_extend_loopS W.toS (by have := sizeLine_eq; omega) S hSf res n 0 { s with toks := tk } #[] c₀ rfl (Nat.zero_le _) hst hS (ItemsOf.nil _) fun s' acc' c' hm hS' hacc => ?_⟩
  rw [Moved.eq_with hm]
  refine hR s'.heap s'.toks acc' c' (fun b o hb hbr e => hm.heap b o (fun hmem => ?_) e) hS' hacc
  rcases List.mem_cons.mp hmem with e' | hmem
  · exact hb e'
  · exact hbr (List.mem_singleton.mp hmem)
theorem k96_init {R : Result → Shared → Prop} (hh : A.handled = none) (hok : IsRangeIter s.heap r a (n : Int) c) (S : Addr) (hSr : S ≠ r) (hS : s.heap.get? S = some { cls := .type "list", data := .seq #[] }) (hn : n ≤ 1000)
    (hR : ∀ h' tk acc' c', (∀ b o, b ≠ S → b ≠ r → s.heap.get? b = some o → h'.get? b = some o) → h'.get? S = some { cls := .type "list", dict := none, data := .seq acc' c', slots := #[] } → ItemsOf (fun i v => ∃ t, v = .int (a + i * c) t) acc' n → R (.ok (.ret .none)) { s with heap := h', toks := tk }) :
    wpAny (model prog w) A.in1 (Builtin.«list.__init__» ⟨[.ref S, .ref r], []⟩)
      (fun fin s' => match fin with | .done f => R (.ok f) s' | .again c' => c'.quiet = true ∧ codeAny (model prog w) A c' R s') (fun e s' => R (.error e) s') s := by
  show wpAny _ _ (do let old ← Builtin.List.listItems (.ref S); Builtin.List.listUpdate (.ref S) (fun _ => #[]); letGo old.toList.reverse; Builtin.List.listExtendWith (.ref S) (.ref r) .none) _ _ s
  refine wpAny_bind ?_
  unfold Builtin.List.listItems
  refine wpAny_bind (wpAny_seqItems hS rfl (wpAny_pure ?_))
  show wpAny _ _ (updateSeq S (fun _ => #[]) >>= fun _ => letGo (#[] : Array Value).toList.reverse >>= fun _ => Builtin.List.listExtendWith (.ref S) (.ref r) .none) _ _ s
  refine wpAny_bind (wpAny_updateSeq hS rfl ?_)
  have hS₂ := Heap.get?_update_self (Obj.mapSeq (fun _ => (#[] : Array Value))) hS rfl
  have oth : ∀ b o, b ≠ S → s.heap.get? b = some o → (s.heap.update S (Obj.mapSeq (fun _ => (#[] : Array Value)))).get? b = some o :=
    fun b o hb e => (Heap.get?_update_other _ _ (Ne.symm hb)).trans e
  refine wpAny_bind (wpAny_letGo ?_)
  refine k96_extend hh (oth _ _ hSr.symm hok) S hSr .none _ hS₂ hn (fun h' tk acc' c' hk hS' hacc => ?_)
  exact hR h' tk acc' c' (fun b o hb hbr e => hk b o hb hbr (oth b o hb e)) hS' hacc
/-- list(it) -/
theorem k96_list {Q : Value → Shared → Prop} (hh : A.handled = none) (hok : IsRangeIter s.heap r a (n : Int) c) (hn : n ≤ 1000)
    (hQ : ∀ h' tk acc' c', (∀ b o, b ≠ r → s.heap.get? b = some o → h'.get? b = some o) → h'.get? s.heap.objs.size = some { cls := .type "list", dict := none, data := .seq acc' c', slots := #[] } → ItemsOf (fun i v => ∃ t, v = .int (a + i * c) t) acc' n → Q (.ref s.heap.objs.size) { s with heap := h', toks := tk }) :
    wpAny (model prog w) A (call (.type "list") [.ref r]) Q E s := by
  refine callType_codes (Q₁ := fun obj s₁ => obj = .ref s.heap.objs.size ∧ s₁ = { s with heap := s.heap.push { cls := .type "list", data := .seq #[] } }) PySem.F.called_list (PySem.F.typeCall_list_1 _) PySem.F.entry_list_init
    (code_list_new _ ⟨rfl, rfl⟩) fun obj s₁ h₁ => ?_
  obtain ⟨rfl, rfl⟩ := h₁
  have hS : (s.heap.push { cls := .type "list", data := .seq #[] }).get? s.heap.objs.size = some { cls := .type "list", data := .seq #[] } := Heap.get?_push_size _ rfl
  have hlt : r < s.heap.objs.size := Heap.lt_size hok
  refine ⟨⟨_, hS, rfl⟩, PySem.F.args_list_init_2 _ _, k96_init (A := A.in1) hh (Heap.get?_push_of_some _ hok) _ (Nat.ne_of_gt hlt) hS hn (fun h' tk acc' c' hk hS' hacc => ?_)⟩
  exact ⟨rfl, hQ h' tk acc' c' (fun b o hbr e => hk b o (Nat.ne_of_lt (Heap.lt_size e)) hbr (Heap.get?_push_of_some _ e)) hS' hacc⟩
end
end PySem
namespace K96
open PySem PySem.Spec PyProof.Rows L2
/-! ### list(reversed(range(n))) -/
def tListRev (tr : L2.St → Hp → (Int → Int → Hp → Prop) → Prop) : TE := fun σ H Q => tr σ H fun a b H1 => a = 0 ∧ 0 ≤ b ∧ b ≤ 1000 ∧ ∀ p, H1 p = none → Q (.ref p) (upd H1 p (.lst ((List.range b.toNat).map fun i => V.int (b - 1 - (i : Nat)))))
theorem pe_listRev {X : Cx} {e : Expr} {tr : L2.St → Hp → (Int → Int → Hp → Prop) → Prop} {p p2 pos pos2 : Pos} (hc : X.calm = true) (hg : Gl X "list") (hm : X.mg "list" = none) (hg2 : Gl X "reversed") (hm2 : X.mg "reversed" = none) (he : PRg X e tr)
    (hs : starEach [e] X.env = (false, eval e X.env) :: starEach [] X.env := by rfl) (na : starEach [.Call (.Name "reversed" p) [e] [] pos] X.env = (false, eval (.Call (.Name "reversed" p) [e] [] pos) X.env) :: starEach [] X.env := by rfl) :
    PE X (.Call (.Name "list" p2) [.Call (.Name "reversed" p) [e] [] pos] [] pos2) (tListRev tr) := by
  refine ⟨fun pins s σ H Q I h => ?_⟩
  refine Call_ (ld_blt I hg hm PyProof.Rows.boot_list ?_)
  refine PyProof.Rows.callWith_type1 (PyProof.Rows.args_cons ?_ na) na rfl
  refine Call_ (ld_blt I hg2 hm2 PyProof.Rows.boot_reversed (PyProof.Rows.callWith_type1 (PyProof.Rows.args_cons (thn (he pins s σ H _ I h) fun u s1 hx => PyProof.Rows.args_nil ?_) hs) hs rfl))
  obtain ⟨r, a, b, t, w1, v, H1, eu, hr, I1, ea, hb0, hb1, q⟩ := hx
  subst eu
  subst ea
  have hn : Builtin.Range.rangeSize 0 b 1 = ((b.toNat : Nat) : Int) := by
    have z := rangeSize_nat 0 b
    rw [Int.sub_zero] at z
    exact z
  refine call_reversed_range hr (smallRev_one (by decide) (by decide) (by omega) (by omega)) (PyProof.Rows.args_nil ?_)
  have hit : IsRangeIter (s1.heap.push (rngRevObj 0 b 1)) s1.heap.objs.size (b - 1) ((b.toNat : Nat) : Int) (-1) := by
    have z : (s1.heap.push (rngRevObj 0 b 1)).get? s1.heap.objs.size = some (rngRevObj 0 b 1) := Heap.get?_push_size _ rfl
    have e1 : (0 : Int) + (((b.toNat : Nat) : Int) - 1) * 1 = b - 1 := by omega
    have e2 : rngRevObj 0 b 1 = { cls := .type "range_iterator", dict := none, data := .fields #[rawInt (b - 1), rawInt ((b.toNat : Nat) : Int), rawInt (-1)], slots := #[] } := by
      unfold rngRevObj
      rw [hn, e1]
    exact z.trans (by rw [e2])
  refine k96_list (s := { s1 with heap := s1.heap.push (rngRevObj 0 b 1) }) (I1.ok.hd hc) hit (by omega) fun h' tk acc c' hk hS hacc => ?_
  have kp : ∀ b' o, s1.heap.get? b' = some o → h'.get? b' = some o := fun b' o e => hk b' o (Nat.ne_of_lt (Heap.lt_size e)) (Heap.get?_push_of_some _ e)
  have rv : Vals ((List.range b.toNat).map fun i => V.int (b - 1 - (i : Nat))) acc.toList := by
    refine vals_of_at (by rw [List.length_map, List.length_range, Array.length_toList, hacc.1]) fun j x u h1 h2 => ?_
    obtain ⟨t', e⟩ := hacc.2 j u (by rw [← Array.getElem?_toList]; exact h2)
    rw [List.getElem?_map] at h1
    cases e3 : (List.range b.toNat)[j]? with
    | none => rw [e3] at h1; cases h1
    | some i =>
      rw [e3] at h1
      have hlt := (List.getElem?_eq_some_iff.mp e3).1
      rw [List.length_range] at hlt
      rw [List.getElem?_range hlt] at e3
      obtain rfl := Option.some.inj e3
      have h1 := Option.some.inj h1
      subst h1
      rw [e]
      refine ⟨t', ?_⟩
      have : b - 1 + (j : Int) * (-1) = b - 1 - (j : Int) := by omega
      rw [this]
  have hsz : (s1.heap.push (rngRevObj 0 b 1)).objs.size = s1.heap.objs.size + 1 := by rw [Heap.size_push]
  refine ⟨.ref (s1.heap.push (rngRevObj 0 b 1)).objs.size, upd H1 (s1.heap.push (rngRevObj 0 b 1)).objs.size (.lst ((List.range b.toNat).map fun i => V.int (b - 1 - (i : Nat)))), I1.laid (t' := tk) kp (by rw [hsz]; exact Nat.le_succ _)
    (show ObjOk X.prog X.w _ _ _ (.lst _) from ⟨by rw [List.length_map, List.length_range]; exact K96.szs (by omega), acc.toList, c', rv, by rw [Array.toArray_toList]; exact hS⟩), rfl, q _ (I1.hok.fresh (by rw [hsz]; exact Nat.le_succ _))⟩
/-! ### len(set(xs)), any ints -/
def nubL (ns : List Int) : List Int := firstMet (fun i => ns.getD i 0) ns.length
def tLenSet (K : PySem.W.Frag) (ta : TE) : TE := fun σ H Q => ta σ H fun x H1 => ∃ (l : Addr) (ns : List Int), x = V.ref l ∧ SqL K H1 l (ns.map V.int) ∧ ns.length < 64 ∧ Q (.int (nubL ns).length) H1
theorem pe_lenSetA {X : Cx} {a : Expr} {ta : TE} {p p2 q pos : Pos} (hc : X.calm = true) (hg : Gl X "len") (hm : X.mg "len" = none) (hg2 : Gl X "set") (hm2 : X.mg "set" = none) (ha : PE X a ta)
    (na : starEach [a] X.env = (false, eval a X.env) :: starEach [] X.env := by rfl) : PE X (.Call (.Name "len" p) [.Call (.Name "set" p2) [a] [] q] [] pos) (tLenSet X.K ta) := by
  refine ⟨fun pins s σ H Q I h => ?_⟩
  refine Call_ (ld_blt I hg hm PySem.boot_len ?_)
  refine PyProof.Rows.callWith_builtin1 (PyProof.Rows.args_cons ?_ rfl) rfl rfl
  refine Call_ (ld_blt I hg2 hm2 PyProof.Rows.boot_set ?_)
  refine PyProof.Rows.callWith_type1 (PyProof.Rows.args_cons (thn (ha.run pins s σ H _ I h) fun v s1 ⟨x, H1, I1, r1, q1⟩ => PyProof.Rows.args_nil ?_) na) na rfl
  obtain ⟨l, ns, rfl, hq, h1, q1⟩ := q1
  cases r1
  obtain ⟨its, r, pl, hz⟩ := I1.list hq
  have hl : its.toArray.size = ns.length := by rw [List.size_toArray, ← r.length, List.length_map]
  refine call_set_list (I1.ok.hd hc) pl.isList (ns := ns) (by simpa using r.ints) (by unfold scanBound; omega) fun h' tk hS hk => ?_
  rw [hl] at hS
  refine PyProof.Rows.args_nil ?_
  obtain ⟨o, es, ep, t, ho, hex, hd, _, _, _, hf, hn⟩ := hS
  have I2 : Inv X pins σ H1 { s1 with heap := h', toks := tk } := I1.kept fun b o e => hk b o (Heap.lt_size e) e
  have hle := firstMet_length_le (fun i => ns.getD i 0) ns.length
  refine call_len_set ho hex hd hf (by rw [hn]; omega) ⟨.int (nubL ns).length, H1, I2.tok _, ⟨_, by rw [hn]; rfl⟩, q1⟩
end K96

set_option Elab.async false
set_option linter.all false
set_option maxRecDepth 100000
set_option maxHeartbeats 4000000
/-! K96KS: rule: sorted of a dict whose keys are pairs of ints. -/
namespace K96
open PySem PySem.Spec PyProof.Rows L2
/-- the two ints of a tuple -/
def prF (H : Hp) (x : V) : Int × Int := match x with
  | .ref t => (match H t with
    | some (.tup [.int a, .int b]) => (a, b)
    | _ => (0, 0))
  | _ => (0, 0)
def rSortDT : List V → Hp → VK → Prop := fun vs H Q => ∃ (d : Addr) (kvs : List (List Key × V)), vs = [.ref d] ∧ Rd H d (.dT kvs) ∧ (∀ p ∈ kvs, ∃ a b : Int, p.1 = [Sum.inl a, Sum.inl b]) ∧
  ∀ (bs ys : List Addr) p, IsKeys H kvs bs → ys.Perm bs → (kvs.map (·.1)).Nodup → H p = none → Q (.ref p) (upd H p (.lst (ys.map V.ref)))
theorem back_refs : ∀ {out : List Value}, (∀ u ∈ out, ∃ a, u = Value.ref a) → ∃ ys : List Addr, out = ys.map Value.ref
  | [], _ => ⟨[], rfl⟩
  | u :: us, h => by
    obtain ⟨a, rfl⟩ := h u (List.mem_cons_self ..)
    obtain ⟨ys, rfl⟩ := back_refs fun x hx => h x (List.mem_cons_of_mem _ hx)
    exact ⟨a :: ys, rfl⟩
theorem ref_inj {xs ys : List Addr} (h : xs.map Value.ref = ys.map Value.ref) : xs = ys := by
  induction xs generalizing ys with
  | nil => cases ys with | nil => rfl | cons _ _ => cases h
  | cons a r ih => cases ys with
    | nil => cases h
    | cons b s =>
      injection h with h1 h2
      injection h1 with h1
      rw [h1, ih h2]
theorem perm_refs {ys bs : List Addr} (h : (ys.map Value.ref).Perm (bs.map Value.ref)) : ys.Perm bs := by
  have f : ∀ l : List Addr, (l.map Value.ref).filterMap (fun v => match v with | .ref a => some a | _ => none) = l := by
    intro l
    induction l with
    | nil => rfl
    | cons a r ih =>
      rw [List.map_cons, List.filterMap_cons]
      show a :: _ = _
      rw [ih]
  have := h.filterMap (fun v => match v with | Value.ref a => some a | _ => none)
  rw [f, f] at this
  exact this
theorem cr_sortedDT {X : Cx} (hc : X.calm = true) : CallR X (.builtin "sorted") rSortDT := by
  intro pins s σ H xs us Q I r h
  obtain ⟨d, kvs, rfl, hd, hk, q⟩ := h
  obtain ⟨u, rfl, rx⟩ := vals1 r
  obtain rfl : u = Value.ref d := rx
  obtain ⟨z, hs, ks, pr, o, es, ep, ho, hx, hdt, he, hn⟩ := (show ObjOk X.prog X.w H s.heap d (.dT kvs) from hd.ok I.hok)
  have l1 : es.size = ks.length := size_of_entries he
  have l2 : kvs.length = ks.length := Paired.length pr
  have hik := isKeys_of pr
  have nd : (kvs.map (·.1)).Nodup := by
    have e : ∀ {kvs : List (List Key × V)} {ks : List (List Key × Addr × Value)}, KT H kvs ks → kvs.map (·.1) = ks.map (·.1) := by
      intro kvs ks h
      unfold KT at h
      induction h with
      | nil => rfl
      | cons h t ih => rw [List.map_cons, List.map_cons, ih, h.1]
    rw [e pr]
    exact hn
  refine Calls.call_function_entry PyProof.Rows.kind_sorted PyProof.Rows.plain_sorted PyProof.Rows.entry_sorted (PyProof.Rows.args_sorted1 _) ?_
  unfold Builtin.«sorted»
  refine wpAny_bind (m := checkCount "sorted" 1 1 _) (wpAny_pure ?_)
  refine wpAny_bind (PySem.W.kdu_collect (A := X.A.in1) (kdl_raw hs hx hdt) (I.ok.hd hc) ho (by omega) fun h' tk acc' kp it => ?_)
  have ea : acc'.toList = ks.map fun x => Value.ref x.2.1 := by
    have hl : acc'.toList.length = ks.length := by rw [Array.length_toList, it.1]; exact l1
    apply List.ext_getElem?
    intro j
    rw [List.getElem?_map]
    cases hj : acc'.toList[j]? with
    | none =>
      have h1 := List.getElem?_eq_none_iff.mp hj
      rw [List.getElem?_eq_none (by omega)]
      all_goals rfl
    | some v =>
      obtain ⟨en, hen, hv⟩ := it.2 j v (by rw [← Array.getElem?_toList]; exact hj)
      have qe := entry_at he j
      rw [hen] at qe
      cases hb : ks[j]? with
      | none =>
        rw [hb] at qe
        exact nomatch (show some en = none from qe)
      | some b =>
        rw [hb] at qe
        have e2 : en = entryOfKey (tupleKind (mixKind X.prog X.w)) b := Option.some.inj qe
        rw [hv, e2]
        all_goals rfl
  have eb : acc'.toList = (ks.map fun x => x.2.1).map Value.ref := by rw [ea, List.map_map]; all_goals rfl
  generalize hbs : (ks.map fun x => x.2.1) = bs at eb hik
  have hbl : bs.length ≤ sizeLine := by rw [← hbs, List.length_map, ← l2]; exact z
  have hz : acc'.toList.length ≤ sizeLine := by rw [eb, List.length_map]; exact hbl
  have I1 : Inv X pins σ H { s with heap := h', toks := tk } := I.kept kp
  refine wpAny_bind (wpAny_newList ?_ hz)
  have hoL : (h'.push (seqObj "list" acc'.toList.toArray 0)).get? h'.objs.size = some (seqObj "list" acc'.toList.toArray 0) := Heap.get?_push_size _ rfl
  show wpAny _ _ _ _ _ { s with heap := h'.push (seqObj "list" acc'.toList.toArray 0), toks := tk }
  -- each is a pair
  have isP : ∀ b ∈ bs, ∃ x y : Int, H b = some (.tup [.int x, .int y]) := fun b hb => by
    obtain ⟨j, hj⟩ := List.mem_iff_getElem?.mp hb
    have key : ∀ {kvs : List (List Key × V)} {bs : List Addr} {j : Nat}, IsKeys H kvs bs → bs[j]? = some b → ∃ p ∈ kvs, H b = some (.tup (p.1.map kV)) := by
      intro kvs bs j h
      unfold IsKeys at h
      induction h generalizing j with
      | nil => intro h; simp at h
      | @cons p b' _ _ h t ih =>
        intro hj
        cases j with
        | zero =>
          have e : b' = b := Option.some.inj hj
          subst e
          exact ⟨p, List.mem_cons_self .., h⟩
        | succ j =>
          obtain ⟨p', hp', e⟩ := ih (j := j) hj
          exact ⟨p', List.mem_cons_of_mem _ hp', e⟩
    obtain ⟨p, hp, e⟩ := key hik hj
    obtain ⟨x, y, e2⟩ := hk p hp
    rw [e2] at e
    exact ⟨x, y, e⟩
  have pairs : ∀ v ∈ acc'.toList, Srt.IsPair (h'.push (seqObj "list" acc'.toList.toArray 0)) v (prF H (backV v)).1 (prF H (backV v)).2 := fun v hv => by
    rw [eb] at hv
    obtain ⟨t, ht, rfl⟩ := List.mem_map.mp hv
    obtain ⟨x, y, hxy⟩ := isP t ht
    have e : prF H (backV (.ref t)) = (x, y) := by
      show (match H t with | some (.tup [.int a, .int b]) => (a, b) | _ => ((0, 0) : Int × Int)) = (x, y)
      rw [hxy]
    rw [e]
    obtain ⟨_, its2, r2, o, ho, hc', n, hd'⟩ := I1.hok _ _ hxy
    obtain ⟨u1, u2, rfl, ri, rj⟩ := vals2 r2
    obtain ⟨t1, rfl⟩ := ri
    obtain ⟨t2, rfl⟩ := rj
    exact ⟨t, o, t1, t2, n, rfl, Heap.get?_push_of_some _ ho, hc', hd'⟩
  refine wpAny_bind (wpAny_holding (wpAny_call_entry PyProof.Rows.slot_list_sort ⟨_, hoL, rfl⟩ PyProof.Rows.entry_list_sort
    (SrtO.list_sort_ord (s := { s with heap := h'.push (seqObj "list" acc'.toList.toArray 0), toks := tk }) (SrtO.swo_lex fun u => prF H (backV u)) hoL hz (fun h2 => SrtO.pairs_sortableO (s := { s with heap := h'.push (seqObj "list" acc'.toList.toArray 0), toks := tk }) (by omega) pairs fun o e => ?_) fun out hs hb => ⟨_, rfl, ?_⟩)
    (PyProof.Rows.args_list_sort _)))
  · have e' : some o = some (seqObj "list" acc'.toList.toArray 0) := e.symm.trans hoL
    cases e'
    intro c
    exact absurd (Value.type.inj c) (by decide)
  · obtain ⟨e', he'⟩ := PyProof.Rows.sortedHeap_at (vs := acc'.toList) (out := out.toArray) hoL
    have h3 : ∀ u ∈ out, ∃ a, u = Value.ref a := fun u hu => by
      have := hb.perm.mem_iff.mp hu
      rw [eb] at this
      obtain ⟨a, _, e⟩ := List.mem_map.mp this
      exact ⟨a, e.symm⟩
    obtain ⟨ys, rfl⟩ := back_refs h3
    have hperm : ys.Perm bs := perm_refs (by rw [← eb]; exact hb.perm)
    have hlen : (ys.map V.ref).length ≤ sizeLine := by rw [List.length_map, hperm.length_eq]; exact hbl
    refine wpAny_pure ⟨_, rfl, .ref h'.objs.size, upd H h'.objs.size (.lst (ys.map V.ref)), I1.laid (t' := tk) (fun b u e => ?_) (Nat.le_refl _)
      (show ObjOk X.prog X.w _ _ _ (.lst (ys.map V.ref)) from ⟨hlen, ys.map Value.ref, e', vals_refs ys, he'⟩), rfl, q bs ys _ hik hperm nd (I1.hok.fresh (Nat.le_refl _))⟩
    have hb : b < h'.objs.size := Heap.lt_size e
    rw [PyProof.Rows.sortedHeap_old (Nat.ne_of_lt hb) (by rw [size_push']; exact Nat.lt_succ_of_lt hb)]
    exact Heap.get?_push_of_some _ e
end K96

set_option Elab.async false
set_option linter.all false
set_option maxRecDepth 100000
set_option maxHeartbeats 4000000
/-! K96KN: names drawn. -/
namespace K96
open PySem PySem.Spec PyProof.Rows L2 LamX NdefX
open Evl (Ex)
open TL (tl)
local macro_rules | `(tactic| walk_at "go") => `(tactic| repeat (first
  | with_reducible refine w_seq ?_
  | with_reducible refine w_asg ?_
  | with_reducible refine w_name ?_
  | with_reducible refine w_var rfl ?_
  | with_reducible refine w_c ?_
  | with_reducible refine w_op ?_
  | with_reducible refine w_I0 ?_
  | with_reducible refine w_drop ?_
  | with_reducible refine w_ret ?_
  | with_reducible refine w_if ?_
  | with_reducible refine w_next ?_
  | with_reducible refine w_test ?_
  | with_reducible refine w_B ?_
  | with_reducible refine w_bl ?_
  | with_reducible refine w_not ?_
  | with_reducible refine w_and ?_
  | with_reducible refine w_or ?_
  | with_reducible refine w_andV ?_
  | with_reducible refine w_orV ?_
  | with_reducible refine w_notV ?_
  | with_reducible refine w_cons ?_
  | with_reducible refine w_nil ?_
  | with_reducible refine w_cb ?_
  | with_reducible refine w_call ?_
  | with_reducible refine w_isN ?_
  | with_reducible refine w_notN ?_
  | with_reducible refine w_chain ?_
  | with_reducible refine w_sl ?_
  | with_reducible refine w_nopart ?_
  | with_reducible refine w_tupT ?_
  | with_reducible refine w_lstT ?_
  | with_reducible refine w_eq rfl ?_
  | with_reducible refine w_ne rfl ?_
  | with_reducible refine w_for ?_
  | with_reducible refine w_iL ?_
  | with_reducible refine w_iT ?_
  | with_reducible refine w_iR1 ?_
  | with_reducible refine w_iR2 ?_
  | with_reducible refine w_iE ?_
  | with_reducible refine w_iS ?_
  | with_reducible refine w_lc ?_
  | with_reducible refine w_nm ?_
  | with_reducible refine w_din ?_
  | with_reducible refine w_dnotin ?_
  | with_reducible refine w_dput ?_
  | with_reducible refine w_dget1 ?_
  | with_reducible refine w_dget2 ?_
  | with_reducible refine w_bm ?_
  | with_reducible refine w_bm0 ?_
  | with_reducible refine w_sfld ?_
  | with_reducible refine w_make ?_
  | with_reducible refine w_part ?_
  | with_reducible refine w_aug rfl ?_
  | with_reducible refine w_ip ?_
  | with_reducible refine w_yes ?_
  | with_reducible refine w_gcs ?_
  | with_reducible refine w_gnil ?_
  | with_reducible refine w_dget ?_
  | with_reducible refine w_fld ?_
  | with_reducible refine w_meth ?_))
local macro_rules | `(tactic| walk_at "ex") => `(tactic| repeat (first | assumption | exact Ex.refl _ | refine Ex.trans ?_ (by assumption)))
/-! ### comprehensions that read a source -/
/-- all but sources stand, nothing is gone -/
def Eq2 (H H' : Hp) : Prop := Et H H' ∧ Nb H H'
theorem Eq2.of {H H' : Hp} (e : Ex H H') : Eq2 H H' := ⟨Et.of e, Nb.of e⟩
theorem Eq2.refl (H : Hp) : Eq2 H H := ⟨Et.refl H, Nb.refl H⟩
theorem Eq2.trans {H H1 H2 : Hp} (a : Eq2 H H1) (b : Eq2 H1 H2) : Eq2 H H2 := ⟨a.1.trans b.1, a.2.trans b.2⟩
theorem Eq2.mut {H H1 : Hp} {p : Addr} {o : HO} (e : Eq2 H H1) (h : H p = none) : Eq2 H (upd H1 p o) := ⟨Et.mut e.1 h, e.2.trans Nb.upd⟩
theorem lc_genT {J : It} {n : Nat} {G : Hp → Prop} {Y : Nat → Hp → V → Hp → Prop} (wk : Walk J n G Y) {g : TG} {tt : TT} {te : TE} {vs : List Nat} {σ : L2.St} {H1 : Hp} {Q : Addr → Hp → Prop} (P : Nat → List V → Hp → Prop)
    (mono : ∀ i ys D H o zs, H D = some (.lst zs) → P i ys H → P i ys (upd H D (.lst o))) (hG : ∀ H', Eq2 H1 H' → G H') (hY : ∀ i H x H', Y i H x H' → Eq2 H H') (h0 : ∀ D, H1 D = none → P 0 [] (upd H1 D (.lst []))) (hn : n ≤ 100000)
    (step : ∀ i x ys H' H'', i < n → Eq2 H1 H' → P i ys H' → Y i H' x H'' → ∀ (N : V → Hp → Prop) (M : Hp → Prop), (∀ y H4, Eq2 H'' H4 → P (i + 1) (ys ++ [y]) H4 → N y H4) → (∀ H3, Eq2 H'' H3 → P (i + 1) ys H3 → M H3) →
      g x (wipe σ vs) H'' fun σ2 H2 => wipe σ2 vs = wipe σ vs ∧ tt σ2 H2 fun b H3 => if b = true then te σ2 H3 N else M H3)
    (done : ∀ D ys H', H1 D = none → Eq2 H1 H' → H' D = some (.lst ys) → ys.length ≤ n → P n ys H' → Q D H') :
    ∀ D, H1 D = none → ∃ W : Nat → Nat → Hp → Prop, (∃ m, W 0 m (upd H1 D (.lst []))) ∧ ∀ i m H, W i m H →
      (J.stop i H ∧ Q D H) ∨ (J.go i H ∧ ∃ Nx : Hp → Prop, (∀ H', Nx H' → ∃ m', m' < m ∧ W (i + 1) m' H') ∧ ∀ x H', J.yld i H x H' → g x (wipe σ vs) H' fun σ2 H2 => wipe σ2 vs = wipe σ vs ∧ tt σ2 H2 fun b H3 =>
        if b = true then te σ2 H3 fun y H4 => ∃ acc, H4 D = some (.lst acc) ∧ acc.length < sizeLine ∧ Nx (upd H4 D (.lst (acc ++ [y]))) else Nx H3) := by
  intro D hD
  have ns : ∀ ys : List V, notS (.lst ys) := fun ys a b c z => by cases z
  refine lc_it wk (fun i H' => Eq2 H1 H' ∧ ∃ ys, H' D = some (.lst ys) ∧ ys.length ≤ i ∧ P i ys H') ?_ (fun i H' _ ⟨e, _⟩ => hG H' e) ?_ ?_
  · exact ⟨Eq2.of (Ex.new hD), [], upd_same, Nat.le_refl _, h0 D hD⟩
  · rintro i x H' H'' hi ⟨e, ys, hys, hl, hP⟩ hy
    have eY := hY i H' x H'' hy
    refine step i x ys H' H'' hi e hP hy _ _ (fun y H4 e4 p4 => ?_) (fun H3 e3 p3 => ?_)
    · have hD4 : H4 D = some (.lst ys) := e4.1 _ _ (eY.1 _ _ hys (ns _)) (ns _)
      refine ⟨ys, hD4, szl (by omega), Eq2.mut ((e.trans eY).trans e4) hD, ys ++ [y], upd_same, ?_, mono _ _ _ _ _ _ hD4 p4⟩
      rw [List.length_append]
      exact Nat.succ_le_succ hl
    · exact ⟨(e.trans eY).trans e3, ys, e3.1 _ _ (eY.1 _ _ hys (ns _)) (ns _), Nat.le_succ_of_le hl, p3⟩
  · rintro H' ⟨e, ys, hys, hl, hP⟩
    exact done D ys H' hD e hys hl hP
/-- over range(n) -/
theorem lc_RT {n : Nat} {g : TG} {tt : TT} {te : TE} {vs : List Nat} {σ : L2.St} {H1 : Hp} {Q : Addr → Hp → Prop} (P : Nat → List V → Hp → Prop)
    (mono : ∀ i ys D H o zs, H D = some (.lst zs) → P i ys H → P i ys (upd H D (.lst o))) (h0 : ∀ D, H1 D = none → P 0 [] (upd H1 D (.lst []))) (hn : n ≤ 100000)
    (step : ∀ i ys H', i < n → Eq2 H1 H' → P i ys H' → ∀ (N : V → Hp → Prop) (M : Hp → Prop), (∀ y H4, Eq2 H' H4 → P (i + 1) (ys ++ [y]) H4 → N y H4) → (∀ H3, Eq2 H' H3 → P (i + 1) ys H3 → M H3) →
      g (nV i) (wipe σ vs) H' fun σ2 H2 => wipe σ2 vs = wipe σ vs ∧ tt σ2 H2 fun b H3 => if b = true then te σ2 H3 N else M H3)
    (done : ∀ D ys H', H1 D = none → Eq2 H1 H' → H' D = some (.lst ys) → ys.length ≤ n → P n ys H' → Q D H') :
    ∀ D, H1 D = none → ∃ W : Nat → Nat → Hp → Prop, (∃ m, W 0 m (upd H1 D (.lst []))) ∧ ∀ i m H, W i m H →
      ((Itr 0 n).stop i H ∧ Q D H) ∨ ((Itr 0 n).go i H ∧ ∃ Nx : Hp → Prop, (∀ H', Nx H' → ∃ m', m' < m ∧ W (i + 1) m' H') ∧ ∀ x H', (Itr 0 n).yld i H x H' → g x (wipe σ vs) H' fun σ2 H2 => wipe σ2 vs = wipe σ vs ∧ tt σ2 H2 fun b H3 =>
        if b = true then te σ2 H3 fun y H4 => ∃ acc, H4 D = some (.lst acc) ∧ acc.length < sizeLine ∧ Nx (upd H4 D (.lst (acc ++ [y]))) else Nx H3) :=
  lc_genT (walk_range (lo := 0) (n := n)) P mono (fun H' e => trivial) (fun i H x H' y => by rw [y.1]; exact Eq2.refl H) h0 hn
    (fun i x ys H' H'' hi e p y N M => by
      obtain ⟨rfl, y⟩ := y
      have e0 : V.int (0 + ((i : Nat) : Int)) = nV i := by rw [Int.zero_add]
      have y : x = nV i := y.trans e0
      rw [y]
      exact step i ys H'' hi e p N M) done
theorem src_upd {H : Hp} {a D : Addr} {o : List V} {zs : List V} (hD : H D = some (.lst zs)) (h : SrcAt H a) : SrcAt (upd H D (.lst o)) a := by
  obtain ⟨n, s, t, h⟩ := h
  exact ⟨n, s, t, by rw [upd_ne fun z => by rw [z, hD] at h; cases h]; exact h⟩
theorem src_new {H : Hp} {a D : Addr} {o : List V} (hD : H D = none) (h : SrcAt H a) : SrcAt (upd H D (.lst o)) a := h.up (Ex.new hD)
/-! ### words of letters -/
def chL (z : Str) : Prop := ∀ c ∈ tl z, c ∈ LET
theorem let_at : ∀ i, i < 26 → LET[i]? = some (97 + i) := by decide +kernel
abbrev ltS : Str := "abcdefghijklmnopqrstuvwxyz"
theorem cut_front (z : Str) (n : Nat) : tl (cutS z none (some (n : Int))) = (tl z).take n := by
  unfold cutS
  rw [HT.sIx_none, HT.sIx_nat, List.drop_zero, Nat.sub_zero]
  show (tl z).take (min n z.length) = (tl z).take n
  rw [TL.len_tl z]
  rcases Nat.le_total n (tl z).length with h | h
  · rw [Nat.min_eq_left h]
  · rw [Nat.min_eq_right h, List.take_of_length_le h, List.take_of_length_le (Nat.le_refl _)]
theorem chL_cut {z : Str} (h : chL z) (n : Nat) : chL (cutS z none (some (n : Int))) := fun c hc => by
  rw [cut_front] at hc
  exact h c (List.mem_of_mem_take hc)
theorem cut_len (z : Str) (n : Nat) : (cutS z none (some (n : Int))).length ≤ n := by
  rw [TL.len_tl, cut_front, List.length_take]
  omega
theorem nameB_of {z : Str} (h1 : 1 ≤ z.length) (h2 : z.length ≤ 8) (h3 : chL z) : nameB z = true := by
  unfold nameB
  rw [decide_eq_true h1, decide_eq_true h2, Bool.true_and, Bool.true_and]
  exact List.all_eq_true.mpr fun c hc => decide_eq_true (h3 c hc)
/-- a name: the letters ahead, its own letter, the letters behind -/
theorem own_at (a b : Str) (c : Nat) : (tl (a ++ ⟨#[c]⟩ ++ b))[(tl a).length]? = some c := by
  rw [TL.tl_append, TL.tl_append, List.append_assoc]
  rw [List.getElem?_append_right (Nat.le_refl _), Nat.sub_self]
  rfl
theorem steps_ne {f t k k' : Nat} (ht : t = 1 ∨ t = 3 ∨ t = 5 ∨ t = 7 ∨ t = 9 ∨ t = 11) (hk : k < 9) (hk' : k' < 9) (h : (f + t * k) % 26 = (f + t * k') % 26) : k = k' := by
  rcases ht with rfl | rfl | rfl | rfl | rfl | rfl <;> omega
section
variable {P : Program} {w : World} {K : PySem.W.Frag} {mg : Str → Option Value} {base : Heap}
def sp_names_l (K : PySem.W.Frag) : Sp := fun vs H Q _ => ∃ (a : Addr) (m : Nat), vs = [.ref a, nV m] ∧ SrcAt H a ∧ m ≤ 9 ∧
  ∀ l H2 ns, Et H H2 → SrcAt H2 a → LAt H2 l ns → ns.length = m → ns.Nodup → (∀ n ∈ ns, nameB n = true) → Q (.ref l) H2
theorem sc__law_names : FnScope ["_law_source_here", "_law_many", "_law_letters", "_law_k", "_law_word", "_law_ahead", "_law_first", "_law_step", "_law_names_here", "_law_behind"] ["_law_source_here", "_law_many"] (defScope s__law_names) := ⟨rfl, rfl, rfl, by decide +kernel, rfl, by decide +kernel, by decide +kernel⟩
theorem D__law_names (T : Tx K mg) : Def P w K mg base 2 (He.ga K "_law_names") ["_law_source_here", "_law_many"] (sp_names_l K) := by
  refine Def.make T (d := d__law_names) 57 rfl rfl rfl sc__law_names (fun _ _ _ _ _ _ us hl => match us, hl with | [_, _], _ => rfl) (fun vs H Q E h => ?_) (fun cdv A outer s H vs Q E hr h => ?_)
  · obtain ⟨a, m, rfl, _⟩ := h
    rfl
  · obtain ⟨a, m, rfl, hS, hm, k⟩ := h
    have nd := sc__law_names.nd
    have hls : ltS.length ≤ sizeLine := szs (by decide +kernel)
    have hlt : ∀ i, i < 26 → atI ltS.cps.toList ((i : Nat) : Int) = some (97 + i) := fun i hi => atI_nat (let_at i hi)
    refine ⟨_, (pss_cons (ps_set (i := 2) nd rfl (Or.inr rfl) pe_str)
    (pss_cons (ps_set (i := 4) nd rfl (Or.inl rfl) (pe_join pe_str (pe_lc (own := [("_law_k", 3)]) rfl nd (pi_range1 rfl T.f_range (pa_cons pe_int pa_nil)) (blkOk_by (N := ["_law_source_here", "_law_many", "_law_letters", "_law_k", "_law_word", "_law_ahead", "_law_first", "_law_step", "_law_names_here", "_law_behind"]) (sc := defScope s__law_names) (by decide +kernel)) (fun _ _ _ _ _ => (pg_name (i := 3) nd rfl (Or.inl rfl))) (fun _ _ _ _ _ => pts_nil) (fun _ _ _ _ _ => (pe_ix ix_str (pv 2) (pe_callX (D__law_take T) (hr.mono (by decide)) rfl T.g__law_take (pa_cons (pv 0) (pa_cons pe_int pa_nil))) (fun _ _ => rfl))))))
    (pss_cons (ps_set (i := 5) nd rfl (Or.inl rfl) (pe_slice sl_str (pv 4) po_none (po_some (pe_op op_mul (pe_callX (D__law_take T) (hr.mono (by decide)) rfl T.g__law_take (pa_cons (pv 0) (pa_cons pe_int pa_nil))) (pe_callX (D__law_take T) (hr.mono (by decide)) rfl T.g__law_take (pa_cons (pv 0) (pa_cons pe_int pa_nil)))))))
    (pss_cons (ps_set (i := 6) nd rfl (Or.inl rfl) (pe_callX (D__law_take T) (hr.mono (by decide)) rfl T.g__law_take (pa_cons (pv 0) (pa_cons pe_int pa_nil))))
    (pss_cons (ps_set (i := 7) nd rfl (Or.inl rfl) (pe_ix ix_list (PE.nm (pe_lst (pa_cons pe_int (pa_cons pe_int (pa_cons pe_int (pa_cons pe_int (pa_cons pe_int (pa_cons pe_int pa_nil)))))))) (pe_callX (D__law_take T) (hr.mono (by decide)) rfl T.g__law_take (pa_cons (pv 0) (pa_cons pe_int pa_nil))) (fun _ _ => rfl)))
    (pss_cons (ps_set (i := 8) nd rfl (Or.inl rfl) (PE.nm (pe_lst pa_nil)))
    (pss_cons (ps_for PassesOwn.never rfl (pi_range1 rfl T.f_range (pa_cons (pv 1) pa_nil)) (pg_name (i := 3) nd rfl (Or.inl rfl))
    (pss_cons (ps_set (i := 9) nd rfl (Or.inl rfl) (pe_slice sl_str (pv 4) po_none (po_some (pe_callX (D__law_take T) (hr.mono (by decide)) rfl T.g__law_take (pa_cons (pv 0) (pa_cons (pe_op op_sub pe_int (pe_callB call_len_str (by rfl) T.f_len (by decide +kernel) (pa_cons (pv 5) pa_nil))) pa_nil))))))
    (pss_one (ps_expr (pe_bm PySem.F.plainAttrs_list PySem.F.slot_list_append PySem.F.type_list_append mt_append (pv 8) (pa_cons (pe_op op_add_str (pe_op op_add_str (pv 5) (pe_ix ix_str (pv 2) (pe_op op_mod (pe_op op_add (pv 6) (pe_op op_mul (pv 7) (pv 3))) pe_int) (fun _ _ => rfl))) (pv 9)) pa_nil))))))
    (pss_one (ps_ret (pv 8)))))))))), ?_⟩
    walk_at "go"
    refine w_m1 ?_
    walk_at "go"
    refine ⟨⟨_, rfl⟩, ?_⟩
    walk_at "go"
    refine ⟨7, rfl, by decide, by decide, lc_RT (n := ((7 : Int)).toNat) (fun i ys H' => SrcAt H' a ∧ ∃ cs : List Nat, ys = cs.map (fun c => V.str ⟨#[c]⟩) ∧ (∀ c ∈ cs, c ∈ LET)) (fun i ys D H o zs hD ⟨q1, q2⟩ => ⟨src_upd hD q1, q2⟩) (fun D hD => ⟨src_new hD hS, [], rfl, fun c hc => by cases hc⟩) (by decide) ?_ ?_⟩
    · rintro i ys H1 hi e1 ⟨hS1, cs, rfl, hcs⟩ N M hN hM
      walk_at "go"
      refine ⟨rfl, ?_⟩
      walk_at "go"
      refine brT rfl ?_
      walk_at "go"
      refine ⟨a, 26, rfl, by decide, by decide, hS1, fun r H2 hr2 e2 b2 hS2 => ?_⟩
      refine ⟨_, _, _, rfl, rfl, hls, hlt r hr2, ?_⟩
      refine hN _ _ ⟨e2, b2⟩ ⟨hS2, cs ++ [97 + r], by rw [List.map_append]; rfl, fun c hc => ?_⟩
      rcases List.mem_append.mp hc with q | q
      · exact hcs c q
      · rw [List.mem_singleton.mp q]
        exact List.mem_of_getElem? (let_at r hr2)
    · rintro D ys H1 hDn e1 hD1 hyl ⟨hS1, cs, rfl, hcs⟩
      rw [List.length_map] at hyl
      refine ⟨_, D, cs.map (fun c => (⟨#[c]⟩ : Str)), rfl, rfl, .inl (SqL.of (by rw [hD1, List.map_map]; rfl)), ?_, ?_⟩
      · rw [List.map_map, List.length_map]
        have e : cs.map ((·.length) ∘ fun c => (⟨#[c]⟩ : Str)) = List.replicate cs.length 1 := by
          rw [List.eq_replicate_iff]
          refine ⟨by rw [List.length_map], fun b hb => ?_⟩
          obtain ⟨c, _, rfl⟩ := List.mem_map.mp hb
          rfl
        rw [e, List.sum_replicate_nat]
        have e2 : ("" : Str).length = 0 := rfl
        rw [e2]
        have : ((7 : Int)).toNat = 7 := rfl
        omega
      have hw : chL (Txt.join "" (cs.map fun c => (⟨#[c]⟩ : Str))) := fun c hc => by
        rw [TL.join_eq, TL.tl_join] at hc
        rcases mem_joinL hc with q | ⟨p, hp, q⟩
        · cases q
        · rw [List.map_map] at hp
          obtain ⟨c', hc', rfl⟩ := List.mem_map.mp hp
          rw [List.mem_singleton.mp q]
          exact hcs c' hc'
      have hwl : (Txt.join "" (cs.map fun c => (⟨#[c]⟩ : Str))).length ≤ 1000 := by
        have := join_len (y := "") (parts := cs.map fun c => (⟨#[c]⟩ : Str)) (b := 1) fun p hp => by
          obtain ⟨c', _, rfl⟩ := List.mem_map.mp hp
          exact Nat.le_refl _
        have e2 : ("" : Str).length = 0 := rfl
        rw [e2, List.length_map] at this
        have : ((7 : Int)).toNat = 7 := rfl
        omega
      generalize Txt.join "" (cs.map fun c => (⟨#[c]⟩ : Str)) = wd at hw hwl
      walk_at "go"
      refine ⟨a, 2, rfl, by decide, by decide, hS1, fun r2 H2 hr2 e2 b2 hS2 => ?_⟩
      walk_at "go"
      refine ⟨a, 5, rfl, by decide, by decide, hS2, fun r3 H3 hr3 e3 b3 hS3 => ?_⟩
      refine w_I (.inl ⟨by omega, by omega⟩) ?_
      refine ⟨_, rfl, ?_⟩
      refine ⟨_, rfl, szs (by omega), ?_⟩
      have e23 : ((r2 : Int) * (r3 : Int)) = ((r2 * r3 : Nat) : Int) := by rw [Int.natCast_mul]
      rw [e23]
      have hah : (cutS wd none (some ((r2 * r3 : Nat) : Int))).length ≤ 4 := by
        have h1 := cut_len wd (r2 * r3)
        have h2 : r2 * r3 ≤ 1 * 4 := Nat.mul_le_mul (by omega) (by omega)
        omega
      have hac := chL_cut hw (r2 * r3)
      generalize cutS wd none (some ((r2 * r3 : Nat) : Int)) = ah at hah hac
      walk_at "go"
      refine ⟨a, 26, rfl, by decide, by decide, hS3, fun f H4 hf e4 b4 hS4 => ?_⟩
      walk_at "go"
      refine ⟨szs (show 6 ≤ 100000 by decide), w_new fun q H5 hq e5 h5 => ?_⟩
      walk_at "go"
      refine ⟨a, 6, rfl, by decide, by decide, hS4.up e5, fun r6 H6 hr6 e6 b6 hS6 => ?_⟩
      have h56 : H6 q = some (.lst [.int 1, .int 3, .int 5, .int 7, .int 9, .int 11]) := e6 _ _ h5 fun _ _ _ z => by cases z
      have hst : ∃ st : Nat, atI [V.int 1, .int 3, .int 5, .int 7, .int 9, .int 11] ((r6 : Nat) : Int) = some (nV st) ∧ (st = 1 ∨ st = 3 ∨ st = 5 ∨ st = 7 ∨ st = 9 ∨ st = 11) := by
        match r6, hr6 with
        | 0, _ => exact ⟨1, atI_nat rfl, .inl rfl⟩
        | 1, _ => exact ⟨3, atI_nat rfl, .inr (.inl rfl)⟩
        | 2, _ => exact ⟨5, atI_nat rfl, .inr (.inr (.inl rfl))⟩
        | 3, _ => exact ⟨7, atI_nat rfl, .inr (.inr (.inr (.inl rfl)))⟩
        | 4, _ => exact ⟨9, atI_nat rfl, .inr (.inr (.inr (.inr (.inl rfl))))⟩
        | 5, _ => exact ⟨11, atI_nat rfl, .inr (.inr (.inr (.inr (.inr rfl))))⟩
        | n + 6, h => omega
      obtain ⟨st, hst1, hst2⟩ := hst
      refine w_ixL (SqL.of h56) hst1 ?_
      walk_at "go"
      refine ⟨szs (Nat.zero_le _), w_new fun l H7 hl e7 h7 => ?_⟩
      walk_at "go"
      have e17 : Et H H7 := ((((e1.1.trans e2).trans e3).trans e4).trans (Et.of e5)).trans (e6.trans (Et.of e7))
      have hlH : H l = none := (e1.2.trans (((b2.trans b3).trans b4).trans ((Nb.of e5).trans b6))) l hl
      refine ⟨m, rfl, by omega, by omega, for_range (lo := 0) (n := ((m : Nat) : Int).toNat) (fun i σ H8 => Et H H8 ∧ SrcAt H8 a ∧ (∃ ns : List Str, LAt H8 l ns ∧ ns.length = i ∧ (∀ n ∈ ns, nameB n = true) ∧ ∀ (j : Nat) (x : Str), ns[j]? = some x → (tl x)[(tl ah).length]? = some (97 + (f + st * j) % 26)) ∧ ∃ v3 v9, σ = [some (.ref a), some (nV m), some (.str ltS), v3, some (.str wd), some (.str ah), some (nV f), some (nV st), some (.ref l), v9]) ⟨e17, hS6.up e7, ⟨[], h7, rfl, fun n hn => (by cases hn), fun j x hx => by simp at hx⟩, _, _, rfl⟩ ?_ ?_⟩
      · rintro i σ H8 hi ⟨e8, hS8, ⟨ns, hns, hnl, hnn, hnc⟩, v3, v9, rfl⟩
        rw [Int.zero_add]
        have hi : i < m := by
          rw [Int.toNat_natCast] at hi
          exact hi
        walk_at "go"
        refine ⟨_, rfl, szs (by omega), ?_⟩
        walk_at "go"
        have e8m : (8 : Int) - (ah.length : Int) = ((8 - ah.length : Nat) : Int) := by omega
        rw [e8m]
        refine ⟨a, 8 - ah.length, rfl, by omega, by omega, hS8, fun r9 H9 hr9 e9 b9 hS9 => ?_⟩
        walk_at "go"
        refine ⟨_, rfl, ?_⟩
        refine ⟨_, rfl, szs (by omega), ?_⟩
        have hbl := cut_len wd r9
        have hbc := chL_cut hw r9
        generalize cutS wd none (some ((r9 : Nat) : Int)) = bh at hbl hbc
        walk_at "go"
        have hns9 : LAt H9 l ns := e9 _ _ hns fun _ _ _ z => by cases z
        refine ⟨.inl ⟨rfl, _, SqL.of hns9⟩, ?_⟩
        walk_at "go"
        refine w_I (.inl ⟨by omega, by omega⟩) ?_
        walk_at "go"
        refine w_I (by decide) ?_
        walk_at "go"
        have eix : ((f : Int) + (st : Int) * (i : Int)) % 26 = (((f + st * i) % 26 : Nat) : Int) := by
          rw [Int.natCast_emod, Int.natCast_add, Int.natCast_mul]
          rfl
        rw [eix]
        refine ⟨_, _, _, rfl, rfl, hls, hlt _ (Nat.mod_lt _ (by decide)), ?_⟩
        refine ⟨_, _, rfl, rfl, szs (by show _ + 1 ≤ _; omega), ?_⟩
        walk_at "go"
        have hx1 : (ah ++ (⟨#[97 + (f + st * i) % 26]⟩ : Str)).length = ah.length + 1 := by rw [Str.length_append]; rfl
        refine ⟨_, _, rfl, rfl, szs (by rw [hx1]; omega), ?_⟩
        walk_at "go"
        refine ⟨l, _, _, rfl, rfl, hns9, szl (by rw [List.length_map]; omega), ?_⟩
        refine ⟨Et.mut (e8.trans e9) hlH, src_upd hns9 hS9, ⟨ns ++ [ah ++ ⟨#[97 + (f + st * i) % 26]⟩ ++ bh], ?_, by rw [List.length_append, hnl]; rfl, fun n hn => ?_, fun j x hx => ?_⟩, _, _, rfl⟩
        · show upd H9 l _ l = _
          rw [upd_same, List.map_append]
          rfl
        · rcases List.mem_append.mp hn with q | q
          · exact hnn n q
          · rw [List.mem_singleton.mp q]
            have hlen : (ah ++ (⟨#[97 + (f + st * i) % 26]⟩ : Str) ++ bh).length = ah.length + 1 + bh.length := by rw [Str.length_append, hx1]
            refine nameB_of (by omega) (by omega) fun c hc => ?_
            rw [TL.tl_append, TL.tl_append] at hc
            rcases List.mem_append.mp hc with z | z
            · rcases List.mem_append.mp z with z | z
              · exact hac c z
              · rw [List.mem_singleton.mp z]
                exact List.mem_of_getElem? (let_at _ (Nat.mod_lt _ (by decide)))
            · exact hbc c z
        · rcases Nat.lt_or_ge j ns.length with q | q
          · rw [List.getElem?_append_left q] at hx
            exact hnc j x hx
          · rw [List.getElem?_append_right q] at hx
            have hj : j = ns.length := by
              have := lt_of_at hx
              rw [List.length_singleton] at this
              omega
            rw [hj, Nat.sub_self] at hx
            obtain rfl := Option.some.inj hx
            rw [hj, hnl]
            exact own_at _ _ _
      · rintro σ H8 ⟨e8, hS8, ⟨ns, hns, hnl, hnn, hnc⟩, v3, v9, rfl⟩
        walk_at "go"
        rw [Int.toNat_natCast] at hnl
        refine k l H8 ns e8 hS8 hns hnl ?_ hnn
        refine List.pairwise_iff_getElem.mpr fun i j hi hj hij he => ?_
        have h1 := hnc i _ (List.getElem?_eq_getElem hi)
        have h2 := hnc j _ (List.getElem?_eq_getElem hj)
        rw [he, h2] at h1
        have h3 := Option.some.inj h1
        have := steps_ne (f := f) hst2 (show j < 9 by omega) (show i < 9 by omega) (by omega)
        omega
end
end K96

set_option Elab.async false
set_option linter.all false
set_option maxRecDepth 100000
set_option maxHeartbeats 4000000
/-! K96KL: roads drawn. -/
namespace K96
open PySem PySem.Spec PyProof.Rows L2 LamX NdefX
open Evl (Ex)
local macro_rules | `(tactic| walk_at "go") => `(tactic| repeat (first
  | with_reducible refine w_seq ?_
  | with_reducible refine w_asg ?_
  | with_reducible refine w_name ?_
  | with_reducible refine w_var rfl ?_
  | with_reducible refine w_c ?_
  | with_reducible refine w_op ?_
  | with_reducible refine w_I0 ?_
  | with_reducible refine w_drop ?_
  | with_reducible refine w_ret ?_
  | with_reducible refine w_if ?_
  | with_reducible refine w_next ?_
  | with_reducible refine w_test ?_
  | with_reducible refine w_B ?_
  | with_reducible refine w_bl ?_
  | with_reducible refine w_not ?_
  | with_reducible refine w_and ?_
  | with_reducible refine w_or ?_
  | with_reducible refine w_andV ?_
  | with_reducible refine w_orV ?_
  | with_reducible refine w_notV ?_
  | with_reducible refine w_cons ?_
  | with_reducible refine w_nil ?_
  | with_reducible refine w_cb ?_
  | with_reducible refine w_call ?_
  | with_reducible refine w_isN ?_
  | with_reducible refine w_notN ?_
  | with_reducible refine w_chain ?_
  | with_reducible refine w_sl ?_
  | with_reducible refine w_nopart ?_
  | with_reducible refine w_tupT ?_
  | with_reducible refine w_lstT ?_
  | with_reducible refine w_eq rfl ?_
  | with_reducible refine w_ne rfl ?_
  | with_reducible refine w_for ?_
  | with_reducible refine w_iL ?_
  | with_reducible refine w_iT ?_
  | with_reducible refine w_iR1 ?_
  | with_reducible refine w_iR2 ?_
  | with_reducible refine w_iE ?_
  | with_reducible refine w_iS ?_
  | with_reducible refine w_lc ?_
  | with_reducible refine w_nm ?_
  | with_reducible refine w_din ?_
  | with_reducible refine w_dnotin ?_
  | with_reducible refine w_dput ?_
  | with_reducible refine w_dget1 ?_
  | with_reducible refine w_dget2 ?_
  | with_reducible refine w_bm ?_
  | with_reducible refine w_bm0 ?_
  | with_reducible refine w_sfld ?_
  | with_reducible refine w_make ?_
  | with_reducible refine w_part ?_
  | with_reducible refine w_aug rfl ?_
  | with_reducible refine w_ip ?_
  | with_reducible refine w_yes ?_
  | with_reducible refine w_gcs ?_
  | with_reducible refine w_gnil ?_
  | with_reducible refine w_dget ?_
  | with_reducible refine w_fld ?_
  | with_reducible refine w_meth ?_))
local macro_rules | `(tactic| walk_at "ex") => `(tactic| repeat (first | assumption | exact Ex.refl _ | refine Ex.trans ?_ (by assumption)))
abbrev kP (i j : Nat) : List Key := [Sum.inl (i : Int), Sum.inl (j : Int)]
/-- pairs of numbers below m as keys -/
def PrsD (H : Hp) (d : Addr) (m b : Nat) : Prop := ∃ kvs : List (List Key × V), H d = some (.dT kvs) ∧ (∀ p ∈ kvs, ∃ i j : Nat, i < m ∧ j < m ∧ p.1 = kP i j) ∧ kvs.length ≤ b
theorem putK_lenT (kvs : List (List Key × V)) (k : List Key) (v : V) : (putK kvs k v).length ≤ kvs.length + 1 := by
  unfold putK
  split
  · rw [List.length_map]; omega
  · rw [List.length_append]; exact Nat.le_refl _
theorem putK_keyT {kvs : List (List Key × V)} {k : List Key} {v : V} {p : List Key × V} (h : p ∈ putK kvs k v) : (∃ q ∈ kvs, p.1 = q.1) ∨ p.1 = k := by
  unfold putK at h
  split at h
  · obtain ⟨q, hq, rfl⟩ := List.mem_map.mp h
    refine .inl ⟨q, hq, ?_⟩
    show (if q.1 = k then (q.1, v) else q).1 = q.1
    split <;> rfl
  · rcases List.mem_append.mp h with z | z
    · exact .inl ⟨p, z, rfl⟩
    · rw [List.mem_singleton.mp z]
      exact .inr rfl
/-- a test that only looks, then a step that keeps to J -/
theorem ifput {tt : TT} {tp : TS} {D : Ends} {σ : L2.St} {H : Hp} (J : Hp → Prop) (ht : ∀ R : Bool → Hp → Prop, (∀ b, R b H) → tt σ H R) (hI : J H) (hp : ∀ D : Ends, (∀ H', J H' → D.nx σ H') → tp D σ H) (k : ∀ H', J H' → D.nx σ H') : tIfS tt tp tNext D σ H :=
  ht _ fun b => by
    cases b with
    | true => exact hp D k
    | false => exact k H hI
set_option hygiene false in
local macro_rules | `(tactic| walk_at "leaf") => `(tactic| (walk_at "go"; first | exact hR _ | (refine w_I (show (0 : Int) < (m : Nat) by omega) ?_; walk_at "leaf") | (refine br (fun _ => ?_) (fun _ => ?_) <;> walk_at "leaf")))
/-- the numbers of a pair -/
def prN (H : Hp) (t : Addr) : Nat × Nat := ((prF H (.ref t)).1.toNat, (prF H (.ref t)).2.toNat)
theorem prN_of {H : Hp} {t : Addr} {i j : Nat} (h : H t = some (.tup [nV i, nV j])) : prN H t = (i, j) := by
  have e : prF H (.ref t) = ((i : Int), (j : Int)) := by
    show (match H t with | some (.tup [.int a, .int b]) => (a, b) | _ => ((0, 0) : Int × Int)) = _
    rw [h]
  unfold prN
  rw [e]
  rfl
abbrev PAt (H : Hp) (t : Addr) (p : Nat × Nat) : Prop := H t = some (.tup [nV p.1, nV p.2])
theorem keys_pr {H : Hp} {m : Nat} : ∀ {kvs : List (List Key × V)} {bs : List Addr}, IsKeys H kvs bs → (∀ p ∈ kvs, ∃ i j : Nat, i < m ∧ j < m ∧ p.1 = kP i j) →
    kvs.map (·.1) = (bs.map (prN H)).map (fun p => kP p.1 p.2) ∧ ∀ b ∈ bs, PAt H b (prN H b) ∧ (prN H b).1 < m ∧ (prN H b).2 < m := by
  intro kvs bs h
  unfold IsKeys at h
  induction h with
  | nil => exact fun _ => ⟨rfl, fun b hb => by cases hb⟩
  | @cons p b _ _ h t ih =>
    intro hk
    obtain ⟨i, j, hi, hj, e⟩ := hk p (List.mem_cons_self ..)
    have hb : H b = some (.tup [nV i, nV j]) := by
      rw [e] at h
      exact h
    have en := prN_of hb
    obtain ⟨a1, a2⟩ := ih fun q hq => hk q (List.mem_cons_of_mem _ hq)
    refine ⟨by rw [List.map_cons, List.map_cons, List.map_cons, a1, en, e], fun c hc => ?_⟩
    rcases List.mem_cons.mp hc with z | z
    · rw [z, en]
      exact ⟨hb, hi, hj⟩
    · exact a2 c z
theorem nd_of_map {A B : Type} {f : A → B} {l : List A} (h : (l.map f).Nodup) : l.Nodup := by
  unfold List.Nodup at h ⊢
  rw [List.pairwise_map] at h
  exact h.imp fun q e => q (by rw [e])
section
variable {P : Program} {w : World} {K : PySem.W.Frag} {mg : Str → Option Value} {base : Heap}
def sp_leads_l (K : PySem.W.Frag) : Sp := fun vs H Q _ => ∃ (a : Addr) (m sh lo : Nat), vs = [.ref a, nV m, nV sh, nV lo] ∧ SrcAt H a ∧ 0 < m ∧ m ≤ 9 ∧
  ∀ (l : Addr) (H2 : Hp) (ts : List Addr), Et H H2 → SrcAt H2 a → H2 l = some (.lst (ts.map V.ref)) → (∀ t ∈ ts, PAt H2 t (prN H2 t) ∧ (prN H2 t).1 < m ∧ (prN H2 t).2 < m) → (ts.map (prN H2)).Nodup → ts.length ≤ 40 → Q (.ref l) H2
theorem sc__law_leads : FnScope ["_law_source_here", "_law_many", "_law_shape", "_law_low", "_law_pairs", "_law_k", "_law_j", "_law_way"] ["_law_source_here", "_law_many", "_law_shape", "_law_low"] (defScope s__law_leads) := ⟨rfl, rfl, rfl, by decide +kernel, rfl, by decide +kernel, by decide +kernel⟩
theorem D__law_leads (T : Tx K mg) : Def P w K mg base 2 (He.ga K "_law_leads") ["_law_source_here", "_law_many", "_law_shape", "_law_low"] (sp_leads_l K) := by
  refine Def.make T (d := d__law_leads) 58 rfl rfl rfl sc__law_leads (fun _ _ _ _ _ _ us hl => match us, hl with | [_, _, _, _], _ => rfl) (fun vs H Q E h => ?_) (fun cdv A outer s H vs Q E hr h => ?_)
  · obtain ⟨a, m, sh, lo, rfl, _⟩ := h
    rfl
  · obtain ⟨a, m, sh, lo, rfl, hS, hm0, hm, k⟩ := h
    have nd := sc__law_leads.nd
    have hu := hu_of hr
    refine ⟨_, (pss_cons (ps_set (i := 4) nd rfl (Or.inl rfl) pe_dnewT)
    (pss_cons (ps_for PassesOwn.never rfl (pi_range1 rfl T.f_range (pa_cons (pv 1) pa_nil)) (pg_name (i := 5) nd rfl (Or.inl rfl))
    (pss_one (ps_for PassesOwn.never rfl (pi_range1 rfl T.f_range (pa_cons (pv 1) pa_nil)) (pg_name (i := 6) nd rfl (Or.inl rfl))
    (pss_cons (ps_set (i := 7) nd rfl (Or.inl rfl) (pe_callX (D__law_take T) (hr.mono (by decide)) rfl T.g__law_take (pa_cons (pv 0) (pa_cons pe_int pa_nil))))
    (pss_cons (ps_if (PW.pt (pw_and (pt_cmpR op_eq (pv 2) pe_int (nomark _)) (pw_and1 (PW.pt (pw_or (PW.pt (pw_and (pt_cmpR op_lt (pv 6) (pv 5) (nomark _)) (pw_and1 (pt_cmpR op_lt (pv 7) pe_int (nomark _))))) (pw_or1 (PW.pt (pw_and (pt_cmpR op_ge (pv 6) (pv 5) (nomark _)) (pw_and1 (pt_cmpR op_lt (pv 7) pe_int (nomark _))))))))))) (pss_one (ps_dput hu (pv 4) (PE.nm (pe_tup (pa_cons (pv 5) (pa_cons (pv 6) pa_nil)))) pe_bl rfl)) pss_nil)
    (pss_cons (ps_if (PW.pt (pw_and (pt_cmpR op_eq (pv 2) pe_int (nomark _)) (pw_and1 (pt_cmpR op_lt (pv 7) pe_int (nomark _))))) (pss_one (ps_dput hu (pv 4) (PE.nm (pe_tup (pa_cons (pv 5) (pa_cons (pv 6) pa_nil)))) pe_bl rfl)) pss_nil)
    (pss_cons (ps_if (PW.pt (pw_and (pt_cmpR op_eq (pv 2) pe_int (nomark _)) (pw_and1 (PW.pt (pw_or (PW.pt (pw_and (pt_cmpR op_eq (pv 6) (pe_op op_mod (pe_op op_add (pv 5) pe_int) (pv 1)) (nomark _)) (pw_and1 (pt_cmpR op_lt (pv 7) pe_int (nomark _))))) (pw_or1 (pt_cmpR op_lt (pv 7) pe_int (nomark _)))))))) (pss_one (ps_dput hu (pv 4) (PE.nm (pe_tup (pa_cons (pv 5) (pa_cons (pv 6) pa_nil)))) pe_bl rfl)) pss_nil)
    (pss_cons (ps_if (PW.pt (pw_and (pt_cmpR op_eq (pv 2) pe_int (nomark _)) (pw_and (pt_cmpR op_lt (pv 6) (pv 5) (nomark _)) (pw_and1 (PW.pt (pw_or (pt_cmpR op_lt (pv 6) (pv 3) (nomark _)) (pw_or1 (pt_cmpR op_lt (pv 7) pe_int (nomark _))))))))) (pss_one (ps_dput hu (pv 4) (PE.nm (pe_tup (pa_cons (pv 5) (pa_cons (pv 6) pa_nil)))) pe_bl rfl)) pss_nil)
    (pss_one (ps_if (PW.pt (pw_and (pt_cmpR op_eq (pv 2) pe_int (nomark _)) (pw_and1 (PW.pt (pw_or (PW.pt (pw_and (pt_cmpR op_lt (pv 6) (pv 3) (nomark _)) (pw_and1 (pt_cmpR op_lt (pv 6) (pv 5) (nomark _))))) (pw_or1 (PW.pt (pw_and (pt_cmpR op_ge (pv 5) (pv 3) (nomark _)) (pw_and1 (pt_cmpR op_lt (pv 7) pe_int (nomark _))))))))))) (pss_one (ps_dput hu (pv 4) (PE.nm (pe_tup (pa_cons (pv 5) (pa_cons (pv 6) pa_nil)))) pe_bl rfl)) pss_nil))))))))))
    (pss_one (ps_ret (PE.nm (pe_slice sl_list (pe_callB (cr_sortedDT rfl) (by rfl) T.f_sorted (by decide +kernel) (pa_cons (pv 4) pa_nil)) po_none (po_some pe_int))))))), ?_⟩
    walk_at "go"
    refine w_dnewT fun d H1 hd e1 hd1 => ?_
    walk_at "go"
    refine ⟨m, rfl, by omega, by omega, for_range (lo := 0) (n := ((m : Nat) : Int).toNat) (fun i σ H2 => Eq2 H H2 ∧ SrcAt H2 a ∧ PrsD H2 d m (45 * i) ∧ ∃ v5 v6 v7, σ = [some (.ref a), some (nV m), some (nV sh), some (nV lo), some (.ref d), v5, v6, v7]) ⟨Eq2.of e1, hS.up e1, ⟨[], hd1, fun p hp => (by cases hp), Nat.zero_le _⟩, _, _, _, rfl⟩ ?_ ?_⟩
    · rintro i σ H2 hi ⟨e2, hS2, hP2, v5, v6, v7, rfl⟩
      rw [Int.zero_add]
      rw [Int.toNat_natCast] at hi
      walk_at "go"
      refine ⟨m, rfl, by omega, by omega, for_range (lo := 0) (n := ((m : Nat) : Int).toNat) (fun j σ H3 => Eq2 H H3 ∧ SrcAt H3 a ∧ PrsD H3 d m (45 * i + 5 * j) ∧ ∃ v6 v7, σ = [some (.ref a), some (nV m), some (nV sh), some (nV lo), some (.ref d), some (nV i), v6, v7]) ⟨e2, hS2, hP2, _, _, rfl⟩ ?_ ?_⟩
      · rintro j σ H3 hj ⟨e3, hS3, hP3, v6, v7, rfl⟩
        rw [Int.zero_add]
        rw [Int.toNat_natCast] at hj
        walk_at "go"
        refine ⟨a, 12, rfl, by decide, by decide, hS3, fun wy H4 hwy e4 b4 hS4 => ?_⟩
        with_reducible refine w_name ?_
        with_reducible refine w_seq ?_
        have hP4 : PrsD H4 d m (45 * i + 5 * j) := by
          obtain ⟨kvs, h1, h2⟩ := hP3
          exact ⟨kvs, e4 _ _ h1 fun _ _ _ z => (by cases z), h2⟩
        -- a put
        have J : Nat → Hp → Prop := fun n H' => Eq2 H H' ∧ SrcAt H' a ∧ PrsD H' d m (45 * i + 5 * j + n)
        have weak : ∀ {n H'}, (Eq2 H H' ∧ SrcAt H' a ∧ PrsD H' d m (45 * i + 5 * j + n)) → (Eq2 H H' ∧ SrcAt H' a ∧ PrsD H' d m (45 * i + 5 * j + (n + 1))) := fun {n H'} ⟨q1, q2, kvs, q3, q4, q5⟩ => ⟨q1, q2, kvs, q3, q4, by omega⟩
        have put : ∀ {n : Nat} {H' : Hp}, n ≤ 5 → (Eq2 H H' ∧ SrcAt H' a ∧ PrsD H' d m (45 * i + 5 * j + n)) → ∀ (D : Ends), (∀ H'', (Eq2 H H'' ∧ SrcAt H'' a ∧ PrsD H'' d m (45 * i + 5 * j + (n + 1))) → D.nx [some (.ref a), some (nV m), some (nV sh), some (nV lo), some (.ref d), some (nV i), some (nV j), some (nV wy)] H'') →
            sDPut (tVar 4) (tNm (tTup (tCons (tVar 5) (tCons (tVar 6) tNil)))) (tC (.bl true)) D [some (.ref a), some (nV m), some (nV sh), some (nV lo), some (.ref d), some (nV i), some (nV j), some (nV wy)] H' := fun {n H'} hn5 ⟨q1, q2, kvs, q3, q4, q5⟩ D kk => by
          refine w_dput ?_
          walk_at "go"
          refine ⟨szs (show 2 ≤ 100000 by decide), w_new fun t H5 ht e5 h5 => ?_⟩
          have hd5 : H5 d = some (.dT kvs) := e5 _ _ q3
          refine ⟨d, _, rfl, DPut.t (k := kP i j) hd5 h5 (szl (by omega)), kk _ ⟨(q1.trans (Eq2.of e5)).mut hd, ?_, _, upd_same, fun p hp => ?_, ?_⟩⟩
          · obtain ⟨n', s', t', hs⟩ := q2.up e5
            exact ⟨n', s', t', by rw [upd_ne fun z => by rw [z, hd5] at hs; cases hs]; exact hs⟩
          · rcases putK_keyT hp with ⟨q, hq, e⟩ | e
            · rw [e]
              exact q4 q hq
            · exact ⟨i, j, hi, hj, e⟩
          · have := putK_lenT kvs (kP i j) (V.bl true)
            omega
        with_reducible refine ifput (fun H' => Eq2 H H' ∧ SrcAt H' a ∧ PrsD H' d m (45 * i + 5 * j + (0 + 1))) ?_ ?_ ?_ ?_
        · intro R hR; walk_at "leaf"
        · exact (weak ⟨e3.trans ⟨e4, b4⟩, hS4, hP4⟩)
        · exact (put (by decide) ⟨e3.trans ⟨e4, b4⟩, hS4, hP4⟩)
        intro HA hA
        with_reducible refine w_seq ?_
        with_reducible refine ifput (fun H' => Eq2 H H' ∧ SrcAt H' a ∧ PrsD H' d m (45 * i + 5 * j + (1 + 1))) ?_ ?_ ?_ ?_
        · intro R hR; walk_at "leaf"
        · exact (weak hA)
        · exact (put (by decide) hA)
        intro HB hB
        with_reducible refine w_seq ?_
        with_reducible refine ifput (fun H' => Eq2 H H' ∧ SrcAt H' a ∧ PrsD H' d m (45 * i + 5 * j + (2 + 1))) ?_ ?_ ?_ ?_
        · intro R hR; walk_at "leaf"
        · exact (weak hB)
        · exact (put (by decide) hB)
        intro HC hC
        with_reducible refine w_seq ?_
        with_reducible refine ifput (fun H' => Eq2 H H' ∧ SrcAt H' a ∧ PrsD H' d m (45 * i + 5 * j + (3 + 1))) ?_ ?_ ?_ ?_
        · intro R hR; walk_at "leaf"
        · exact (weak hC)
        · exact (put (by decide) hC)
        intro HD hD
        with_reducible refine ifput (fun H' => Eq2 H H' ∧ SrcAt H' a ∧ PrsD H' d m (45 * i + 5 * j + (4 + 1))) ?_ ?_ ?_ ?_
        · intro R hR; walk_at "leaf"
        · exact (weak hD)
        · exact (put (by decide) hD)
        intro HE hE
        obtain ⟨q1, q2, q3⟩ := hE
        exact ⟨q1, q2, q3, _, _, rfl⟩
      · rintro σ H3 ⟨e3, hS3, ⟨kvs, h1, h2, h3⟩, v6, v7, rfl⟩
        rw [Int.toNat_natCast] at h3
        exact ⟨e3, hS3, ⟨kvs, h1, h2, by omega⟩, _, _, _, rfl⟩
    · rintro σ H2 ⟨e2, hS2, ⟨kvs, h1, h2, h3⟩, v5, v6, v7, rfl⟩
      rw [Int.toNat_natCast] at h3
      walk_at "go"
      refine ⟨d, kvs, rfl, .inl h1, fun p hp => ?_, fun bs ys p hik hperm hnd hp => ?_⟩
      · obtain ⟨i, j, _, _, e⟩ := h2 p hp
        exact ⟨i, j, e⟩
      obtain ⟨a1, a2⟩ := keys_pr hik h2
      have ndb : (bs.map (prN H2)).Nodup := by
        rw [a1] at hnd
        exact nd_of_map hnd
      have ndy : (ys.map (prN H2)).Nodup := (hperm.map _).nodup_iff.mpr ndb
      have e3 : Ex H2 (upd H2 p (.lst (ys.map V.ref))) := Ex.new hp
      have h4 : (upd H2 p (.lst (ys.map V.ref))) p = some (.lst (ys.map V.ref)) := upd_same
      generalize upd H2 p (.lst (ys.map V.ref)) = H3 at e3 h4
      walk_at "go"
      refine ⟨_, rfl, ?_⟩
      walk_at "go"
      refine ⟨p, _, rfl, SqL.of h4, w_new fun q H5 hq e5 h5 => ?_⟩
      have cv : cutV (ys.map V.ref) none (some ((40 : Nat) : Int)) = (ys.take 40).map V.ref := by
        unfold cutV
        rw [HT.sIx_none, HT.sIx_nat, List.drop_zero, Nat.sub_zero, ← List.map_take]
        congr 1
        rw [List.length_map]
        rcases Nat.le_total 40 ys.length with z | z
        · rw [Nat.min_eq_left z]
        · rw [Nat.min_eq_right z, List.take_of_length_le z, List.take_of_length_le (Nat.le_refl _)]
      have h5 : H5 q = some (.lst ((ys.take 40).map V.ref)) := by rw [← cv]; exact h5
      have e25 := e3.trans e5
      have same : ∀ t ∈ ys, prN H5 t = prN H2 t := fun t ht => by
        obtain ⟨b1, _, _⟩ := a2 t (hperm.mem_iff.mp ht)
        exact prN_of (e25 _ _ b1)
      refine k q H5 (ys.take 40) (e2.1.trans (Et.of e25)) (hS2.up e25) h5 (fun t ht => ?_) ?_ (by rw [List.length_take]; omega)
      · have hty := List.mem_of_mem_take ht
        obtain ⟨b1, b2, b3⟩ := a2 t (hperm.mem_iff.mp hty)
        rw [same t hty]
        exact ⟨e25 _ _ b1, b2, b3⟩
      · have e : (ys.take 40).map (prN H5) = (ys.map (prN H2)).take 40 := by
          rw [← List.map_take]
          exact List.map_congr_left fun t ht => same t (List.mem_of_mem_take ht)
        rw [e]
        exact ndy.sublist (List.take_sublist _ _)
end
end K96

set_option Elab.async false
set_option linter.all false
set_option maxRecDepth 100000
set_option maxHeartbeats 4000000
/-! K96KO: rows drawn. -/
namespace K96
open PySem PySem.Spec PyProof.Rows L2 LamX NdefX
open Evl (Ex)
local macro_rules | `(tactic| walk_at "go") => `(tactic| repeat (first
  | with_reducible refine w_seq ?_
  | with_reducible refine w_asg ?_
  | with_reducible refine w_name ?_
  | with_reducible refine w_var rfl ?_
  | with_reducible refine w_c ?_
  | with_reducible refine w_op ?_
  | with_reducible refine w_I0 ?_
  | with_reducible refine w_drop ?_
  | with_reducible refine w_ret ?_
  | with_reducible refine w_if ?_
  | with_reducible refine w_next ?_
  | with_reducible refine w_test ?_
  | with_reducible refine w_B ?_
  | with_reducible refine w_bl ?_
  | with_reducible refine w_not ?_
  | with_reducible refine w_and ?_
  | with_reducible refine w_or ?_
  | with_reducible refine w_andV ?_
  | with_reducible refine w_orV ?_
  | with_reducible refine w_notV ?_
  | with_reducible refine w_cons ?_
  | with_reducible refine w_nil ?_
  | with_reducible refine w_cb ?_
  | with_reducible refine w_call ?_
  | with_reducible refine w_isN ?_
  | with_reducible refine w_notN ?_
  | with_reducible refine w_chain ?_
  | with_reducible refine w_sl ?_
  | with_reducible refine w_nopart ?_
  | with_reducible refine w_tupT ?_
  | with_reducible refine w_lstT ?_
  | with_reducible refine w_eq rfl ?_
  | with_reducible refine w_ne rfl ?_
  | with_reducible refine w_for ?_
  | with_reducible refine w_iL ?_
  | with_reducible refine w_iT ?_
  | with_reducible refine w_iR1 ?_
  | with_reducible refine w_iR2 ?_
  | with_reducible refine w_iE ?_
  | with_reducible refine w_iS ?_
  | with_reducible refine w_lc ?_
  | with_reducible refine w_nm ?_
  | with_reducible refine w_din ?_
  | with_reducible refine w_dnotin ?_
  | with_reducible refine w_dput ?_
  | with_reducible refine w_dget1 ?_
  | with_reducible refine w_dget2 ?_
  | with_reducible refine w_bm ?_
  | with_reducible refine w_bm0 ?_
  | with_reducible refine w_sfld ?_
  | with_reducible refine w_make ?_
  | with_reducible refine w_part ?_
  | with_reducible refine w_aug rfl ?_
  | with_reducible refine w_ip ?_
  | with_reducible refine w_yes ?_
  | with_reducible refine w_gcs ?_
  | with_reducible refine w_gnil ?_
  | with_reducible refine w_dget ?_
  | with_reducible refine w_fld ?_
  | with_reducible refine w_meth ?_))
local macro_rules | `(tactic| walk_at "ex") => `(tactic| repeat (first | assumption | exact Ex.refl _ | refine Ex.trans ?_ (by assumption)))
theorem brJ {b : Bool} {t u : TS} {D : Ends} {σ : L2.St} {H : Hp} (J : L2.St → Hp → Prop) (k : ∀ σ' H', J σ' H' → D.nx σ' H') (h1 : b = true → ∀ D : Ends, (∀ σ' H', J σ' H' → D.nx σ' H') → t D σ H) (h2 : b = false → ∀ D : Ends, (∀ σ' H', J σ' H' → D.nx σ' H') → u D σ H) :
    if b = true then t D σ H else u D σ H := by
  cases b with
  | true => exact h1 rfl D k
  | false => exact h2 rfl D k
/-! ### orders -/
structure OrdOk (od : List Nat) (m : Nat) : Prop where
  nd : od.Nodup
  lt : ∀ k ∈ od, k < m
  len : od.length = m
def ordF (m : Nat) : List Nat := (List.range m).map fun k => k * 5 % m
theorem ordF_ok : ∀ m, m < 10 → 0 < m → ((ordF m).Nodup) ∨ (nubL ((ordF m).map fun (n : Nat) => (n : Int))).length < m := by decide +kernel
theorem ordF_good {m : Nat} (h0 : 0 < m) (h : m ≤ 9) (hn : ¬ (nubL ((ordF m).map fun (n : Nat) => (n : Int))).length < m) : OrdOk (ordF m) m := by
  refine ⟨(ordF_ok m (by omega) h0).resolve_right hn, fun k hk => ?_, by unfold ordF; rw [List.length_map, List.length_range]⟩
  obtain ⟨i, _, rfl⟩ := List.mem_map.mp hk
  exact Nat.mod_lt _ h0
theorem range_nd (m : Nat) : (List.range m).Nodup := by
  unfold List.Nodup
  exact List.pairwise_iff_getElem.mpr fun i j hi hj hij e => by
    rw [List.getElem_range, List.getElem_range] at e
    omega
theorem range_good (m : Nat) : OrdOk (List.range m) m := ⟨range_nd m, fun k hk => List.mem_range.mp hk, List.length_range⟩
def revF (m : Nat) : List Nat := (List.range m).map fun k => m - 1 - k
theorem rev_good (m : Nat) : OrdOk (revF m) m := by
  refine ⟨?_, fun k hk => ?_, by unfold revF; rw [List.length_map, List.length_range]⟩
  · unfold revF List.Nodup
    rw [List.pairwise_map]
    refine List.pairwise_iff_getElem.mpr fun i j hi hj hij e => ?_
    rw [List.length_range] at hi hj
    rw [List.getElem_range, List.getElem_range] at e
    omega
  · obtain ⟨i, hi, rfl⟩ := List.mem_map.mp hk
    have := List.mem_range.mp hi
    show m - 1 - i < m
    omega
theorem OrdOk.all {od : List Nat} {m : Nat} (o : OrdOk od m) {j : Nat} (hj : j < m) : j ∈ od := Classical.byContradiction fun h => by
  have := nodup_le (j :: od) (List.range m) (List.nodup_cons.mpr ⟨h, o.nd⟩) fun b hb => by
    rcases List.mem_cons.mp hb with z | z
    · rw [z]; exact List.mem_range.mpr hj
    · exact List.mem_range.mpr (o.lt b z)
  rw [List.length_cons, List.length_range, o.len] at this
  omega
/-! ### the rows -/
def nmAt (ns : List Str) (k : Nat) : Str := ns.getD k ""
theorem nm_get {ns : List Str} {k : Nat} (h : k < ns.length) : ns[k]? = some (nmAt ns k) := by
  unfold nmAt
  rw [List.getD_eq_getElem?_getD, List.getElem?_eq_getElem h]
  rfl
def lfF (ns : List Str) (prs : List (Nat × Nat)) (k : Nat) : List Str := (prs.filter fun p => decide (p.1 = k)).map fun p => nmAt ns p.2
def rvF (b : Bool) (l : List Str) : List Str := if b = true then l.reverse else l
def rowF (ns : List Str) (prs : List (Nat × Nat)) (b : Bool) (k : Nat) : Rw := (nmAt ns k, rvF b (lfF ns prs k))
theorem rv_mem {b : Bool} {l : List Str} {x : Str} : x ∈ rvF b l ↔ x ∈ l := by
  unfold rvF
  split
  · exact List.mem_reverse
  · exact Iff.rfl
theorem rv_nd {b : Bool} {l : List Str} (h : l.Nodup) : (rvF b l).Nodup := by
  unfold rvF
  split
  · unfold List.Nodup at h ⊢
    rw [List.pairwise_reverse]
    exact h.imp fun q e => q e.symm
  · exact h
theorem rv_len {b : Bool} {l : List Str} : (rvF b l).length = l.length := by
  unfold rvF
  split
  · exact List.length_reverse
  · rfl
theorem nm_inj {ns : List Str} (nd : ns.Nodup) {i j : Nat} (hi : i < ns.length) (hj : j < ns.length) (h : nmAt ns i = nmAt ns j) : i = j := by
  have h1 := nm_get hi
  have h2 := nm_get hj
  rw [h] at h1
  exact (List.getElem?_inj hi nd).mp (h1.trans h2.symm)
theorem sum_le_one : ∀ {od : List Nat} (f : Nat → Nat) (x : Nat), od.Nodup → (od.map fun k => f k + if x = k then 1 else 0).sum ≤ (od.map f).sum + 1
  | [], f, x, _ => Nat.zero_le _
  | a :: r, f, x, h => by
    have h' := List.nodup_cons.mp h
    rw [List.map_cons, List.map_cons, List.sum_cons, List.sum_cons]
    by_cases e : x = a
    · have e2 : (r.map fun k => f k + if x = k then 1 else 0) = r.map f := List.map_congr_left fun k hk => by
        rw [if_neg fun z => h'.1 (by rw [← e, z]; exact hk), Nat.add_zero]
      rw [e2, if_pos e]
      omega
    · have := sum_le_one f x h'.2
      rw [if_neg e]
      omega
theorem sum_parts (od : List Nat) (nd : od.Nodup) : ∀ (prs : List (Nat × Nat)), (od.map fun k => (prs.filter fun p => decide (p.1 = k)).length).sum ≤ prs.length
  | [] => by
    have : (od.map fun k => (([] : List (Nat × Nat)).filter fun p => decide (p.1 = k)).length) = od.map fun _ => 0 := List.map_congr_left fun k _ => rfl
    rw [this]
    have z : ∀ l : List Nat, (l.map fun _ => 0).sum = 0 := fun l => by
      induction l with
      | nil => rfl
      | cons a r ih => rw [List.map_cons, List.sum_cons, ih]
    rw [z]
    exact Nat.zero_le _
  | p :: r => by
    have ih := sum_parts od nd r
    have h := sum_le_one (od := od) (fun k => (r.filter fun p => decide (p.1 = k)).length) p.1 nd
    have e : (od.map fun k => ((p :: r).filter fun p => decide (p.1 = k)).length) = od.map fun k => (r.filter fun p => decide (p.1 = k)).length + if p.1 = k then 1 else 0 := List.map_congr_left fun k _ => by
      rw [List.filter_cons]
      by_cases z : p.1 = k
      · rw [if_pos (decide_eq_true z), if_pos z, List.length_cons]
      · rw [if_neg (by rw [decide_eq_false z]; exact Bool.false_ne_true), if_neg z]
        rfl
    rw [e, List.length_cons]
    omega
theorem rows_good {ns : List Str} {prs : List (Nat × Nat)} {od : List Nat} {m : Nat} {b : Bool} (h0 : 0 < m) (h9 : m ≤ 9) (hl : ns.length = m) (nd : ns.Nodup) (nn : ∀ n ∈ ns, nameB n = true) (o : OrdOk od m) (pn : prs.Nodup) (pl : ∀ p ∈ prs, p.1 < m ∧ p.2 < m) (p40 : prs.length ≤ 40) : RowsOk (od.map (rowF ns prs b)) := by
  have nmk : ∀ {k}, k < m → nmAt ns k ∈ ns := fun {k} hk => List.mem_of_getElem? (nm_get (by omega))
  refine ⟨fun e => ?_, ?_, ?_, fun r hr => ?_, fun r hr y hy => ?_, fun r hr => ?_, ?_⟩
  · have := congrArg List.length e
    rw [List.length_map, o.len] at this
    simp at this
    omega
  · rw [List.length_map, o.len]
    exact h9
  · rw [List.map_map]
    unfold List.Nodup
    rw [List.pairwise_map]
    refine List.Pairwise.imp_of_mem ?_ o.nd
    intro i j hi hj hij e
    exact hij (nm_inj nd (by rw [hl]; exact o.lt i hi) (by rw [hl]; exact o.lt j hj) e)
  · obtain ⟨k, hk, rfl⟩ := List.mem_map.mp hr
    exact nn _ (nmk (o.lt k hk))
  · obtain ⟨k, hk, rfl⟩ := List.mem_map.mp hr
    obtain ⟨p, hp, rfl⟩ := List.mem_map.mp (rv_mem.mp hy)
    have hp := (List.mem_filter.mp hp).1
    rw [List.map_map]
    exact List.mem_map.mpr ⟨p.2, o.all (pl p hp).2, rfl⟩
  · obtain ⟨k, hk, rfl⟩ := List.mem_map.mp hr
    refine rv_nd ?_
    unfold lfF List.Nodup
    rw [List.pairwise_map]
    have pf : (prs.filter fun p => decide (p.1 = k)).Nodup := pn.sublist List.filter_sublist
    refine List.Pairwise.imp_of_mem ?_ pf
    intro p q hp hq hpq e
    have hp := List.mem_filter.mp hp
    have hq := List.mem_filter.mp hq
    have e2 := nm_inj nd (by rw [hl]; exact (pl p hp.1).2) (by rw [hl]; exact (pl q hq.1).2) e
    have e1 : p.1 = q.1 := (of_decide_eq_true hp.2).trans (of_decide_eq_true hq.2).symm
    exact hpq (Prod.ext e1 e2)
  · have e : (od.map (rowF ns prs b)).map (fun r => r.2.length) = od.map fun k => (prs.filter fun p => decide (p.1 = k)).length := by
      rw [List.map_map]
      refine List.map_congr_left fun k _ => ?_
      show (rvF b (lfF ns prs k)).length = _
      rw [rv_len]
      unfold lfF
      rw [List.length_map]
    rw [e]
    exact Nat.le_trans (sum_parts od o.nd prs) p40
section
variable {P : Program} {w : World} {K : PySem.W.Frag} {mg : Str → Option Value} {base : Heap}
def sp_rows_l (K : PySem.W.Frag) : Sp := fun vs H Q _ => ∃ (a : Addr) (c : Nat), vs = [.ref a, nV c] ∧ SrcAt H a ∧ 0 < c ∧ c ≤ 9 ∧
  ∀ (l : Addr) (H2 : Hp) (rows : List Rw), Et H H2 → RowsAt H2 l rows → RowsOk rows → Q (.ref l) H2
theorem sc__law_rows : FnScope ["_law_source_here", "_law_most", "_law_many", "_law_names_here", "_law_shape", "_law_pairs", "_law_about", "_law_order", "_law_k", "_law_rows_here", "_law_leads_here", "_law_one", "_law_j"] ["_law_source_here", "_law_most"] (defScope s__law_rows) := ⟨rfl, rfl, rfl, by decide +kernel, rfl, by decide +kernel, by decide +kernel⟩
theorem D__law_rows (T : Tx K mg) : Def P w K mg base 3 (He.ga K "_law_rows") ["_law_source_here", "_law_most"] (sp_rows_l K) := by
  refine Def.make T (d := d__law_rows) 59 rfl rfl rfl sc__law_rows (fun _ _ _ _ _ _ us hl => match us, hl with | [_, _], _ => rfl) (fun vs H Q E h => ?_) (fun cdv A outer s H vs Q E hr h => ?_)
  · obtain ⟨a, c, rfl, _⟩ := h
    rfl
  · obtain ⟨a, c, rfl, hS, hc0, hc9, k⟩ := h
    have nd := sc__law_rows.nd
    refine ⟨_, (pss_cons (ps_set (i := 2) nd rfl (Or.inr rfl) (pe_op op_add pe_int (pe_callX (D__law_take T) (hr.mono (by decide)) rfl T.g__law_take (pa_cons (pv 0) (pa_cons (pv 1) pa_nil)))))
    (pss_cons (ps_set (i := 3) nd rfl (Or.inr rfl) (pe_callX (D__law_names T) (hr.mono (by decide)) rfl T.g__law_names (pa_cons (pv 0) (pa_cons (pv 2) pa_nil))))
    (pss_cons (ps_set (i := 4) nd rfl (Or.inl rfl) (pe_callX (D__law_take T) (hr.mono (by decide)) rfl T.g__law_take (pa_cons (pv 0) (pa_cons pe_int pa_nil))))
    (pss_cons (ps_set (i := 5) nd rfl (Or.inl rfl) (pe_callX (D__law_leads T) (hr.mono (by decide)) rfl T.g__law_leads (pa_cons (pv 0) (pa_cons (pv 2) (pa_cons (pv 4) (pa_cons (pe_op op_add pe_int (pe_callX (D__law_take T) (hr.mono (by decide)) rfl T.g__law_take (pa_cons (pv 0) (pa_cons pe_int pa_nil)))) pa_nil))))))
    (pss_cons (ps_set (i := 6) nd rfl (Or.inl rfl) (pe_cmpR op_eq (pe_callX (D__law_take T) (hr.mono (by decide)) rfl T.g__law_take (pa_cons (pv 0) (pa_cons pe_int pa_nil))) pe_int (nomark _)))
    (pss_cons (ps_set (i := 7) nd rfl (Or.inl rfl) (pe_listRg rfl rfl T.f_list (prg_1 rfl T.f_range (pv 2))))
    (pss_cons (ps_if (pt_val (pv 6)) (pss_one (ps_setLc (i := 7) (own := [("_law_k", 8)]) rfl nd rfl rfl (sw_true rfl rfl rfl (by decide +kernel)) (pi_range1 rfl T.f_range (pa_cons (pv 2) pa_nil)) (blkOk_by (N := ["_law_source_here", "_law_most", "_law_many", "_law_names_here", "_law_shape", "_law_pairs", "_law_about", "_law_order", "_law_k", "_law_rows_here", "_law_leads_here", "_law_one", "_law_j"]) (sc := defScope s__law_rows) (by decide +kernel)) (fun _ _ _ _ _ => (pg_name (i := 8) nd rfl (Or.inl rfl))) (fun _ _ _ _ _ => pts_nil) (fun _ _ _ _ _ => (pe_op op_mod (pe_op op_mul (pv 8) pe_int) (pv 2))))) pss_nil)
    (pss_cons (ps_if (pt_cmpR op_lt (pe_lenSetA rfl rfl T.f_len rfl T.f_set (pv 7)) (pv 2) (nomark _)) (pss_one (ps_set (i := 7) nd rfl (Or.inl rfl) (pe_listRev rfl rfl T.f_list rfl T.f_reversed (prg_1 rfl T.f_range (pv 2))))) pss_nil)
    (pss_cons (ps_set (i := 9) nd rfl (Or.inl rfl) (PE.nm (pe_lst pa_nil)))
    (pss_cons (ps_for PassesOwn.never rfl (pi_list (pv 7)) (pg_name (i := 8) nd rfl (Or.inr rfl))
    (pss_cons (ps_setLc (i := 10) (own := [("_law_one", 11), ("_law_j", 12)]) rfl nd rfl rfl (sw_true rfl rfl rfl (by decide +kernel)) (pi_list (pv 5)) (blkOk_by (N := ["_law_source_here", "_law_most", "_law_many", "_law_names_here", "_law_shape", "_law_pairs", "_law_about", "_law_order", "_law_k", "_law_rows_here", "_law_leads_here", "_law_one", "_law_j"]) (sc := defScope s__law_rows) (by decide +kernel)) (fun _ _ _ _ _ => (pg_tupK (K := K) (n := 2) rfl rfl (pgs_cons (pg_name (i := 11) nd rfl (Or.inl rfl)) (pgs_cons (pg_name (i := 12) nd rfl (Or.inl rfl)) pgs_nil)))) (fun _ _ _ _ _ => (pts_one (pt_cmpR op_eq (pv 11) (pv 8) (nomark _)))) (fun _ _ _ _ _ => (pe_ix (r := rIxL K) ix_list (pv 3) (pv 12) (fun _ _ => rfl))))
    (pss_cons (ps_if (pt_val (pv 6)) (pss_one (ps_expr (pe_bm0 PySem.F.plainAttrs_list PySem.F.slot_list_reverse PySem.F.type_list_reverse mt_reverse (pv 10)))) pss_nil)
    (pss_one (ps_expr (pe_bm PySem.F.plainAttrs_list PySem.F.slot_list_append PySem.F.type_list_append mt_append (pv 9) (pa_cons (PE.nm (pe_tup (pa_cons (pe_ix ix_list (pv 3) (pv 8) (fun _ _ => rfl)) (pa_cons (PE.nm (pe_callTy call_tuple_of (by rfl) T.f_tuple (by decide +kernel) (pa_cons (pv 10) pa_nil))) pa_nil)))) pa_nil)))))))
    (pss_one (ps_ret (pv 9))))))))))))), ?_⟩
    walk_at "go"
    refine ⟨a, c, rfl, hc0, by omega, hS, fun r1 H1 hr1 e1 b1 hS1 => ?_⟩
    walk_at "go"
    obtain ⟨m, hm, hm0, hm9⟩ : ∃ m : Nat, (1 : Int) + (r1 : Int) = (m : Int) ∧ 0 < m ∧ m ≤ 9 := ⟨1 + r1, by omega, by omega, by omega⟩
    rw [hm]
    refine ⟨a, m, rfl, hS1, hm9, fun nl H2 ns e2 hS2 hns hnl hnd hnn => ?_⟩
    walk_at "go"
    refine ⟨a, 5, rfl, by decide, by decide, hS2, fun sh H3 hsh e3 b3 hS3 => ?_⟩
    walk_at "go"
    refine ⟨a, 5, rfl, by decide, by decide, hS3, fun lo H4 hlo e4 b4 hS4 => ?_⟩
    walk_at "go"
    rw [show (1 : Int) + (lo : Int) = ((1 + lo : Nat) : Int) by omega]
    refine ⟨a, m, sh, 1 + lo, rfl, hS4, hm0, hm9, fun pl H5 ts e5 hS5 hts htp htn ht40 => ?_⟩
    walk_at "go"
    refine ⟨a, 2, rfl, by decide, by decide, hS5, fun ab H6 hab e6 b6 hS6 => ?_⟩
    walk_at "go"
    have stl : ∀ {H H' : Hp} {p : Addr} {xs : List V}, Et H H' → H p = some (.lst xs) → H' p = some (.lst xs) := fun {H H' p xs} e h => e _ _ h fun _ _ _ z => by cases z
    have hns6 : LAt H6 nl ns := stl e6 (stl e5 (stl e4 (stl e3 hns)))
    have hts6 : H6 pl = some (.lst (ts.map V.ref)) := stl e6 hts
    have htp6 : ∀ t ∈ ts, PAt H6 t (prN H5 t) ∧ (prN H5 t).1 < m ∧ (prN H5 t).2 < m := fun t ht => by
      obtain ⟨q1, q2, q3⟩ := htp t ht
      exact ⟨e6.tm _ _ q1, q2, q3⟩
    have e06 : Et H H6 := (((e1.trans e2).trans e3).trans e4).trans (e5.trans e6)
    generalize hprs : ts.map (prN H5) = prs at htn
    have hpl : ∀ p ∈ prs, p.1 < m ∧ p.2 < m := fun p hp => by
      rw [← hprs] at hp
      obtain ⟨t, ht, rfl⟩ := List.mem_map.mp hp
      exact (htp t ht).2
    have hp40 : prs.length ≤ 40 := by rw [← hprs, List.length_map]; exact ht40
    have hab2 : decide (nV ab = V.int 1) = decide (ab = 1) := by
      by_cases z : ab = 1
      · rw [decide_eq_true z]
        exact decide_eq_true (congrArg V.int (by omega))
      · rw [decide_eq_false z]
        exact decide_eq_false fun q => z (by have := V.int.inj q; omega)
    rw [hab2]
    generalize decide (ab = 1) = bb
    refine ⟨.int (m : Int), rfl, (m : Int), rfl, RgOk.of_le (by omega) (by omega) (by omega) (by omega), fun o1 ho1 => ?_⟩
    have eo : rgV 0 (m : Int) = ((List.range m).map nV) := by
      unfold rgV
      rw [Int.sub_zero, Int.toNat_natCast]
      refine List.map_congr_left fun i _ => ?_
      rw [Int.zero_add]
    rw [eo]
    have e7 : Ex H6 (upd H6 o1 (.lst ((List.range m).map nV))) := Ex.new ho1
    have h7 : (upd H6 o1 (.lst ((List.range m).map nV))) o1 = some (.lst ((List.range m).map nV)) := upd_same
    generalize upd H6 o1 (.lst ((List.range m).map nV)) = H7 at e7 h7
    walk_at "go"
    -- about: another order
    refine brJ (fun σ' H' => Ex H6 H' ∧ ∃ (o : Addr) (od : List Nat) (v8 : Option V), H' o = some (.lst (od.map nV)) ∧ od.length = m ∧ (¬ (nubL (od.map fun (n : Nat) => (n : Int))).length < m → OrdOk od m) ∧ σ' = [some (.ref a), some (nV c), some (nV m), some (.ref nl), some (nV sh), some (.ref pl), some (.bl bb), some (.ref o), v8, none, none, none, none]) ?_ ?_ ?_
    rotate_left
    · intro _ D kk
      walk_at "go"
      refine ⟨m, rfl, by omega, by omega, lc_R (lo := 0) (n := ((m : Nat) : Int).toNat) (fun i ys H' => ys = ((List.range i).map fun k => k * 5 % m).map nV) (fun _ _ _ _ _ q => q) rfl (by omega) ?_ ?_⟩
      · rintro i ys H8 hi e8 rfl N M hN hM
        walk_at "go"
        refine ⟨rfl, ?_⟩
        walk_at "go"
        refine brT rfl ?_
        walk_at "go"
        refine w_I (.inr ⟨by decide, by decide⟩) ?_
        walk_at "go"
        refine w_I (show (0 : Int) < (m : Nat) by omega) ?_
        refine hN _ _ (Ex.refl _) ?_
        rw [List.range_succ, List.map_append, List.map_append]
        have : V.int ((0 + (i : Int)) * 5 % (m : Int)) = nV (i * 5 % m) := by
          rw [Int.zero_add]
          show V.int _ = V.int _
          congr 1
        rw [this]
        rfl
      · rintro D2 ys H8 hD2 e8 h8 _ rfl
        walk_at "go"
        rw [Int.toNat_natCast] at h8
        refine kk _ _ ⟨e7.trans e8, D2, ordF m, _, h8, by unfold ordF; rw [List.length_map, List.length_range], fun hn => ordF_good hm0 hm9 hn, rfl⟩
    · intro _ D kk
      exact kk _ _ ⟨e7, o1, List.range m, _, h7, List.length_range, fun _ => range_good m, rfl⟩
    rintro σ' H8 ⟨e8, o, od, v8, ho, hol, hok, rfl⟩
    walk_at "go"
    refine ⟨.ref o, rfl, o, od.map (fun (n : Nat) => (n : Int)), rfl, SqL.of (by rw [ho, List.map_map]; rfl), by rw [List.length_map]; omega, ?_⟩
    walk_at "go"
    rw [lt_V]
    refine brJ (fun σ' H' => Ex H6 H' ∧ ∃ (o : Addr) (od : List Nat) (v8 : Option V), H' o = some (.lst (od.map nV)) ∧ OrdOk od m ∧ σ' = [some (.ref a), some (nV c), some (nV m), some (.ref nl), some (nV sh), some (.ref pl), some (.bl bb), some (.ref o), v8, none, none, none, none]) ?_ ?_ ?_
    rotate_left
    · intro _ D kk
      walk_at "go"
      refine ⟨.int (m : Int), rfl, (m : Int), rfl, rfl, by omega, by omega, fun o2 ho2 => ?_⟩
      walk_at "go"
      refine kk _ _ ⟨e8.trans (Ex.new ho2), o2, revF m, _, ?_, rev_good m, rfl⟩
      rw [upd_same]
      unfold revF
      rw [List.map_map, Int.toNat_natCast]
      congr 2
      refine List.map_congr_left fun i hi => ?_
      have := List.mem_range.mp hi
      have e : ((m : Int) - 1 - (i : Int)) = ((m - 1 - i : Nat) : Int) := by omega
      exact congrArg V.int e
    · intro z D kk
      exact kk _ _ ⟨e8, o, od, _, ho, hok (of_decide_eq_false z), rfl⟩
    clear ho hol hok e8 v8 od o
    rintro σ' H8 ⟨e8, o, od, v8, ho, hok, rfl⟩
    walk_at "go"
    refine ⟨szs (Nat.zero_le _), w_new fun rl H9 hrl e9 h9 => ?_⟩
    walk_at "go"
    have hrl6 : H6 rl = none := Evl.fresh_back e8 hrl
    have e69 := e8.trans e9
    have hne : rl ≠ o := fun z => by rw [z, ho] at hrl; cases hrl
    refine ⟨o, rfl, ⟨_, SqL.of (e9 _ _ ho)⟩, for_list (K := K) (a := o) (xs := od.map nV) (fun i σ HA => Ex H6 HA ∧ HA o = some (.lst (od.map nV)) ∧ RowsAt HA rl ((od.take i).map (rowF ns prs bb)) ∧ ∃ v8 v10 v11 v12, σ = [some (.ref a), some (nV c), some (nV m), some (.ref nl), some (nV sh), some (.ref pl), some (.bl bb), some (.ref o), v8, some (.ref rl), v10, v11, v12])
      ⟨e69, e9 _ _ ho, ⟨[], h9, .nil⟩, _, none, none, none, rfl⟩ (fun i σ HA _ ⟨_, q, _⟩ => SqL.of q) ?_ ?_⟩
    · rintro i y σ HA hi ⟨eA, hoA, ⟨rts, hrts, hrp⟩, v8, v10, v11, v12, rfl⟩
      obtain ⟨kk, hkk, rfl⟩ := map_at hi
      have hkm := hok.lt kk (List.mem_of_getElem? hkk)
      have hrtl : rts.length ≤ 9 := by
        have q := Paired.length hrp
        rw [List.length_map, List.length_take] at q
        have := hok.len
        omega
      walk_at "go"
      refine ⟨pl, rfl, ⟨_, SqL.of (eA _ _ hts6)⟩, lc_L (K := K) (SqL.of (eA _ _ hts6)) (fun j ys H' => ys = (((prs.take j).filter fun p => decide (p.1 = kk)).map fun p => nmAt ns p.2).map sV) (fun _ _ _ _ _ q => q) rfl (by rw [List.length_map]; omega) ?_ ?_⟩
      · rintro j y ys HB hj eB rfl N M hN hM
        obtain ⟨t, ht, rfl⟩ := map_at hj
        obtain ⟨q1, q2, q3⟩ := htp6 t (List.mem_of_getElem? ht)
        have hpj : prs[j]? = some (prN H5 t) := by
          rw [← hprs, List.getElem?_map, ht]
          rfl
        refine w_gtup ⟨t, _, rfl, SqT.of ((eA.trans eB) _ _ q1), rfl, ?_⟩
        walk_at "go"
        refine ⟨rfl, ?_⟩
        walk_at "go"
        rw [nV_inj]
        refine br (fun z => ?_) (fun z => ?_)
        · walk_at "go"
          refine w_ixL (SqL.of ((eA.trans eB) _ _ hns6)) (v := sV (nmAt ns (prN H5 t).2)) (atI_nat (by rw [List.getElem?_map, nm_get (by omega)]; rfl)) ?_
          refine hN _ _ (Ex.refl _) ?_
          rw [tk hpj, List.filter_append, List.filter_cons, if_pos z, List.map_append, List.map_append]
          rfl
        · refine hM _ (Ex.refl _) ?_
          rw [tk hpj, List.filter_append, List.filter_cons, if_neg (by rw [z]; exact Bool.false_ne_true), List.filter_nil, List.append_nil]
      · rintro D2 ys HB hD2 eB hDB _ rfl
        walk_at "go"
        have e3' : (ts.map V.ref).length = prs.length := by rw [← hprs, List.length_map, List.length_map]
        rw [e3', List.take_length] at hDB
        have hDB : LAt HB D2 (lfF ns prs kk) := hDB
        have hD6 : H6 D2 = none := Evl.fresh_back eA hD2
        have eAB := eA.trans eB
        have hD2o : o ≠ D2 := fun z => by rw [z, hD2] at hoA; cases hoA
        have hD2r : rl ≠ D2 := fun z => by rw [z, hD2] at hrts; cases hrts
        -- turned about
        refine brJ (fun σ' H' => Ex H6 H' ∧ H' o = some (.lst (od.map nV)) ∧ H' rl = some (.lst (rts.map V.ref)) ∧ Paired (RowAt H') rts ((od.take i).map (rowF ns prs bb)) ∧ LAt H' D2 (rvF bb (lfF ns prs kk)) ∧ ∃ v11 v12, σ' = [some (.ref a), some (nV c), some (nV m), some (.ref nl), some (nV sh), some (.ref pl), some (.bl bb), some (.ref o), some (nV kk), some (.ref rl), some (.ref D2), v11, v12]) ?_ ?_ ?_
        rotate_left
        · intro z D kq
          walk_at "go"
          refine ⟨.inl ⟨rfl, _, SqL.of hDB⟩, ?_⟩
          refine ⟨D2, _, rfl, rfl, hDB, ?_⟩
          refine kq _ _ ⟨Ex.mut eAB hD6, ?_, ?_, rows_tm ((Tm.of eB).trans (Tm.updL hDB)) hrp, ?_, _, _, rfl⟩
          · rw [upd_ne hD2o]
            exact eB _ _ hoA
          · rw [upd_ne hD2r]
            exact eB _ _ hrts
          · show upd HB D2 _ D2 = _
            rw [upd_same, ← List.map_reverse]
            unfold rvF
            rw [if_pos z]
        · intro z D kq
          refine kq _ _ ⟨eAB, eB _ _ hoA, eB _ _ hrts, rows_tm (Tm.of eB) hrp, ?_, _, _, rfl⟩
          unfold rvF
          rw [if_neg (by rw [z]; exact Bool.false_ne_true)]
          exact hDB
        rintro σ' HC ⟨eC, hoC, hrC, hrpC, hDC, v11', v12', rfl⟩
        walk_at "go"
        refine ⟨.inl ⟨rfl, _, SqL.of hrC⟩, ?_⟩
        walk_at "go"
        refine w_ixL (SqL.of (eC _ _ hns6)) (v := sV (nmAt ns kk)) (atI_nat (by rw [List.getElem?_map, nm_get (by omega)]; rfl)) ?_
        walk_at "go"
        refine ⟨D2, _, rfl, .inl ⟨SqL.of hDC, w_new fun u HD hu' eD hD => ?_⟩⟩
        walk_at "go"
        refine ⟨szs (show 2 ≤ 100000 by decide), w_new fun q HE hq eE hE => ?_⟩
        have eCE := eD.trans eE
        have hrE := eCE _ _ hrC
        refine ⟨rl, _, _, rfl, rfl, hrE, szl (by rw [List.length_map]; omega), ?_⟩
        have tmE : Tm HE (upd HE rl (.lst (rts.map V.ref ++ [.ref q]))) := Tm.updL hrE
        refine ⟨Ex.mut (eC.trans eCE) hrl6, ?_, ⟨rts ++ [q], by rw [List.map_append]; exact upd_same, ?_⟩, _, _, _, _, rfl⟩
        · rw [upd_ne fun z => hne z.symm]
          exact eCE _ _ hoC
        · rw [tk hkk, List.map_append]
          exact (rows_tm ((Tm.of eCE).trans tmE) hrpC).snoc ⟨u, tmE _ _ hE, tmE _ _ (eE _ _ hD)⟩
    · rintro σ HA ⟨eA, hoA, hR, v8, v10, v11, v12, rfl⟩
      walk_at "go"
      rw [List.length_map, List.take_length] at hR
      exact k rl HA _ (e06.trans (Et.of eA)) hR (rows_good hm0 hm9 hnl hnd hnn hok htn hpl hp40)
end
end K96

set_option Elab.async false
set_option linter.all false
set_option maxRecDepth 100000
set_option maxHeartbeats 4000000
/-! K96KP: the law's def. -/
namespace K96
open PySem PySem.Spec PyProof.Rows L2 LamX NdefX
open Evl (Ex)
open K96M (Gr)
local macro_rules | `(tactic| walk_at "go") => `(tactic| repeat (first
  | with_reducible refine w_seq ?_
  | with_reducible refine w_asg ?_
  | with_reducible refine w_name ?_
  | with_reducible refine w_var rfl ?_
  | with_reducible refine w_c ?_
  | with_reducible refine w_op ?_
  | with_reducible refine w_I0 ?_
  | with_reducible refine w_drop ?_
  | with_reducible refine w_ret ?_
  | with_reducible refine w_if ?_
  | with_reducible refine w_next ?_
  | with_reducible refine w_test ?_
  | with_reducible refine w_B ?_
  | with_reducible refine w_bl ?_
  | with_reducible refine w_not ?_
  | with_reducible refine w_and ?_
  | with_reducible refine w_or ?_
  | with_reducible refine w_andV ?_
  | with_reducible refine w_orV ?_
  | with_reducible refine w_notV ?_
  | with_reducible refine w_cons ?_
  | with_reducible refine w_nil ?_
  | with_reducible refine w_cb ?_
  | with_reducible refine w_call ?_
  | with_reducible refine w_isN ?_
  | with_reducible refine w_notN ?_
  | with_reducible refine w_chain ?_
  | with_reducible refine w_sl ?_
  | with_reducible refine w_nopart ?_
  | with_reducible refine w_tupT ?_
  | with_reducible refine w_lstT ?_
  | with_reducible refine w_eq rfl ?_
  | with_reducible refine w_ne rfl ?_
  | with_reducible refine w_for ?_
  | with_reducible refine w_iL ?_
  | with_reducible refine w_iT ?_
  | with_reducible refine w_iR1 ?_
  | with_reducible refine w_iR2 ?_
  | with_reducible refine w_iE ?_
  | with_reducible refine w_iS ?_
  | with_reducible refine w_lc ?_
  | with_reducible refine w_nm ?_
  | with_reducible refine w_din ?_
  | with_reducible refine w_dnotin ?_
  | with_reducible refine w_dput ?_
  | with_reducible refine w_dget1 ?_
  | with_reducible refine w_dget2 ?_
  | with_reducible refine w_bm ?_
  | with_reducible refine w_bm0 ?_
  | with_reducible refine w_sfld ?_
  | with_reducible refine w_make ?_
  | with_reducible refine w_part ?_
  | with_reducible refine w_aug rfl ?_
  | with_reducible refine w_ip ?_
  | with_reducible refine w_yes ?_
  | with_reducible refine w_gcs ?_
  | with_reducible refine w_gnil ?_
  | with_reducible refine w_dget ?_
  | with_reducible refine w_fld ?_
  | with_reducible refine w_meth ?_))
local macro_rules | `(tactic| walk_at "ex") => `(tactic| repeat (first | assumption | exact Ex.refl _ | refine Ex.trans ?_ (by assumption)))
def rListOf (K : PySem.W.Frag) : List V → Hp → VK → Prop := fun xs H Q => ∃ p ys, xs = [.ref p] ∧ (SqL K H p ys ∨ SqT K H p ys) ∧ ∀ l, H l = none → Q (.ref l) (upd H l (.lst ys))
def rJoinK (K : PySem.W.Frag) : V → List V → Hp → VK → Prop := fun x xs H Q => ∃ a p, ∃ ys : List Str, x = .str a ∧ xs = [.ref p] ∧ (SqL K H p (ys.map V.str) ∨ SqT K H p (ys.map V.str)) ∧
  (ys.map (·.length)).sum + ys.length * a.length ≤ 16777216 ∧ Q (.str (Txt.join a ys)) H
theorem pe_joinK {X : Cx} {K : PySem.W.Frag} {o e : Expr} {to te : TE} {apos pos : Pos} (hK : X.K = K) (ho : PE X o to) (he : PE X e te) (hs : starEach [e] X.env = [(false, eval e X.env)] := by rfl) (hbase : attributeBase o "join" X.env (eval o X.env) = eval o X.env := by rfl) (hline : (apos.endLine == pos.line) = true := by rfl) :
    PE X (.Call (.Attribute o "join" apos) [e] [] pos) (tM1 (rJoinK K) to te) := by
  subst hK
  exact pe_join ho he hs hbase hline
theorem GAt.es {K : PySem.W.Frag} {H H' : Hp} {g : Addr} {G : G0} (h : GAt K H g G) (gok : GOk G) (e : Es H H') : GAt K H' g G := h.uw gok (Ew.ofS e)
theorem lst_es {H H' : Hp} {p : Addr} {xs : List V} (e : Es H H') (h : H p = some (.lst xs)) : H' p = some (.lst xs) := e _ _ h (fun _ z => by cases z) fun _ _ _ z => by cases z
theorem RowsAt.es {H H' : Hp} {l : Addr} {rows : List Rw} (h : RowsAt H l rows) (e : Es H H') : RowsAt H' l rows := by
  obtain ⟨ts, h1, h2⟩ := h
  exact ⟨ts, lst_es e h1, Paired.mapP h2 fun _ _ q => q.tm fun a xs z => e a _ z (fun _ z => by cases z) fun _ _ _ z => by cases z⟩
theorem sql_es {K : PySem.W.Frag} {H H' : Hp} {a : Addr} {xs : List V} (h : SqL K H a xs) (e : Es H H') : SqL K H' a xs := by
  rcases h with (h | ⟨o, h⟩) | h
  · exact .inl (.inl (lst_es e h))
  · exact .inl (.inr ⟨o, e _ _ h (fun _ z => by cases z) fun _ _ _ z => by cases z⟩)
  · exact .inr h
theorem sum_le {l : List Nat} {b : Nat} (h : ∀ x ∈ l, x ≤ b) : l.sum ≤ l.length * b := by
  induction l with
  | nil => exact Nat.zero_le _
  | cons a r ih =>
    have h1 := h a (List.mem_cons_self ..)
    have h2 := ih fun x hx => h x (List.mem_cons_of_mem _ hx)
    rw [List.sum_cons, List.length_cons, Nat.add_mul]
    omega
section
variable {P : Program} {w : World} {K : PySem.W.Frag} {mg : Str → Option Value} {base : Heap}
def sp_law (K : PySem.W.Frag) : Sp := fun vs H Q _ => ∃ (a : Addr) (ns : List Int), vs = [.ref a] ∧ SqL K H a (ns.map V.int) ∧ TabsN (tbs K) H ∧ ∀ H2, Q (.bl true) H2
theorem sc_law : FnScope ["_law_script", "_law_source_here", "_law_rows_here", "_law_text", "_law_ground", "_law_k", "_law_heap_here", "_law_name", "_law_leads_here", "_law_j"] ["_law_script"] (defScope s_law) := ⟨rfl, rfl, rfl, by decide +kernel, rfl, by decide +kernel, by decide +kernel⟩
theorem fun_fn {d : He.DefD} {fd : FuncData} (F : FunD K d.name d.qual d.params d.body d.scope [] [] (He.fAd K d.at_) fd) {N ps : List Str} {k : Nat} {sp : Sp} (S : FnScope N ps d.scope) (len : ∀ vs H Q E, sp vs H Q E → vs.length = ps.length)
    (hbody : ∀ (cdv : Value) (A : Around) (outer : List Env) (s : Shared) (H : Hp) (vs : List V) (Q : VK) (E : XK), Room k (A.deeper (envOfC d.qual d.scope s.heap.objs.size (He.fAd K d.at_) cdv)) → sp vs H Q E →
      ∃ t, PSs (cxOf CX0 P w K mg base N d.qual d.scope (He.fAd K d.at_) cdv A outer s H E).nox d.body t ∧ t { nx := fun _ H' => Q .non H', rt := Q } (start N vs) H) : FnOk P w K mg base CX0 (k + 1) (He.fAd K d.at_) fd ps sp :=
  F.ok S len fun cdv A outer s H vs Q E hr h => let ⟨t, a, b⟩ := hbody cdv A outer s H vs Q E hr h; ⟨t, a.nox, b⟩
abbrev LVL : Nat := 14
theorem F_law (T : Tx K mg) (TB : TBs K mg base) {fd : FuncData} (F : FunD K d_law.name d_law.qual d_law.params d_law.body d_law.scope [] [] (He.fAd K d_law.at_) fd) : FnOk P w K mg base CX0 LVL (He.fAd K d_law.at_) fd ["_law_script"] (sp_law K) := by
  refine fun_fn F sc_law (fun vs H Q E h => ?_) (fun cdv A outer s H vs Q E hr h => ?_)
  · obtain ⟨a, ns, rfl, _⟩ := h
    rfl
  · obtain ⟨a, ns, rfl, hS, hT, k⟩ := h
    have nd := sc_law.nd
    refine ⟨_, (pss_cons (ps_set (i := 1) nd rfl (Or.inr rfl) (pe_callX (D__law_source T) (hr.mono (by decide)) rfl T.g__law_source (pa_cons (pe_callX (D__law_cell_at T) (hr.mono (by decide)) rfl T.g__law_cell_at (pa_cons (pv 0) (pa_cons pe_int pa_nil))) pa_nil)))
    (pss_cons (ps_set (i := 2) nd rfl (Or.inr rfl) (pe_callX (D__law_rows T) (hr.mono (by decide)) rfl T.g__law_rows (pa_cons (pv 1) (pa_cons (pe_ix ix_list (PE.nm (pe_lst (pa_cons pe_int (pa_cons pe_int (pa_cons pe_int pa_nil))))) (pe_callX (D__law_take T) (hr.mono (by decide)) rfl T.g__law_take (pa_cons (pv 1) (pa_cons pe_int pa_nil))) (fun _ _ => rfl)) pa_nil))))
    (pss_cons (ps_set (i := 3) nd rfl (Or.inl rfl) (pe_join pe_str (pe_lc (own := [("_law_name", 7), ("_law_leads_here", 8)]) rfl nd (pi_list (pv 2)) (blkOk_by (N := ["_law_script", "_law_source_here", "_law_rows_here", "_law_text", "_law_ground", "_law_k", "_law_heap_here", "_law_name", "_law_leads_here", "_law_j"]) (sc := defScope s_law) (by decide +kernel)) (fun _ _ _ _ _ => (pg_tupK (K := K) (n := 2) rfl rfl (pgs_cons (pg_name (i := 7) nd rfl (Or.inl rfl)) (pgs_cons (pg_name (i := 8) nd rfl (Or.inl rfl)) pgs_nil)))) (fun _ _ _ _ _ => pts_nil) (fun _ _ _ _ _ => (pe_joinK (K := K) rfl pe_str (PE.nm (pe_op op_cat (PE.nm (pe_lst (pa_cons (pe_op op_add_str (pv 7) pe_str) pa_nil))) (PE.nm (pe_callTy (r := rListOf K) call_list_of (by rfl) T.f_list (by decide +kernel) (pa_cons (pv 8) pa_nil))))))))))
    (pss_cons (ps_set (i := 4) nd rfl (Or.inl rfl) (pe_callX (D_read_ground T) (hr.mono (by decide)) rfl T.g_read_ground (pa_cons (pv 3) pa_nil)))
    (pss_cons (ps_for PassesOwn.never rfl (pi_range2 rfl T.f_range (pa_cons pe_int (pa_cons pe_int pa_nil))) (pg_name (i := 5) nd rfl (Or.inl rfl))
    (pss_cons (ps_set (i := 1) nd rfl (Or.inr rfl) (pe_callX (D__law_source T) (hr.mono (by decide)) rfl T.g__law_source (pa_cons (pe_callX (D__law_cell_at T) (hr.mono (by decide)) rfl T.g__law_cell_at (pa_cons (pv 0) (pa_cons (pv 5) pa_nil))) pa_nil)))
    (pss_cons (ps_setLc (i := 6) (own := [("_law_j", 9)]) rfl nd rfl rfl (sw_true rfl rfl rfl (by decide +kernel)) (pi_range1 rfl T.f_range (pa_cons (pe_op op_add pe_int (pe_callX (D__law_take T) (hr.mono (by decide)) rfl T.g__law_take (pa_cons (pv 1) (pa_cons pe_int pa_nil)))) pa_nil)) (blkOk_by (N := ["_law_script", "_law_source_here", "_law_rows_here", "_law_text", "_law_ground", "_law_k", "_law_heap_here", "_law_name", "_law_leads_here", "_law_j"]) (sc := defScope s_law) (by decide +kernel)) (fun _ _ _ _ _ => (pg_name (i := 9) nd rfl (Or.inl rfl))) (fun _ _ _ _ _ => pts_nil) (fun _ _ _ _ _ => (pe_ix (r := rIxT K) ix_tup (pe_ix (r := rIxL K) ix_list (pv 2) (pe_callX (D__law_take T) (hr.mono (by decide)) rfl T.g__law_take (pa_cons (pv 1) (pa_cons (pe_callB (r := rLen K) call_len (by rfl) T.f_len (by decide +kernel) (pa_cons (pv 2) pa_nil)) pa_nil))) (fun _ _ => rfl)) pe_int (fun _ _ => rfl))))
    (pss_one (ps_if (pt_not (pt_val (pe_callX (D__law_right T TB) (hr.mono (by decide)) rfl T.g__law_right (pa_cons (pv 1) (pa_cons (pv 4) (pa_cons (pv 6) pa_nil)))))) (pss_one (ps_ret pe_bl)) pss_nil)))))
    (pss_one (ps_ret (pe_callX (D__law_single_right T) (hr.mono (by decide)) rfl T.g__law_single_right (pa_cons (pv 4) pa_nil))))))))), ?_⟩
    walk_at "go"
    refine ⟨a, ns, 0, rfl, hS, fun z0 => ?_⟩
    walk_at "go"
    refine ⟨z0, rfl, fun a0 H1 ha0 e1 hs1 => ?_⟩
    walk_at "go"
    refine ⟨szs (show 3 ≤ 100000 by decide), w_new fun q H2 hq e2 h2 => ?_⟩
    walk_at "go"
    refine ⟨a0, 3, rfl, by decide, by decide, hs1.up e2, fun r3 H3 hr3 e3 b3 hs3 => ?_⟩
    have h3 : H3 q = some (.lst [.int 4, .int 6, .int 9]) := e3 _ _ h2 fun _ _ _ z => by cases z
    have hmo : ∃ c : Nat, atI [V.int 4, .int 6, .int 9] ((r3 : Nat) : Int) = some (nV c) ∧ 0 < c ∧ c ≤ 9 := by
      match r3, hr3 with
      | 0, _ => exact ⟨4, atI_nat rfl, by decide, by decide⟩
      | 1, _ => exact ⟨6, atI_nat rfl, by decide, by decide⟩
      | 2, _ => exact ⟨9, atI_nat rfl, by decide, by decide⟩
      | n + 3, h => omega
    obtain ⟨c, hc1, hc2, hc3⟩ := hmo
    refine w_ixL (SqL.of h3) hc1 ?_
    walk_at "go"
    refine ⟨a0, c, rfl, hs3, hc2, hc3, fun rl H4 rows e4 hR ok => ?_⟩
    walk_at "go"
    have s4 : Es H H4 := ((Es.of (e1.trans e2)).trans (Es.ofT e3)).trans (Es.ofT e4)
    have hT4 : TabsN (tbs K) H4 := tabsN_et (tabsN_et (hT.ext (e1.trans e2)) e3) e4
    have gok := gok_of ok
    have tx := txt_of ok
    obtain ⟨rts, hrts, hrp⟩ := id hR
    have hrl := Paired.length hrp
    have hmany := ok.many
    have hpos : 0 < rows.length := List.length_pos_iff.mpr ok.pos
    have hlead : ∀ r ∈ rows, r.2.length ≤ 9 := fun r hr => by
      have := nodup_le r.2 (rows.map (·.1)) (ok.lnd r hr) (ok.inn r hr)
      rw [List.length_map] at this
      omega
    have wlen : ∀ r ∈ rows, ∀ p ∈ wordsF r, p.length ≤ 9 := fun r hr p hp => (word_tl (ok.nm r hr) (fun y hy => lead_name ok hr hy) p hp).2
    have llen : ∀ r ∈ rows, (lineF r).length ≤ 100 := fun r hr => by
      have h1 := line_len (ok.nm r hr) fun y hy => lead_name ok hr hy
      have h2 := hlead r hr
      omega
    have c1 : colS.length = 1 := by decide +kernel
    have c2 : spS.length = 1 := by decide +kernel
    have c3 : nlS.length = 1 := by decide +kernel
    -- the text
    refine w_m1 ?_
    walk_at "go"
    refine ⟨⟨_, rfl⟩, ?_⟩
    walk_at "go"
    refine ⟨rl, rfl, ⟨_, SqL.of hrts⟩, lc_L (K := K) (SqL.of hrts) (fun i ys H' => ys = ((rows.take i).map lineF).map sV) (fun _ _ _ _ _ q => q) rfl (by rw [List.length_map]; omega) ?_ ?_⟩
    · rintro i y ys H5 hi e5 rfl N M hN hM
      obtain ⟨t, ht, rfl⟩ := map_at hi
      obtain ⟨r, hr1, u, h1', h2'⟩ := Paired.at_ hrp ht
      have hrm := List.mem_of_getElem? hr1
      refine w_gtup ⟨t, _, rfl, SqT.of (e5 _ _ h1'), rfl, ?_⟩
      walk_at "go"
      refine ⟨rfl, ?_⟩
      walk_at "go"
      refine brT rfl ?_
      refine w_m1 ?_
      walk_at "go"
      refine ⟨⟨_, rfl⟩, ?_⟩
      walk_at "go"
      have n8 := (name_parts (ok.nm r hrm)).2.1
      refine ⟨_, _, rfl, rfl, szs (by show _ ≤ 100000; rw [c1]; omega), ?_⟩
      walk_at "go"
      refine ⟨szs (show 1 ≤ 100000 by decide), w_new fun q6 H6 hq6 e6 h6 => ?_⟩
      walk_at "go"
      refine ⟨u, _, rfl, .inr (SqT.of ((e5.trans e6) _ _ h2')), w_new fun q7 H7 hq7 e7 h7 => ?_⟩
      refine ⟨q6, q7, _, _, rfl, rfl, e7 _ _ h6, h7, szs (by rw [List.length_map]; have := hlead r hrm; show 1 + _ ≤ _; omega), w_new fun q8 H8 hq8 e8 h8 => ?_⟩
      have h8 : LAt H8 q8 (wordsF r) := h8
      refine ⟨_, q8, wordsF r, rfl, rfl, .inl (SqL.of h8), ?_, ?_⟩
      · have s1 := sum_le (l := (wordsF r).map (·.length)) (b := 9) fun x hx => by
          obtain ⟨p, hp, rfl⟩ := List.mem_map.mp hx
          exact wlen r hrm p hp
        have wl : (wordsF r).length = r.2.length + 1 := rfl
        rw [List.length_map] at s1
        have := hlead r hrm
        rw [wl] at s1 ⊢
        rw [show (" " : Str).length = 1 from c2]
        omega
      · refine hN _ _ ((e6.trans e7).trans e8) ?_
        rw [tk hr1, List.map_append, List.map_append]
        rfl
    · rintro D ys H5 hDn e5 hD5 _ rfl
      rw [List.length_map, hrl, List.take_length] at hD5
      have hD5 : LAt H5 D (rows.map lineF) := hD5
      refine ⟨_, D, rows.map lineF, rfl, rfl, .inl (SqL.of hD5), ?_, ?_⟩
      · have s1 := sum_le (l := (rows.map lineF).map (·.length)) (b := 100) fun x hx => by
          obtain ⟨p, hp, rfl⟩ := List.mem_map.mp hx
          obtain ⟨r, hr, rfl⟩ := List.mem_map.mp hp
          exact llen r hr
        rw [List.length_map, List.length_map] at s1
        rw [List.length_map, show ("\n" : Str).length = 1 from c3]
        omega
      walk_at "go"
      refine ⟨rows, rfl, ok, fun g H6 e6 hG => ?_⟩
      walk_at "go"
      have e46 := e5.trans e6
      have s6 : Es H H6 := s4.trans (Es.of e46)
      have hT6 := hT4.ext e46
      have hR6 := hR.up e46
      refine ⟨1, 3, rfl, ⟨by decide, by decide, by decide, by decide⟩, for_range (lo := 1) (n := ((3 : Int) - 1).toNat) (fun i σ H7 => Es H6 H7 ∧ TabsN (tbs K) H7 ∧ ∃ v1 v5 v6 v7 v8 v9, σ = [some (.ref a), v1, some (.ref rl), some (.str (textF rows)), some (.ref g), v5, v6, v7, v8, v9]) ⟨Es.of (Ex.refl _), hT6, _, none, none, none, none, none, rfl⟩ ?_ ?_⟩
      · rintro i σ H7 hi ⟨s7, hT7, v1, v5, v6, v7, v8, v9, rfl⟩
        rw [show (1 : Int) + ((i : Nat) : Int) = ((1 + i : Nat) : Int) by omega]
        walk_at "go"
        refine ⟨a, ns, 1 + i, rfl, sql_es hS (s6.trans s7), fun z1 => ?_⟩
        walk_at "go"
        refine ⟨z1, rfl, fun a1 H8 ha1 e8 hs8 => ?_⟩
        walk_at "go"
        refine ⟨a1, 5, rfl, by decide, by decide, hs8, fun n5 H9 hn5 e9 b9 hs9 => ?_⟩
        walk_at "go"
        have s9 : Es H6 H9 := (s7.trans (Es.of e8)).trans (Es.ofT e9)
        have hT9 := tabsN_et (hT7.ext e8) e9
        refine ⟨_, rfl, by omega, by omega, lc_RT (n := ((1 : Int) + (n5 : Int)).toNat) (fun j ys H' => SrcAt H' a1 ∧ ∃ hs : List Str, ys = hs.map sV ∧ ∀ x ∈ hs, x ∈ (gOf rows).ns) (fun j ys D H o zs hD ⟨q1, q2⟩ => ⟨src_upd hD q1, q2⟩) (fun D hD => ⟨src_new hD hs9, [], rfl, fun x hx => by cases hx⟩) (by omega) ?_ ?_⟩
        · rintro j ys HA hj eA ⟨hsA, hs, rfl, hin⟩ N M hN hM
          walk_at "go"
          refine ⟨rfl, ?_⟩
          walk_at "go"
          refine brT rfl ?_
          walk_at "go"
          have hRA : RowsAt HA rl rows := hR6.es (s9.trans (Es.ofT eA.1))
          obtain ⟨rtsA, hrA, hrpA⟩ := hRA
          have hlA := Paired.length hrpA
          refine ⟨_, _, rfl, .inl ⟨_, SqL.of hrA, rfl⟩, ?_⟩
          rw [List.length_map, hlA]
          walk_at "go"
          refine ⟨a1, rows.length, rfl, hpos, by omega, hsA, fun rr HB hrr eB bB hsB => ?_⟩
          have hrB : HB rl = some (.lst (rtsA.map V.ref)) := eB _ _ hrA fun _ _ _ z => by cases z
          have ht : rtsA[rr]? = some (rtsA[rr]'(by omega)) := List.getElem?_eq_getElem (by omega)
          obtain ⟨r, hr1, u, h1', h2'⟩ := Paired.at_ hrpA ht
          refine w_ixL (SqL.of hrB) (v := .ref (rtsA[rr]'(by omega))) (atI_nat (by rw [List.getElem?_map, ht]; rfl)) ?_
          walk_at "go"
          refine w_ixT (SqT.of (eB.tm _ _ h1')) (v := .str r.1) rfl ?_
          refine hN _ _ ⟨eB, bB⟩ ⟨hsB, hs ++ [r.1], by rw [List.map_append]; rfl, fun x hx => ?_⟩
          rcases List.mem_append.mp hx with q | q
          · exact hin x q
          · rw [List.mem_singleton.mp q]
            exact List.mem_map.mpr ⟨r, List.mem_of_getElem? hr1, rfl⟩
        · rintro D2 ys HA hD2 eA hDA hyl ⟨hsA, hs, rfl, hin⟩
          walk_at "go"
          rw [List.length_map] at hyl
          have sA : Es H6 HA := s9.trans (Es.ofT eA.1)
          have hO : HOk' (gOf rows) hs := ⟨by omega, hin⟩
          refine ⟨a1, g, D2, gOf rows, hs, rfl, hsA, hG.es gok sA, hDA, gok, tx, hO, tabsN_et hT9 eA.1, fun HB sB hTB => ?_⟩
          walk_at "go"
          refine brF rfl ?_
          walk_at "go"
          exact ⟨sA.trans sB, hTB, _, _, _, _, _, _, rfl⟩
      · rintro σ H7 ⟨s7, hT7, v1, v5, v6, v7, v8, v9, rfl⟩
        walk_at "go"
        exact ⟨g, gOf rows, rfl, hG.es gok s7, gok, tx, fun H8 => k H8⟩
end
end K96

set_option Elab.async false
set_option linter.all false
set_option maxRecDepth 100000
set_option maxHeartbeats 0
/-! K96End: the law holds. -/
namespace K96
open PySem PySem.Spec PyProof.Rows L2 LamX NdefX
theorem facts {w : World} {K : PySem.W.Frag} {h : Heap} {mg : Str → Option Value} {f : Addr} (X : K.In h) (G : h.Ns mainGlobals mg) (hfa : mg ("law" : Str) = some (.ref f)) (c : SaysY fa fn tf ex h K) :
    LawAtS PySem.Challenge.rw_ringheaps_k96_whole_plays_of_players w K CX0 LVL 63 "_law_script" mg f h := by
  have T : Tx K mg := ⟨c.d, c.more, h, X, G⟩
  obtain ⟨fd, F⟩ := T.says.def_ 65 (d := d_law) rfl
  have F' : FunD K d_law.name d_law.qual d_law.params d_law.body d_law.scope [] [] (He.fAd K d_law.at_) fd := F
  have e := hfa.symm.trans T.g_law
  cases e
  have bnd : ∀ (s : Shared) (v : Value), BindsTo s fd ⟨[v], []⟩ [("_law_script", v)] := fun s v => FunD.bindsA (ps := ["_law_script"]) F' (fun _ _ _ _ _ _ us hl => match us, hl with | [_], _ => rfl) s [v] rfl
  refine ⟨fd, [cTp K, cTo K], sp_law K, fun p hp => ?_, fun p hp => ?_, fun p hp => ?_, bnd, fun H a ns _ _ hH hS => ⟨a, ns, rfl, hS, fun p hp => ?_, fun _ => rfl⟩, fun base hb hg tb => F_law T ⟨tb _ (List.mem_cons_self ..), tb _ (List.mem_cons_of_mem _ (List.mem_cons_self ..))⟩ F'⟩
  · rcases List.mem_cons.mp hp with q | q
    · rw [q]; exact c.empty ("player", none) (List.mem_cons_self ..)
    · rw [List.mem_singleton.mp q]; exact c.empty ("_law_opponent", none) (List.mem_cons_of_mem _ (List.mem_cons_self ..))
  · rcases List.mem_cons.mp hp with q | q
    · rw [q]; exact c.out ("player", none) (List.mem_cons_self ..)
    · rw [List.mem_singleton.mp q]; exact c.out ("_law_opponent", none) (List.mem_cons_of_mem _ (List.mem_cons_self ..))
  · rcases List.mem_cons.mp hp with q | q
    · rw [q]; exact PySem.W.codeHd_of_K X (c.hd ("player", none) (List.mem_cons_self ..))
    · rw [List.mem_singleton.mp q]; exact PySem.W.codeHd_of_K X (c.hd ("_law_opponent", none) (List.mem_cons_of_mem _ (List.mem_cons_self ..)))
  · rcases List.mem_cons.mp hp with q | q
    · rw [q]; exact TabN.nil (hH _ (List.mem_cons_self ..))
    · rw [List.mem_singleton.mp q]; exact TabN.nil (hH _ (List.mem_cons_of_mem _ (List.mem_cons_self ..)))
end K96
open PySem PySem.W PySem.Calls PyProof.Rows
theorem PySem.Challenge.cw_ringheaps_k96_whole_plays_of_players_holds : PySem.Challenge.rw_ringheaps_k96_whole_plays_of_players.Holds := by
  w_on; o_law
  refine HandSHeadRun.head_any (r := K96.R) (q := view K96.R.prog [93]) (H := K96.hk) (ob := K96.ob) (M := 6000) (loose := K96.loose) (d := HandSHeadRun.topDef K96.R.prog 93) (kwd := []) K96.ob_eq
    (by kernel_rfl) (fun s => by kernel_rfl) K96.run (by kernel_rfl) (by kernel_rfl) (by kernel_rfl) (by rfl) (by first | assumption | decide +kernel) (by decide +kernel) ⟨rfl, rfl, rfl, rfl, rfl, by decide +kernel⟩ ?hw ?hc
  case hw => w_witness2
  case hc =>
    refine LamX.walk_ofTsE (l := PySem.Challenge.rw_ringheaps_k96_whole_plays_of_players) (n := 63) (k := K96.LVL) (x := "_law_script") (CX := fun _ => L2.CX0) rfl (by decide) (by kernel_rfl) ⟨rfl, by decide, by decide⟩ ?F (fun _ _ _ _ _ z => z)
    intro w mg fa h Y G hmg0
    obtain ⟨K, KX, c⟩ := Y
    have hmg : mg ("law" : PySem.Str) = some (.ref fa) := by
      have e : (HandSHeadRun.topDef K96.R.prog 93).name = ("law" : PySem.Str) := by kernel_rfl
      rw [← e]
      exact hmg0
    exact ⟨K, KX, K96.facts KX G hmg c⟩
