import PyProof.Rows.All
import Wide.All
import OpenK.AllK
import Wide.FinOn
import KE.KStateDown
import HandS.ForMost
import HandS.Exc
import HandS.Defaults
import HandS.Head0
import HandS.Head1
import HandS.Head2
import HandS.HeadEnd
import HandS.HeadHook1
import HandS.HeadHook2
import HandS.HeadHook3
import HandS.HeadHook4
import PySem.Challenge.RW_numberedlines_k31_whole_loops_by_names
import KE.KUnpackStar
import HandS.TupAny
import KE.KDictZip
import KE.GoesEnumKw
import KE.KDictItemsList
import HandS.Zip0
import HandS.MapObj
import HandS.ListItems
import HandS.SortKw
import KE.KDictPairs
import HandS.Flow
import HandS.DeepEq
import PyProof.NeKinds
import PyProof.Draws
import HandS.IsInst
import PyProof.Rows.StrMeet
import PyProof.Rows.TmSorted
import HandS.Deep
import HandS.NoneIn
import HandS.Walk
import HandS.DictComp
import HandS.More
set_option Elab.async false
set_option linter.all false
set_option maxRecDepth 100000
set_option maxHeartbeats 0
/-! the text by places, the facts of the head -/
namespace K31
open PySem PySem.Spec PyProof.Rows L2
def top (i : Nat) : Stmt := PySem.Challenge.pw_numberedlines_k31_whole_loops_by_names.main.body.getD i (.Pass ⟨0, 0, 0, 0⟩)
abbrev s_is_number_loops : Stmt := top 3
abbrev s_line_behind : Stmt := top 5
abbrev s_go_behind : Stmt := top 6
abbrev s_again_behind : Stmt := top 7
abbrev s_closed_by : Stmt := top 8
abbrev s_is_beyond : Stmt := top 9
abbrev s_loop_begun : Stmt := top 10
abbrev s_loop_again : Stmt := top 11
abbrev s_next_data : Stmt := top 13
abbrev s_read_on : Stmt := top 14
abbrev s_around_init : Stmt := inClass (top 22) 0
abbrev s_need : Stmt := top 23
abbrev s_is_number_reckon : Stmt := top 24
abbrev s_bounded : Stmt := top 26
abbrev s_by_sign : Stmt := top 27
abbrev s_part_of : Stmt := top 28
abbrev s_cell_of : Stmt := top 29
abbrev s_fit_of : Stmt := top 30
abbrev s_last_fault : Stmt := top 31
abbrev s_of_worths : Stmt := top 32
abbrev s_come : Stmt := top 33
abbrev s_reckon : Stmt := top 34
abbrev s_has_line : Stmt := top 36
abbrev s_fault_at : Stmt := top 37
abbrev s_trap_set : Stmt := top 38
abbrev s_tried : Stmt := top 39
abbrev s_expressions_of : Stmt := top 43
abbrev s_worths_of : Stmt := top 44
abbrev s_put_in_box : Stmt := top 45
abbrev s_put_in_cell : Stmt := top 46
abbrev s_put_a_row : Stmt := top 47
abbrev s_say_done : Stmt := top 48
abbrev s_put_a_fit : Stmt := top 49
abbrev s_anew_done : Stmt := top 50
abbrev s_note_done : Stmt := top 51
abbrev s_jump_done : Stmt := top 53
abbrev s_call_done : Stmt := top 54
abbrev s_back_done : Stmt := top 55
abbrev s_pick_done : Stmt := top 56
abbrev s_choice_done : Stmt := top 57
abbrev s_halt_done : Stmt := top 58
abbrev s_ask_done : Stmt := top 59
abbrev s_move_done : Stmt := top 60
abbrev s_gone_behind : Stmt := top 61
abbrev s_line_done : Stmt := top 62
abbrev s_is_whole : Stmt := top 68
abbrev s_is_number_words : Stmt := top 69
abbrev s_numbers_of : Stmt := top 73
abbrev s_known_of : Stmt := top 74
abbrev s_as_state : Stmt := top 75
abbrev s_first_state : Stmt := top 76
abbrev s_line_of : Stmt := top 79
abbrev s_step : Stmt := top 80
abbrev s_walk : Stmt := top 81
abbrev s_law_pen : Stmt := top 83
abbrev s_law_draw : Stmt := top 84
abbrev s_law_number_said : Stmt := top 85
abbrev s_law_loop_line : Stmt := top 86
abbrev s_law_rounds : Stmt := top 87
abbrev s_law_three : Stmt := top 88
abbrev s_law_comes_to : Stmt := top 89
abbrev s_law_nested_right : Stmt := top 90
abbrev s_law_outer_right : Stmt := top 91
abbrev s_law_begun_again_right : Stmt := top 92
abbrev s_law_called_right : Stmt := top 93
abbrev s_law_same_name_right : Stmt := top 94
abbrev s_law : Stmt := top 95
def d_is_number_loops : He.DefD := ⟨("is_number_loops", none), "is_number", "is_number", defArgs s_is_number_loops, defBody s_is_number_loops, defScope s_is_number_loops, [], []⟩
def d_line_behind : He.DefD := ⟨("line_behind", none), "line_behind", "line_behind", defArgs s_line_behind, defBody s_line_behind, defScope s_line_behind, [], []⟩
def d_go_behind : He.DefD := ⟨("go_behind", none), "go_behind", "go_behind", defArgs s_go_behind, defBody s_go_behind, defScope s_go_behind, [], []⟩
def d_again_behind : He.DefD := ⟨("again_behind", none), "again_behind", "again_behind", defArgs s_again_behind, defBody s_again_behind, defScope s_again_behind, [], []⟩
def d_closed_by : He.DefD := ⟨("closed_by", none), "closed_by", "closed_by", defArgs s_closed_by, defBody s_closed_by, defScope s_closed_by, [], []⟩
def d_is_beyond : He.DefD := ⟨("is_beyond", none), "is_beyond", "is_beyond", defArgs s_is_beyond, defBody s_is_beyond, defScope s_is_beyond, [], []⟩
def d_loop_begun : He.DefD := ⟨("loop_begun", none), "loop_begun", "loop_begun", defArgs s_loop_begun, defBody s_loop_begun, defScope s_loop_begun, [], []⟩
def d_loop_again : He.DefD := ⟨("loop_again", none), "loop_again", "loop_again", defArgs s_loop_again, defBody s_loop_again, defScope s_loop_again, [], []⟩
def d_next_data : He.DefD := ⟨("next_data", none), "next_data", "next_data", defArgs s_next_data, defBody s_next_data, defScope s_next_data, [], []⟩
def d_read_on : He.DefD := ⟨("read_on", none), "read_on", "read_on", defArgs s_read_on, defBody s_read_on, defScope s_read_on, [], []⟩
def d_around_init : He.DefD := ⟨("Around", some "__init__"), "__init__", "Around.__init__", defArgs s_around_init, defBody s_around_init, defScope s_around_init, [], []⟩
def d_need : He.DefD := ⟨("need", none), "need", "need", defArgs s_need, defBody s_need, defScope s_need, [], []⟩
def d_is_number_reckon : He.DefD := ⟨("is_number_reckon", none), "is_number", "is_number", defArgs s_is_number_reckon, defBody s_is_number_reckon, defScope s_is_number_reckon, [], []⟩
def d_bounded : He.DefD := ⟨("bounded", none), "bounded", "bounded", defArgs s_bounded, defBody s_bounded, defScope s_bounded, [], []⟩
def d_by_sign : He.DefD := ⟨("by_sign", none), "by_sign", "by_sign", defArgs s_by_sign, defBody s_by_sign, defScope s_by_sign, [], []⟩
def d_part_of : He.DefD := ⟨("part_of", none), "part_of", "part_of", defArgs s_part_of, defBody s_part_of, defScope s_part_of, [], []⟩
def d_cell_of : He.DefD := ⟨("cell_of", none), "cell_of", "cell_of", defArgs s_cell_of, defBody s_cell_of, defScope s_cell_of, [], []⟩
def d_fit_of : He.DefD := ⟨("fit_of", none), "fit_of", "fit_of", defArgs s_fit_of, defBody s_fit_of, defScope s_fit_of, [], []⟩
def d_last_fault : He.DefD := ⟨("last_fault", none), "last_fault", "last_fault", defArgs s_last_fault, defBody s_last_fault, defScope s_last_fault, [], []⟩
def d_of_worths : He.DefD := ⟨("of_worths", none), "of_worths", "of_worths", defArgs s_of_worths, defBody s_of_worths, defScope s_of_worths, [], []⟩
def d_come : He.DefD := ⟨("come", none), "come", "come", defArgs s_come, defBody s_come, defScope s_come, [], []⟩
def d_reckon : He.DefD := ⟨("reckon", none), "reckon", "reckon", defArgs s_reckon, defBody s_reckon, defScope s_reckon, [], [("boxes", .non), ("rows", .non), ("fits", .non), ("fault", .non)]⟩
def d_has_line : He.DefD := ⟨("has_line", none), "has_line", "has_line", defArgs s_has_line, defBody s_has_line, defScope s_has_line, [], []⟩
def d_fault_at : He.DefD := ⟨("fault_at", none), "fault_at", "fault_at", defArgs s_fault_at, defBody s_fault_at, defScope s_fault_at, [], []⟩
def d_trap_set : He.DefD := ⟨("trap_set", none), "trap_set", "trap_set", defArgs s_trap_set, defBody s_trap_set, defScope s_trap_set, [], []⟩
def d_tried : He.DefD := ⟨("tried", none), "tried", "tried", defArgs s_tried, defBody s_tried, defScope s_tried, [], []⟩
def d_expressions_of : He.DefD := ⟨("expressions_of", none), "expressions_of", "expressions_of", defArgs s_expressions_of, defBody s_expressions_of, defScope s_expressions_of, [], []⟩
def d_worths_of : He.DefD := ⟨("worths_of", none), "worths_of", "worths_of", defArgs s_worths_of, defBody s_worths_of, defScope s_worths_of, [], []⟩
def d_put_in_box : He.DefD := ⟨("put_in_box", none), "put_in_box", "put_in_box", defArgs s_put_in_box, defBody s_put_in_box, defScope s_put_in_box, [], []⟩
def d_put_in_cell : He.DefD := ⟨("put_in_cell", none), "put_in_cell", "put_in_cell", defArgs s_put_in_cell, defBody s_put_in_cell, defScope s_put_in_cell, [], []⟩
def d_put_a_row : He.DefD := ⟨("put_a_row", none), "put_a_row", "put_a_row", defArgs s_put_a_row, defBody s_put_a_row, defScope s_put_a_row, [], []⟩
def d_say_done : He.DefD := ⟨("say_done", none), "say_done", "say_done", defArgs s_say_done, defBody s_say_done, defScope s_say_done, [], []⟩
def d_put_a_fit : He.DefD := ⟨("put_a_fit", none), "put_a_fit", "put_a_fit", defArgs s_put_a_fit, defBody s_put_a_fit, defScope s_put_a_fit, [], []⟩
def d_anew_done : He.DefD := ⟨("anew_done", none), "anew_done", "anew_done", defArgs s_anew_done, defBody s_anew_done, defScope s_anew_done, [], []⟩
def d_note_done : He.DefD := ⟨("note_done", none), "note_done", "note_done", defArgs s_note_done, defBody s_note_done, defScope s_note_done, [], []⟩
def d_jump_done : He.DefD := ⟨("jump_done", none), "jump_done", "jump_done", defArgs s_jump_done, defBody s_jump_done, defScope s_jump_done, [], []⟩
def d_call_done : He.DefD := ⟨("call_done", none), "call_done", "call_done", defArgs s_call_done, defBody s_call_done, defScope s_call_done, [], []⟩
def d_back_done : He.DefD := ⟨("back_done", none), "back_done", "back_done", defArgs s_back_done, defBody s_back_done, defScope s_back_done, [], []⟩
def d_pick_done : He.DefD := ⟨("pick_done", none), "pick_done", "pick_done", defArgs s_pick_done, defBody s_pick_done, defScope s_pick_done, [], []⟩
def d_choice_done : He.DefD := ⟨("choice_done", none), "choice_done", "choice_done", defArgs s_choice_done, defBody s_choice_done, defScope s_choice_done, [], []⟩
def d_halt_done : He.DefD := ⟨("halt_done", none), "halt_done", "halt_done", defArgs s_halt_done, defBody s_halt_done, defScope s_halt_done, [], []⟩
def d_ask_done : He.DefD := ⟨("ask_done", none), "ask_done", "ask_done", defArgs s_ask_done, defBody s_ask_done, defScope s_ask_done, [], []⟩
def d_move_done : He.DefD := ⟨("move_done", none), "move_done", "move_done", defArgs s_move_done, defBody s_move_done, defScope s_move_done, [], []⟩
def d_gone_behind : He.DefD := ⟨("gone_behind", none), "gone_behind", "gone_behind", defArgs s_gone_behind, defBody s_gone_behind, defScope s_gone_behind, [], []⟩
def d_line_done : He.DefD := ⟨("line_done", none), "line_done", "line_done", defArgs s_line_done, defBody s_line_done, defScope s_line_done, [], []⟩
def d_is_whole : He.DefD := ⟨("is_whole", none), "is_whole", "is_whole", defArgs s_is_whole, defBody s_is_whole, defScope s_is_whole, [], []⟩
def d_is_number_words : He.DefD := ⟨("is_number_words", none), "is_number", "is_number", defArgs s_is_number_words, defBody s_is_number_words, defScope s_is_number_words, [], []⟩
def d_numbers_of : He.DefD := ⟨("numbers_of", none), "numbers_of", "numbers_of", defArgs s_numbers_of, defBody s_numbers_of, defScope s_numbers_of, [], []⟩
def d_known_of : He.DefD := ⟨("known_of", none), "known_of", "known_of", defArgs s_known_of, defBody s_known_of, defScope s_known_of, [], []⟩
def d_as_state : He.DefD := ⟨("as_state", none), "as_state", "as_state", defArgs s_as_state, defBody s_as_state, defScope s_as_state, [], []⟩
def d_first_state : He.DefD := ⟨("first_state", none), "first_state", "first_state", defArgs s_first_state, defBody s_first_state, defScope s_first_state, [], [("first", .non)]⟩
def d_line_of : He.DefD := ⟨("line_of", none), "line_of", "line_of", defArgs s_line_of, defBody s_line_of, defScope s_line_of, [], []⟩
def d_step : He.DefD := ⟨("step", none), "step", "step", defArgs s_step, defBody s_step, defScope s_step, [], []⟩
def d_walk : He.DefD := ⟨("walk", none), "walk", "walk", defArgs s_walk, defBody s_walk, defScope s_walk, [], [("state", .non), ("most", .int 1000)]⟩
def d_law_pen : He.DefD := ⟨("_law_pen", none), "_law_pen", "_law_pen", defArgs s_law_pen, defBody s_law_pen, defScope s_law_pen, [], []⟩
def d_law_draw : He.DefD := ⟨("_law_draw", none), "_law_draw", "_law_draw", defArgs s_law_draw, defBody s_law_draw, defScope s_law_draw, [], []⟩
def d_law_number_said : He.DefD := ⟨("_law_number_said", none), "_law_number_said", "_law_number_said", defArgs s_law_number_said, defBody s_law_number_said, defScope s_law_number_said, [], []⟩
def d_law_loop_line : He.DefD := ⟨("_law_loop_line", none), "_law_loop_line", "_law_loop_line", defArgs s_law_loop_line, defBody s_law_loop_line, defScope s_law_loop_line, [], []⟩
def d_law_rounds : He.DefD := ⟨("_law_rounds", none), "_law_rounds", "_law_rounds", defArgs s_law_rounds, defBody s_law_rounds, defScope s_law_rounds, [], []⟩
def d_law_three : He.DefD := ⟨("_law_three", none), "_law_three", "_law_three", defArgs s_law_three, defBody s_law_three, defScope s_law_three, [], []⟩
def d_law_comes_to : He.DefD := ⟨("_law_comes_to", none), "_law_comes_to", "_law_comes_to", defArgs s_law_comes_to, defBody s_law_comes_to, defScope s_law_comes_to, [], []⟩
def d_law_nested_right : He.DefD := ⟨("_law_nested_right", none), "_law_nested_right", "_law_nested_right", defArgs s_law_nested_right, defBody s_law_nested_right, defScope s_law_nested_right, [], []⟩
def d_law_outer_right : He.DefD := ⟨("_law_outer_right", none), "_law_outer_right", "_law_outer_right", defArgs s_law_outer_right, defBody s_law_outer_right, defScope s_law_outer_right, [], []⟩
def d_law_begun_again_right : He.DefD := ⟨("_law_begun_again_right", none), "_law_begun_again_right", "_law_begun_again_right", defArgs s_law_begun_again_right, defBody s_law_begun_again_right, defScope s_law_begun_again_right, [], []⟩
def d_law_called_right : He.DefD := ⟨("_law_called_right", none), "_law_called_right", "_law_called_right", defArgs s_law_called_right, defBody s_law_called_right, defScope s_law_called_right, [], []⟩
def d_law_same_name_right : He.DefD := ⟨("_law_same_name_right", none), "_law_same_name_right", "_law_same_name_right", defArgs s_law_same_name_right, defBody s_law_same_name_right, defScope s_law_same_name_right, [], []⟩
def d_law : He.DefD := ⟨("law", none), "law", "law", defArgs s_law, defBody s_law, defScope s_law, [], []⟩
def fnA : List He.DefD := [d_is_number_loops, d_line_behind, d_go_behind, d_again_behind, d_closed_by, d_is_beyond, d_loop_begun, d_loop_again, d_around_init, d_need, d_is_number_reckon, d_bounded, d_by_sign, d_of_worths, d_come, d_reckon, d_has_line, d_fault_at, d_expressions_of, d_worths_of, d_put_in_box, d_say_done, d_jump_done, d_call_done, d_back_done, d_choice_done, d_halt_done, d_move_done, d_gone_behind, d_line_done]
def fnB : List He.DefD := [d_numbers_of, d_known_of, d_as_state, d_first_state, d_line_of, d_step, d_walk, d_law_pen, d_law_draw, d_law_number_said, d_law_loop_line, d_law_rounds, d_law_three, d_law_comes_to, d_law_nested_right, d_law_outer_right, d_law_begun_again_right, d_law_called_right, d_law_same_name_right, d_law]
def fn : List He.DefD := fnA ++ fnB
def faA : List He.Fa := [.glo "is_number_loops", .glo "line_behind", .glo "go_behind", .glo "again_behind", .glo "closed_by", .glo "is_beyond", .glo "loop_begun", .glo "loop_again", .glo "need", .glo "is_number_reckon", .glo "bounded", .glo "by_sign", .glo "of_worths", .glo "come", .glo "reckon", .glo "has_line", .glo "fault_at", .glo "expressions_of", .glo "worths_of", .glo "put_in_box", .glo "say_done", .glo "jump_done", .glo "call_done", .glo "back_done", .glo "choice_done", .glo "halt_done", .glo "move_done", .glo "gone_behind", .glo "line_done", .glo "numbers_of", .glo "known_of", .glo "as_state", .glo "first_state", .glo "line_of", .glo "step"]
def faB : List He.Fa := [.glo "walk", .glo "_law_pen", .glo "_law_draw", .glo "_law_number_said", .glo "_law_loop_line", .glo "_law_rounds", .glo "_law_three", .glo "_law_comes_to", .glo "_law_nested_right", .glo "_law_outer_right", .glo "_law_begun_again_right", .glo "_law_called_right", .glo "_law_same_name_right", .glo "law", .glo "Around", .glo "Fault", .glo "PARTS", .glo "PLAIN_reckon", .glo "BOTH_KINDS", .glo "RECKONED", .glo "PLAIN_acts"]
def faC : List He.Fa := [.free "isinstance", .free "int", .free "all", .free "len", .free "range", .free "abs", .free "dict", .free "list", .free "zip", .free "tuple", .free "sorted", .free "enumerate", .int "MOST_FRAMES" 50, .int "MOST_NUMBER_loops" 1000000000000, .int "MOST_NUMBER_reckon" 1000000000000, .int "MOST_STEPS" 1000, .cls "Around", .mkr "Around", .noat "Around" "box_worths", .noat "Around" "row_worths", .noat "Around" "fit_bodies", .noat "Around" "fault_met", .noat "Around" "deep"]
def fa : List He.Fa := faA ++ (faB ++ faC)
def tabs : List He.Tab := [(fun K => He.ga K "RECKONED", ["set", "setcell", "row", "loop", "goby", "when", "pick"]), (fun K => He.ga K "PLAIN_acts", ["set", "setcell", "row", "say", "fit", "anew", "data", "note"])]
/-- the object at a key of a table of the top -/
def ka (K : PySem.W.Frag) (x k : Str) : Addr := match PySem.W.nsIn K (He.ga K x) k with
  | some (some (.ref a)) => a
  | _ => 0
def tupAtB (K : PySem.W.Frag) (a : Addr) (vs : List V) : Bool := match K.lookup a with
  | some ⟨.type c, _, .seq its _, _⟩ => decide (c = "tuple") && (decide (its.size ≤ sizeLine) && He.relAll vs its.toList)
  | _ => false
/-- a key of RECKONED leads to a tuple of these numbers -/
def recB (K : PySem.W.Frag) (k : Str) (vs : List V) : Bool := He.eqO (PySem.W.nsIn K (He.ga K "RECKONED") k) (some (some (.ref (ka K "RECKONED" k)))) && tupAtB K (ka K "RECKONED" k) vs
def noKeyB (K : PySem.W.Frag) (x k : Str) : Bool := He.eqO (PySem.W.nsIn K (He.ga K x) k) (some none)
def actB (K : PySem.W.Frag) (k f : Str) : Bool := He.eqO (PySem.W.nsIn K (He.ga K "PLAIN_acts") k) (some (some (.ref (He.ga K f))))
def exList (K : PySem.W.Frag) : List Bool := [He.tupB K "PARTS" [.str "stand", .str "at", .str "boxes", .str "rows", .str "fits", .str "pile", .str "place", .str "trap", .str "trapped", .str "fault", .str "asked", .str "said"],
  He.tupB K "PLAIN_reckon" [.str "number", .str "text"],
  He.tupB K "BOTH_KINDS" [.str "+", .str "<", .str "=", .str ">"],
  recB K "set" [.int 2],
  recB K "loop" [.int 2, .int 3, .int 4],
  recB K "when" [.int 1],
  noKeyB K "RECKONED" "call",
  noKeyB K "RECKONED" "back",
  noKeyB K "RECKONED" "again",
  noKeyB K "RECKONED" "stop",
  noKeyB K "RECKONED" "end",
  actB K "set" "put_in_box",
  actB K "say" "say_done",
  noKeyB K "PLAIN_acts" "call",
  noKeyB K "PLAIN_acts" "back",
  noKeyB K "PLAIN_acts" "when",
  noKeyB K "PLAIN_acts" "loop",
  noKeyB K "PLAIN_acts" "again",
  noKeyB K "PLAIN_acts" "stop",
  noKeyB K "PLAIN_acts" "end"]
def ex (K : PySem.W.Frag) : Bool := (exList K).all id
abbrev R : PySem.W.OpenRow := PySem.W.OpenLaw.row PySem.Challenge.rw_numberedlines_k31_whole_loops_by_names
/-- what an object names, a record's fields left out (a code object's parts) -/
def refsZ (o : Obj) : List Addr := match o.data with
  | .fields _ => []
  | _ => He.refsD o
def growZ (g : Addr → Option Obj) (as : List Addr) : List Addr := (as.flatMap fun a => match g a with
  | some o => refsZ o
  | none => []).eraseDups
def asZ (g : Addr → Option Obj) : Nat → List Addr → List Addr
  | 0, as => as
  | n + 1, as => as ++ asZ g n (growZ g as)
def obsZ (g : Addr → Option Obj) : He.AlX := (He.obsT fa fn tabs (He.frT g (asZ g 4 [mainGlobals])), ex (He.frT g (asZ g 4 [mainGlobals])))
def hk : PySem.W.Hook where
  α := He.AlX
  obs := fun s => obsZ s.heap.get?
  val := fun w => He.valX fn tabs w
  says := fun w h => ∃ K : PySem.W.Frag, K.In h ∧ He.SaysX fa fn tabs [] ex w h K
  of := fun _ _ e => ⟨_, He.frT_in, congrArg (fun z : He.AlX => z.1) e, congrArg (fun z : He.AlX => z.2) e, (fun _ hp => nomatch hp), (fun _ hp => nomatch hp), (fun _ hp => nomatch hp)⟩
  keeps := fun _ _ _ ⟨K, hK, c⟩ k => ⟨K, PySem.W.Frag.In.keeps hK k, ⟨c.t, c.more, c.hd, c.out, fun p hp => k _ _ (c.empty p hp)⟩⟩
def ob (s : PySem.W.SharedT) : He.AlX := obsZ (HandSHeadRun.getT s)
theorem ob_eq (s : PySem.W.SharedT) : ob s = hk.obs s.abs := by
  have e : HandSHeadRun.getT s = s.abs.heap.get? := funext (HandSHeadRun.getT_eq s)
  show obsZ (HandSHeadRun.getT s) = obsZ s.abs.heap.get?
  rw [e]
def loose0 : List PySem.Str := ["MOST_FRAMES", "MOST_NUMBER_loops", "is_number_loops", "is_number", "line_behind", "go_behind", "again_behind", "closed_by", "is_beyond", "loop_begun", "loop_again", "next_data", "read_on", "MOST_NUMBER_reckon", "MOST_SIGNS", "MOST_FITS"]
def loose1 : List PySem.Str := ["BOTH_KINDS", "PLAIN_reckon", "Fault", "Around", "need", "is_number_reckon", "bounded", "by_sign", "part_of", "cell_of", "fit_of", "last_fault", "of_worths", "come", "reckon", "has_line"]
def loose2 : List PySem.Str := ["fault_at", "trap_set", "tried", "MOST_CELLS", "RECKONED", "expressions_of", "worths_of", "put_in_box", "put_in_cell", "put_a_row", "say_done", "put_a_fit", "anew_done", "note_done", "PLAIN_acts", "jump_done"]
def loose3 : List PySem.Str := ["call_done", "back_done", "pick_done", "choice_done", "halt_done", "ask_done", "move_done", "gone_behind", "line_done", "LineError", "NoLine", "LAST_NUMBER", "is_whole", "is_number_words", "PARTS", "numbers_of"]
def loose4 : List PySem.Str := ["known_of", "as_state", "first_state", "MOST_STEPS", "line_of", "step", "walk", "_law_pen", "_law_draw", "_law_number_said", "_law_loop_line", "_law_rounds", "_law_three", "_law_comes_to", "_law_nested_right", "_law_outer_right"]
def loose5 : List PySem.Str := ["_law_begun_again_right", "_law_called_right", "_law_same_name_right"]
def loose : List PySem.Str := loose0 ++ (loose1 ++ (loose2 ++ (loose3 ++ (loose4 ++ (loose5)))))
end K31
namespace K31
open PySem PySem.Spec PyProof.Rows L2
theorem run_f (w : World) : HandSHeadRun.RunEq R (PySem.W.view R.prog [95]) hk ob 4000 loose (w.withFollow "special-get-raises" false) := by
  intro os
  kernel_rfl
theorem run_t (w : World) : HandSHeadRun.RunEq R (PySem.W.view R.prog [95]) hk ob 4000 loose (w.withFollow "special-get-raises" true) := by
  intro os
  kernel_rfl
theorem run (w : World) : HandSHeadRun.RunEq R (PySem.W.view R.prog [95]) hk ob 4000 loose w :=
  PySem.W.byRow2 "special-get-raises" (P := fun w => HandSHeadRun.RunEq R (PySem.W.view R.prog [95]) hk ob 4000 loose w) run_f run_t w
end K31
/-! rules of our own: a star target over a tuple, t += u of tuples -/
namespace K31
open PySem PySem.Spec PyProof.Rows L2 HT
section
variable {prog : Program} {w : World} {A : Around} {E : Value → Shared → Prop} {s : Shared}
theorem noI_tuple_add : typeLookup (.type "tuple") (dunderI "add") = pure none := by rw [typeLookup_type, builtinLookup_eq_fast]; kernel_rfl
/-- t += u -/
theorem icat_tup {t b : Addr} {vs ws : List Value} {Q : Value → Shared → Prop} (ht : IsTup s.heap t vs.toArray) (hb : IsTup s.heap b ws.toArray)
    (h0 : vs = [] → Q (.ref b) s) (h1 : vs ≠ [] → ws = [] → Q (.ref t) s) (h2 : vs ≠ [] → ws ≠ [] → Q (.ref s.heap.objs.size) { s with heap := s.heap.push { cls := .type "tuple", data := .seq (vs ++ ws).toArray } })
    (hsz : vs.length + ws.length ≤ sizeLine) : wpAny (model prog w) A (inplaceOp .Add (.ref t) (.ref b)) Q E s := by
  obtain ⟨⟨cls, dd, data, sl⟩, ho, hc, n, hd⟩ := id ht
  obtain ⟨⟨cls2, dd2, data2, sl2⟩, ho2, hc2, n2, hd2⟩ := id hb
  simp only at hc hd hc2 hd2
  subst hc hd hc2 hd2
  have e : vs.toArray ++ ws.toArray = (vs ++ ws).toArray := by simp
  refine wpAny_inplaceOp_concat (T := "tuple") (id := "tuple.__add__") ⟨_, ho, rfl⟩ ⟨_, ho2, rfl⟩ noI_tuple_add noFill_tuple_add seq_tuple_add ?_
  by_cases hv : vs = []
  · refine call_meets PySem.F.slot_tuple_add ⟨_, ho, rfl⟩ PySem.F.entry_tuple_add (PySem.F.args_tuple_add_2 _ _) (tuple_addW0 t b vs.toArray ws.toArray n n2 dd dd2 sl sl2 (by simp [hv])) ⟨ho, ho2, h0 hv⟩
  · by_cases hw : ws = []
    · exact call_meets PySem.F.slot_tuple_add ⟨_, ho, rfl⟩ PySem.F.entry_tuple_add (PySem.F.args_tuple_add_2 _ _)
        (tuple_addW1 t b vs.toArray ws.toArray n n2 dd dd2 sl sl2 (by simpa using hv) (by simp [hw])) ⟨ho, ho2, h1 hv hw⟩
    · refine call_meets PySem.F.slot_tuple_add ⟨_, ho, rfl⟩ PySem.F.entry_tuple_add (PySem.F.args_tuple_add_2 _ _)
        (tuple_addW2 t b vs.toArray ws.toArray n n2 dd dd2 sl sl2 (by simpa using hv) (by simpa using hw) (by rw [List.size_toArray, List.size_toArray]; exact hsz)) ⟨ho, ho2, ?_⟩
      rw [e]
      exact h2 hv hw
/-- a, b, *c = a tuple: the star is the last -/
theorem unpack_starT {l : Addr} {items : Array Value} {n i : Nat} {Q : List Value → Shared → Prop} (hl : IsTup s.heap l items) (hh : A.handled = none) (hi : i + 1 = n) (hn : i ≤ items.size) (hz : items.size ≤ sizeLine)
    (h : ∀ (h' : Heap) (tk : Nat), (∀ b o, s.heap.get? b = some o → h'.get? b = some o) →
      Q (items.toList.take i ++ [.ref h'.objs.size]) { s with heap := h'.push { cls := .type "list", data := .seq (items.toList.drop i).toArray }, toks := tk }) : wpAny (model prog w) A (unpackItems (.ref l) n (some i)) Q E s := by
  have hlt : l ≠ s.heap.objs.size := by obtain ⟨o, ho, _⟩ := hl; exact Nat.ne_of_lt (Heap.lt_size ho)
  unfold unpackItems
  refine wpAny_bind ?_
  unfold notIterableAtAll
  refine wpAny_bind (wpAny_specialOf hl.typeIs slot_tuple_iter.lookup ?_)
  refine wpAny_pure ?_
  simp only [Bool.false_eq_true, if_false]
  refine wpAny_bind (wpAny_holding (iter_tuple hl ?_))
  refine wpAny_bind (wpAny_holding (draw_tuple hlt i 0 _ _ ⟨_, Heap.get?_push_size _ rfl, rfl, rfl⟩ (hl.push _) (by omega) fun h₁ hit₁ hs₁ => ?_))
  have hl₁ : IsTup h₁ l items := (hl.push _).extBut hs₁.extBut hlt
  rw [Nat.zero_add] at hit₁
  have hit₁' := hit₁
  obtain ⟨oi, hoi, _⟩ := hit₁'
  have hl₁' := hl₁
  obtain ⟨ol, hol, _⟩ := hl₁'
  rw [List.drop_zero]
  have hfl : (items.toList.take i).length = i := by rw [List.length_take, Array.length_toList]; omega
  rw [if_neg (show ¬ ((items.toList.take i).length < i) by rw [hfl]; omega)]
  refine wpAny_bind (wpAny_holding (PySem.W.kun_collect (s := { s with heap := h₁ }) (T := "tuple_iterator") (.inr (.inr (.inr rfl))) (Walks.tuple (A := A.in1) hh s.heap.objs.size l hlt items) (fun j u st => st.1.typeIs) (k := i) (by omega) ⟨hit₁, hl₁⟩ (Heap.lt_size hoi) (Heap.lt_size hol) (fun h₂ tk hk => ?_) hz))
  have hrl : (items.toList.drop i).length = items.size - i := by rw [List.length_drop, Array.length_toList]
  show wpAny _ _ (if (items.toList.drop i).length < n - 1 - i then _ else _) _ _ _
  rw [if_neg (by rw [hrl]; omega)]
  have hmid : (items.toList.drop i).length - (n - 1 - i) = (items.toList.drop i).length := by omega
  show wpAny _ _ (newList ((items.toList.drop i).take ((items.toList.drop i).length - (n - 1 - i))) >>= fun d => pure (items.toList.take i ++ [d] ++ (items.toList.drop i).drop ((items.toList.drop i).length - (n - 1 - i)))) _ _ _
  rw [hmid, List.take_length, List.drop_length]
  have he : Heap.ExtBut s.heap.objs.size s.heap h₂ := fun b o hb e => hk b o hb (hs₁.extBut b o hb (Heap.get?_push_of_some _ e))
  refine wpAny_bind (wpAny_newList (s := { s with heap := h₂, toks := tk }) (wpAny_pure ?_) (by rw [hrl]; omega))
  rw [List.append_nil]
  exact h h₂ tk (fun b o e => he b o (Nat.ne_of_lt (Heap.lt_size e)) e)
theorem assign_starT {env : Env} {elts : List Expr} {k : Nat} {pos : Pos} {l : Addr} {items : Array Value} {n i : Nat} {Q : Unit → Shared → Prop} (hl : IsTup s.heap l items) (hh : A.handled = none) (hlen : (assignEach elts env).length = n) (hstar : (assignEach elts env).findIdx? (·.1) = some i)
    (hi : i + 1 = n) (hn : i ≤ items.size) (hz : items.size ≤ sizeLine)
    (h : ∀ (h' : Heap) (tk : Nat), (∀ b o, s.heap.get? b = some o → h'.get? b = some o) →
      wpAny (model prog w) A (assignInOrder ((assignEach elts env).map (·.2)) (items.toList.take i ++ [.ref h'.objs.size])) Q E { s with heap := h'.push { cls := .type "list", data := .seq (items.toList.drop i).toArray }, toks := tk }) :
    wpAny (model prog w) A (assign (.Tuple elts k pos) env (.ref l)) Q E s := by
  rw [assign_Tuple]
  refine wpAny_bind (wpAny_standAt ?_)
  unfold unpack
  rw [hlen, hstar]
  exact wpAny_bind (wpAny_holding (unpack_starT hl hh hi hn hz h))
end
section
variable {X : Cx}
/-- a, b, *c = a tuple of i items or more -/
def gStar (K : PySem.W.Frag) (i : Nat) (t : TGs) : TG := fun v σ H Q => ∃ a xs, v = .ref a ∧ SqT K H a xs ∧ i ≤ xs.length ∧ ∀ p, H p = none → t (xs.take i ++ [.ref p]) σ (upd H p (.lst (xs.drop i))) Q
/-- the targets, the last of them starred -/
theorem pgs_star {e : Expr} {p : Pos} {t : TG} (h1 : PG X e t) : PGs X [.Starred e p] (gCons t gNil) := by
  refine ⟨fun pins s σ H vs us Q I r h => ?_⟩
  obtain ⟨v, vr, e1, h⟩ := h
  subst e1
  cases r with
  | cons r rr =>
    show wpAny _ _ (assignInOrder [assign e X.env] _) _ _ _
    refine assignInOrder_cons (thn (h1.run pins s σ H _ _ _ I r h) fun _ s1 ⟨σ1, H1, I1, q1⟩ => ?_)
    exact pgs_nil.run pins s1 σ1 H1 _ _ Q I1 rr q1
theorem pg_star {es : List Expr} {k : Nat} {pos : Pos} {t : TGs} {i : Nat} (hc : X.calm = true) (h : PGs X es t) (hst : (assignEach es X.env).findIdx? (·.1) = some i := by rfl)
    (hn : (assignEach es X.env).length = i + 1 := by rfl) : PG X (.Tuple es k pos) (gStar X.K i t) := by
  refine ⟨fun pins s σ H v u Q I r hw => ?_⟩
  obtain ⟨a, xs, e1, hq, hl, hw⟩ := hw
  subst e1
  cases r
  obtain ⟨its, rv, ht, hz⟩ := I.tuple hq
  have hlen := rv.length
  refine assign_starT ht (I.ok.hd hc) hn hst rfl (by rw [List.size_toArray, ← hlen]; exact hl) (by rw [List.size_toArray, ← hlen]; exact hz) fun h' tk hx => ?_
  have I1 : Inv X pins σ H { s with heap := h', toks := tk } := I.kept (t' := tk) hx
  have z : (xs.drop i).length ≤ sizeLine := by rw [List.length_drop]; omega
  have rd : Vals (xs.drop i) (its.drop i) := rv.drop i
  have I2 := I1.lnew (t' := tk) rd z
  have nf : H h'.objs.size = none := I1.fresh
  have rr : Vals (xs.take i ++ [V.ref h'.objs.size]) (its.take i ++ [Value.ref h'.objs.size]) := (rv.take i).append (.cons rfl .nil)
  exact h.run pins _ σ _ _ _ Q I2 rr (hw _ nf)
/-- t += u, by values -/
theorem iop_catA : OpR X (inplaceOp .Add) (rCatA X.K) := by
  intro pins s σ H x y v u Q I rx ry h
  obtain ⟨a, b, xs, ys, rfl, rfl, ha, hb, hz, q0, q1, q2⟩ := h
  cases rx
  cases ry
  obtain ⟨its, r1, p1, _⟩ := I.tuple ha
  obtain ⟨its2, r2, p2, _⟩ := I.tuple hb
  have e1 : ∀ {xs : List V} {us : List Value}, Vals xs us → (us = [] ↔ xs = []) := fun r => r.nil_iff
  refine icat_tup p1 p2 (fun z => ⟨.ref b, H, I, rfl, q0 ((e1 r1).mp z)⟩) (fun z1 z2 => ⟨.ref a, H, I, rfl, q1 (fun y => z1 ((e1 r1).mpr y)) ((e1 r2).mp z2)⟩) (fun z1 z2 => ?_) (by rw [← r1.length, ← r2.length]; exact hz)
  refine ⟨.ref s.heap.objs.size, _, I.laid (t' := s.toks) (o := .tup (xs ++ ys)) (fun b ob q => Heap.get?_push_of_some _ q) (Nat.le_refl _) ?_, rfl, q2 (fun y => z1 ((e1 r1).mpr y)) (fun y => z2 ((e1 r2).mpr y)) _ (I.hok.fresh (Nat.le_refl _))⟩
  exact ⟨by rw [List.length_append]; exact hz, _, r1.append r2, IsTup.new _ _⟩
theorem ip_catA : PIp X .Add (rCatA X.K) := fun pins s σ H x y v u Q I rx ry h => iop_catA pins s σ H x y v u Q I rx ry h
theorem in_catA : InOp X .Add (rCatA X.K) := fun pins s σ H x y u v Q I rx ry h => iop_catA pins s σ H x y u v Q I rx ry h
end
end K31
/-! list(zip(t, u, strict=True)) of two tuples of one length -/
namespace K31
open PySem PySem.Spec PyProof.Rows L2
abbrev stK : Str := Str.ofString "strict"
theorem typeCall_zipS (a b c : Value) : checkTypeCall "zip" ⟨[a, b], [(stK, c)]⟩ = pure () := by kernel_rfl
theorem newCall_zipS (a b c : Value) : checkBuiltinCall "zip.__new__" ⟨[.type "zip", a, b], [(stK, c)]⟩ = pure () := by kernel_rfl
theorem args_objS (obj a b c : Value) : argsOk "object.__init__" ⟨[obj, a, b], [(stK, c)]⟩ := by unfold argsOk; kernel_rfl
/-- a strict zip -/
abbrev IsZipS (h : Heap) (z TI TO : Addr) (f0 : Value) (f : Bool) : Prop :=
  h.get? z = some { cls := .type "zip", dict := none, data := .fields #[f0, .bool f, .bool true, .ref TI, .ref TO], slots := #[] }
abbrev zS1 (h : Heap) (l1 : Addr) : Heap := h.push { cls := .type "tuple_iterator", data := .fields #[.ref l1, .int 0 0] }
abbrev zS2 (h : Heap) (l1 l2 : Addr) : Heap := (zS1 h l1).push { cls := .type "tuple_iterator", data := .fields #[.ref l2, .int 0 0] }
abbrev zS3 (h : Heap) (l1 l2 : Addr) : Heap := (zS2 h l1 l2).push { cls := .type "tuple", data := .seq #[.ref h.objs.size, .ref (zS1 h l1).objs.size] }
abbrev zS4 (h : Heap) (l1 l2 : Addr) : Heap := (zS3 h l1 l2).push { cls := .type "tuple", data := .seq #[.none, .none] }
abbrev zS5 (h : Heap) (l1 l2 : Addr) : Heap := (zS4 h l1 l2).push { cls := .type "zip", data := .fields #[.none, .bool false, .bool true, .ref (zS2 h l1 l2).objs.size, .ref (zS3 h l1 l2).objs.size] }
theorem meets_zipS_new (l1 l2 : Addr) (xs ys : Array Value) :
    Meets (Builtin.«zip.__new__» ⟨[.type "zip", .ref l1, .ref l2], [(stK, .bool true)]⟩) (fun _ R s => s.heap.IsTuple l1 xs ∧ s.heap.IsTuple l2 ys ∧
      R (.ok (.ret (.ref (zS4 s.heap l1 l2).objs.size))) { s with heap := zS5 s.heap l1 l2 }) :=
  .of_wp fun prog w A R s h => by
    obtain ⟨hp, g, d, tk, os⟩ := s; obtain ⟨hl1, hl2, h⟩ := h
    have hsub := sub_zip
    have e1 : (stK == ("strict" : Str)) = true := by decide +kernel
    have e2 : (stK != ("strict" : Str)) = false := by decide +kernel
    have hL1 : Heap.IsTuple (Shared.heap ⟨hp, g, d, tk, os⟩) l1 xs := hl1
    have hL2 : Heap.IsTuple (Shared.heap ⟨hp.push { cls := .type "tuple_iterator", data := .fields #[.ref l1, .int 0 0] }, g, d, tk, os⟩) l2 ys := Heap.IsTuple.push hl2 _
    wp_walk using wpAny_pyIter_tuple hL1, wpAny_pyIter_tuple hL2
    exact ⟨_, rfl, h⟩
section
variable {prog : Program} {w : World} {A : Around} {E : Value → Shared → Prop} {s : Shared}
theorem call_zipS {l1 l2 : Addr} {xs ys : Array Value} {Q : Value → Shared → Prop} (hl1 : s.heap.IsTuple l1 xs) (hl2 : s.heap.IsTuple l2 ys)
    (h : ∀ h' : Heap, IsZipS h' (s.heap.objs.size + 4) (s.heap.objs.size + 2) (s.heap.objs.size + 3) .none false → IsPair h' (s.heap.objs.size + 2) (.ref s.heap.objs.size) (.ref (s.heap.objs.size + 1)) →
      IsPair h' (s.heap.objs.size + 3) .none .none → h'.IsTupleIter s.heap.objs.size l1 0 → h'.IsTupleIter (s.heap.objs.size + 1) l2 0 → h'.objs.size = s.heap.objs.size + 5 →
      (∀ c o, s.heap.get? c = some o → h'.get? c = some o) → Q (.ref (s.heap.objs.size + 4)) { s with heap := h' }) :
    wpAny (model prog w) A (call (.type "zip") [.ref l1, .ref l2] [(stK, .bool true)]) Q E s := by
  refine callType_newKw F.called_zip (by decide) (typeCall_zipS _ _ _) (newCall_zipS _ _ _) (fun obj => args_objS obj _ _ _) F.entry_zip_new
    (meets_zipS_new l1 l2 xs ys) ⟨hl1, hl2, ?_⟩
  have z1 : (zS1 s.heap l1).objs.size = s.heap.objs.size + 1 := Heap.size_push ..
  have z2 : (zS2 s.heap l1 l2).objs.size = s.heap.objs.size + 2 := by rw [Heap.size_push, z1]
  have z3 : (zS3 s.heap l1 l2).objs.size = s.heap.objs.size + 3 := by rw [Heap.size_push, z2]
  have z4 : (zS4 s.heap l1 l2).objs.size = s.heap.objs.size + 4 := by rw [Heap.size_push, z3]
  have z5 : (zS5 s.heap l1 l2).objs.size = s.heap.objs.size + 5 := by rw [Heap.size_push, z4]
  have g5 : (zS5 s.heap l1 l2).get? (zS4 s.heap l1 l2).objs.size = some _ := Heap.get?_push_size _ rfl
  have g4 : (zS5 s.heap l1 l2).get? (zS3 s.heap l1 l2).objs.size = some _ := Heap.get?_push_of_some _ (Heap.get?_push_size _ rfl)
  have g3 : (zS5 s.heap l1 l2).get? (zS2 s.heap l1 l2).objs.size = some _ := Heap.get?_push_of_some _ (Heap.get?_push_of_some _ (Heap.get?_push_size _ rfl))
  have g2 : (zS5 s.heap l1 l2).get? (zS1 s.heap l1).objs.size = some _ := Heap.get?_push_of_some _ (Heap.get?_push_of_some _ (Heap.get?_push_of_some _ (Heap.get?_push_size _ rfl)))
  have g1 : (zS5 s.heap l1 l2).get? s.heap.objs.size = some _ := Heap.get?_push_of_some _ (Heap.get?_push_of_some _ (Heap.get?_push_of_some _ (Heap.get?_push_of_some _ (Heap.get?_push_size _ rfl))))
  show _ ∧ _
  rw [z2, z3, z4] at g5
  rw [z1, z2] at g3
  rw [z3] at g4
  rw [z1] at g2
  rw [z4]
  exact ⟨⟨_, g5, rfl⟩, h _ g5 g3 g4 ⟨_, g1, rfl, rfl⟩ ⟨_, g2, rfl, rfl⟩ z5 fun c o x =>
    Heap.get?_push_of_some _ (Heap.get?_push_of_some _ (Heap.get?_push_of_some _ (Heap.get?_push_of_some _ (Heap.get?_push_of_some _ x))))⟩
/-- drawn strictly -/
theorem nextOrEnd_item {it l : Addr} {i : Nat} {items : Array Value} {x : Value} {Q : Option Value → Shared → Prop} (hit : s.heap.IsTupleIter it l i) (hl : s.heap.IsTuple l items) (hx : items[i]? = some x)
    (hQ : ∀ h' : Heap, h'.IsTupleIter it l (i + 1) → Heap.SameBut it s.heap h' → Q (some x) { s with heap := h' }) : wpAny (model prog w) A (Builtin.SmallTypes.nextOrEnd (.ref it)) Q E s := by
  unfold Builtin.SmallTypes.nextOrEnd
  exact wpAny_bind (wpAny_attempt (RZ.nextOf_tuple_item hit hl hx fun h' a b => wpAny_pure (hQ h' a b)))
theorem nextOrEnd_end {it l : Addr} {i : Nat} {items : Array Value} {Q : Option Value → Shared → Prop} (hh : A.handled = none) (hit : s.heap.IsTupleIter it l i) (hl : s.heap.IsTuple l items) (hx : items[i]? = none)
    (hQ : ∀ h' : Heap, Heap.ExtBut it s.heap h' → Q none { s with heap := h' }) : wpAny (model prog w) A (Builtin.SmallTypes.nextOrEnd (.ref it)) Q E s := by
  unfold Builtin.SmallTypes.nextOrEnd
  refine wpAny_bind (wpAny_attempt (RZ.nextOf_tuple_end hh hit hl hx fun h' e a ⟨o, ho, hc⟩ => ?_))
  refine wpAny_bind (wpAny_isInstance (T := "StopIteration") (b := true) ⟨o, ho, hc⟩ isSubtype_stop ?_)
  exact wpAny_pure (hQ h' a)
end
end K31
namespace K31
open PySem PySem.Spec PyProof.Rows L2
section
variable {prog : Program} {w : World} {A : Around} {E : Value → Shared → Prop} {s : Shared}
theorem heldS {z TI TO T : Addr} {f : Bool} {oT : Obj} {Q : Bool → Shared → Prop} (hz : IsZipS s.heap z TI TO (rawInt T) f) (hT : s.heap.get? T = some oT)
    (h : ∀ h' : Heap, IsZipS h' z TI TO (rawInt T) true → Heap.SameBut z s.heap h' → Q false { s with heap := h' }) : wpAny (model prog w) A (Builtin.SmallTypes.ownedTupleIsFree (.ref z)) Q E s := by
  unfold Builtin.SmallTypes.ownedTupleIsFree
  refine wpAny_bind (wpAny_field hz rfl (x := rawInt T) rfl ?_)
  show wpAny _ _ (loadIfAlive ((T : Int).toNat) >>= _) _ _ _
  rw [Int.toNat_natCast]
  refine wpAny_bind (PySem.W.kdx_alive hT ?_)
  simp only [Option.isNone_some, Bool.false_eq_true, if_false]
  refine wpAny_bind (wpAny_field hz rfl (x := .bool f) rfl ?_)
  cases f with
  | true =>
    rw [if_neg (show ¬ ((Value.bool true != Value.bool true) = true) from Bool.false_ne_true)]
    exact wpAny_pure (h s.heap hz (Heap.SameBut.refl _ _))
  | false =>
    rw [if_pos (show (Value.bool false != Value.bool true) = true from rfl)]
    exact wpAny_bind (wpAny_setField_rec hz (by simp) fun h₁ hz₁ hs₁ => wpAny_pure (h h₁ hz₁ hs₁))
/-- an item while the last tuple is still held -/
theorem nextS_held {z TI TO T i1 i2 l1 l2 : Addr} {f : Bool} {oT : Obj} {k1 k2 : Nat} {xs ys : Array Value} {x y : Value} {Q : Value → Shared → Prop} (D : ZipApart z TI TO i1 i2 l1 l2)
    (hz : IsZipS s.heap z TI TO (rawInt T) f) (hT : s.heap.get? T = some oT) (hTI : IsPair s.heap TI (.ref i1) (.ref i2))
    (h1 : s.heap.IsTupleIter i1 l1 k1) (h2 : s.heap.IsTupleIter i2 l2 k2) (hl1 : s.heap.IsTuple l1 xs) (hl2 : s.heap.IsTuple l2 ys) (hx : xs[k1]? = some x) (hy : ys[k2]? = some y)
    (hQ : ∀ h' : Heap, IsZipS h' z TI TO (rawInt T) true → h'.IsTupleIter i1 l1 (k1 + 1) → h'.IsTupleIter i2 l2 (k2 + 1) → IsPair h' s.heap.objs.size x y → h'.objs.size = s.heap.objs.size + 1 →
      (∀ c o, c ≠ z → c ≠ i1 → c ≠ i2 → s.heap.get? c = some o → h'.get? c = some o) → Q (.ref s.heap.objs.size) { s with heap := h' }) :
    wpAny (model prog w) A (Builtin.«zip.__next__» ⟨[.ref z], []⟩) (fun fin s' => ∃ v, fin = .done (.ret v) ∧ Q v s') E s := by
  show wpAny _ _ (field (.ref z) 2 >>= _) _ _ _
  refine wpAny_bind (wpAny_field hz rfl (x := .bool true) rfl ?_)
  show wpAny _ _ (field (.ref z) 3 >>= _) _ _ _
  refine wpAny_bind (wpAny_field hz rfl (x := .ref TI) rfl ?_)
  refine wpAny_bind (wpAny_seqItems hTI rfl ?_)
  show wpAny _ _ (Builtin.SmallTypes.ownedTupleIsFree (.ref z) >>= _) _ _ _
  refine wpAny_bind (heldS hz hT fun h₁ hz₁ hs₁ => ?_)
  simp only [Bool.false_eq_true, if_false]
  refine wpAny_bind ?_
  rw [← Array.forIn_toList]
  simp only [List.forIn_cons, List.forIn_nil]
  refine wpAny_bind (wpAny_bind (wpAny_holding ?_))
  show wpAny _ _ (Builtin.SmallTypes.nextOrEnd (.ref i1)) _ _ _
  refine nextOrEnd_item (s := { s with heap := h₁ }) (h1.extBut hs₁.extBut D.i1z) (hl1.extBut hs₁.extBut D.l1z) hx fun h₂ h1₂ hs₂ => ?_
  refine wpAny_pure ?_
  refine wpAny_bind (wpAny_bind (wpAny_holding ?_))
  show wpAny _ _ (Builtin.SmallTypes.nextOrEnd (.ref i2)) _ _ _
  refine nextOrEnd_item (s := { s with heap := h₂ }) ((h2.extBut hs₁.extBut D.i2z).extBut hs₂.extBut D.i12.symm) ((hl2.extBut hs₁.extBut D.l2z).extBut hs₂.extBut D.l2i1) hy fun h₃ h2₃ hs₃ => ?_
  refine wpAny_pure (wpAny_pure ?_)
  show wpAny _ _ (newTuple [x, y] >>= _) _ _ _
  refine wpAny_bind (wpAny_newTuple ?_)
  have hsz : h₃.objs.size = s.heap.objs.size := by rw [hs₃.1, hs₂.1, hs₁.1]
  have hz₃ : IsZipS h₃ z TI TO (rawInt T) true := hs₃.extBut _ _ D.i2z.symm (hs₂.extBut _ _ D.i1z.symm hz₁)
  have hk : ∀ c o, c ≠ z → c ≠ i1 → c ≠ i2 → s.heap.get? c = some o → h₃.get? c = some o := fun c o c1 c2 c3 e => hs₃.extBut _ _ c3 (hs₂.extBut _ _ c2 (hs₁.extBut _ _ c1 e))
  have h1₃ : h₃.IsTupleIter i1 l1 (k1 + 1) := h1₂.extBut hs₃.extBut D.i12
  refine wpAny_pure ⟨_, rfl, ?_⟩
  show Q (.ref h₃.objs.size) _
  have hp : IsPair (h₃.push { cls := .type "tuple", data := .seq #[x, y] }) h₃.objs.size x y := Heap.get?_push_size _ rfl
  have hz4 : (h₃.push { cls := .type "tuple", data := .seq #[x, y] }).objs.size = h₃.objs.size + 1 := Heap.size_push ..
  rw [hsz] at hp hz4 ⊢
  exact hQ _ (Heap.get?_push_of_some _ hz₃) (h1₃.at fun o e => Heap.get?_push_of_some _ e) (h2₃.at fun o e => Heap.get?_push_of_some _ e) hp hz4 fun c o c1 c2 c3 e => Heap.get?_push_of_some _ (hk c o c1 c2 c3 e)
/-- the end, all walked -/
theorem endS_held {z TI TO T i1 i2 l1 l2 : Addr} {f : Bool} {oT : Obj} {k1 k2 : Nat} {xs ys : Array Value} {Q : Fin → Shared → Prop} (hh : A.handled = none) (D : ZipApart z TI TO i1 i2 l1 l2)
    (hz : IsZipS s.heap z TI TO (rawInt T) f) (hT : s.heap.get? T = some oT) (hTI : IsPair s.heap TI (.ref i1) (.ref i2))
    (h1 : s.heap.IsTupleIter i1 l1 k1) (h2 : s.heap.IsTupleIter i2 l2 k2) (hl1 : s.heap.IsTuple l1 xs) (hl2 : s.heap.IsTuple l2 ys) (hx : xs[k1]? = none) (hy : ys[k2]? = none)
    (hE : ∀ (h' : Heap) (e : Addr), (∀ c o, c ≠ z → c ≠ i1 → c ≠ i2 → s.heap.get? c = some o → h'.get? c = some o) → (∃ o, h'.get? e = some o ∧ o.cls = .type "StopIteration") → E (.ref e) { s with heap := h' }) :
    wpAny (model prog w) A (Builtin.«zip.__next__» ⟨[.ref z], []⟩) Q E s := by
  show wpAny _ _ (field (.ref z) 2 >>= _) _ _ _
  refine wpAny_bind (wpAny_field hz rfl (x := .bool true) rfl ?_)
  show wpAny _ _ (field (.ref z) 3 >>= _) _ _ _
  refine wpAny_bind (wpAny_field hz rfl (x := .ref TI) rfl ?_)
  refine wpAny_bind (wpAny_seqItems hTI rfl ?_)
  show wpAny _ _ (Builtin.SmallTypes.ownedTupleIsFree (.ref z) >>= _) _ _ _
  refine wpAny_bind (heldS hz hT fun h₁ hz₁ hs₁ => ?_)
  simp only [Bool.false_eq_true, if_false]
  refine wpAny_bind ?_
  rw [← Array.forIn_toList]
  simp only [List.forIn_cons, List.forIn_nil]
  refine wpAny_bind (wpAny_bind (wpAny_holding ?_))
  show wpAny _ _ (Builtin.SmallTypes.nextOrEnd (.ref i1)) _ _ _
  refine nextOrEnd_end (s := { s with heap := h₁ }) hh (h1.extBut hs₁.extBut D.i1z) (hl1.extBut hs₁.extBut D.l1z) hx fun h₂ hs₂ => ?_
  refine wpAny_bind ?_
  refine wpAny_bind ?_
  simp only [List.drop_succ_cons, List.drop_zero, List.zipIdx_cons, List.zipIdx_nil, List.forIn_cons, List.forIn_nil]
  refine wpAny_bind (wpAny_bind ?_)
  have hi2 : h₂.IsTupleIter i2 l2 k2 := (h2.extBut hs₁.extBut D.i2z).extBut hs₂ D.i12.symm
  have hL2 : h₂.IsTuple l2 ys := (hl2.extBut hs₁.extBut D.l2z).extBut hs₂ D.l2i1
  refine nextOrEnd_end (s := { s with heap := h₂ }) hh hi2 hL2 hy fun h₃ hs₃ => ?_
  rw [if_neg (show ¬ ((none : Option Value).isSome = true) from Bool.false_ne_true)]
  refine wpAny_pure (wpAny_pure ?_)
  refine wpAny_bind (wpAny_rule ?_)
  show wpAny _ _ (newExc (.type "StopIteration") [] >>= _) _ _ _
  refine wpAny_bind ?_
  simp only [newExc, newTuple]
  refine wpAny_bind (wpAny_newObj_type ?_ (by size_fits))
  refine wpAny_bind (m := firstArgMember _ _) (wpAny_of_eq (a := Value.none) (by first | rfl | (simp only [firstArgMember]; rfl)) ?_)
  refine wpAny_newObj_type ?_ (by size_fits)
  simp only [raiseNew]
  refine wpAny_bind (wpAny_handled ?_)
  first | rw [show A.in1.handled = none from hh] | rw [hh]
  refine wpAny_bind (wpAny_pure (wpAny_throw ?_))
  exact hE _ _ (fun c o c1 c2 c3 x => Heap.get?_push_of_some _ (Heap.get?_push_of_some _ (hs₃ _ _ c3 (hs₂ _ _ c2 (hs₁.extBut _ _ c1 x))))) ⟨_, Heap.get?_push_size _ rfl, rfl⟩
/-- an item, the first one: the owned tuple is free -/
theorem nextS_free {z TI TO i1 i2 l1 l2 : Addr} {k1 k2 : Nat} {xs ys : Array Value} {x y a b : Value} {Q : Value → Shared → Prop} (D : ZipApart z TI TO i1 i2 l1 l2)
    (hz : IsZipS s.heap z TI TO .none false) (hTI : IsPair s.heap TI (.ref i1) (.ref i2)) (hTO : IsPair s.heap TO a b)
    (h1 : s.heap.IsTupleIter i1 l1 k1) (h2 : s.heap.IsTupleIter i2 l2 k2) (hl1 : s.heap.IsTuple l1 xs) (hl2 : s.heap.IsTuple l2 ys) (hx : xs[k1]? = some x) (hy : ys[k2]? = some y)
    (hQ : ∀ h' : Heap, IsZipS h' z TI TO (rawInt s.heap.objs.size) false → IsPair h' TO x y → h'.IsTupleIter i1 l1 (k1 + 1) → h'.IsTupleIter i2 l2 (k2 + 1) → IsPair h' s.heap.objs.size x y → h'.objs.size = s.heap.objs.size + 1 →
      (∀ c o, c ≠ z → c ≠ TO → c ≠ i1 → c ≠ i2 → s.heap.get? c = some o → h'.get? c = some o) → Q (.ref s.heap.objs.size) { s with heap := h' }) :
    wpAny (model prog w) A (Builtin.«zip.__next__» ⟨[.ref z], []⟩) (fun fin s' => ∃ v, fin = .done (.ret v) ∧ Q v s') E s := by
  show wpAny _ _ (field (.ref z) 2 >>= _) _ _ _
  refine wpAny_bind (wpAny_field hz rfl (x := .bool true) rfl ?_)
  show wpAny _ _ (field (.ref z) 3 >>= _) _ _ _
  refine wpAny_bind (wpAny_field hz rfl (x := .ref TI) rfl ?_)
  refine wpAny_bind (wpAny_seqItems hTI rfl ?_)
  show wpAny _ _ (Builtin.SmallTypes.ownedTupleIsFree (.ref z) >>= _) _ _ _
  refine wpAny_bind ?_
  unfold Builtin.SmallTypes.ownedTupleIsFree
  refine wpAny_bind (wpAny_field hz rfl (x := .none) rfl (wpAny_pure ?_))
  simp only [if_true]
  refine wpAny_bind (wpAny_rule ?_)
  refine wpAny_bind (wpAny_field hz rfl (x := .ref TO) rfl ?_)
  refine wpAny_bind (wpAny_setField_rec hz (by simp) fun h₁ hz₁ hs₁ => ?_)
  replace hz₁ : IsZipS h₁ z TI TO .ellipsis false := hz₁
  refine wpAny_bind ?_
  simp only [List.zipIdx_cons, List.zipIdx_nil, List.forIn_cons, List.forIn_nil]

  refine wpAny_bind (wpAny_bind (wpAny_onRaise ?_))
  show wpAny _ _ (Builtin.SmallTypes.nextOrEnd (.ref i1)) _ _ _
  refine nextOrEnd_item (s := { s with heap := h₁ }) (h1.extBut hs₁.extBut D.i1z) (hl1.extBut hs₁.extBut D.l1z) hx fun h₂ h1₂ hs₂ => ?_
  have hTO₂ : IsPair h₂ TO a b := hs₂.extBut _ _ D.TOi1 (hs₁.extBut _ _ D.TOz hTO)
  refine wpAny_bind (wpAny_seqItems hTO₂ rfl ?_)
  refine wpAny_bind (wpAny_updateSeq_pair hTO₂ fun h₃ hTO₃ hs₃ => ?_)
  replace hTO₃ : IsPair h₃ TO x b := hTO₃
  refine wpAny_bind (wpAny_letGo (wpAny_pure ?_))

  refine wpAny_bind (wpAny_bind (wpAny_onRaise ?_))
  show wpAny _ _ (Builtin.SmallTypes.nextOrEnd (.ref i2)) _ _ _
  refine nextOrEnd_item (s := { s with heap := h₃ }) (((h2.extBut hs₁.extBut D.i2z).extBut hs₂.extBut D.i12.symm).extBut hs₃.extBut D.TOi2.symm)
    (((hl2.extBut hs₁.extBut D.l2z).extBut hs₂.extBut D.l2i1).extBut hs₃.extBut D.l2TO) hy fun h₄ h2₄ hs₄ => ?_
  have hTO₄ : IsPair h₄ TO x b := hs₄.extBut _ _ D.TOi2 hTO₃
  refine wpAny_bind (wpAny_seqItems hTO₄ rfl ?_)
  refine wpAny_bind (wpAny_updateSeq_pair hTO₄ fun h₅ hTO₅ hs₅ => ?_)
  replace hTO₅ : IsPair h₅ TO x y := hTO₅
  refine wpAny_bind (wpAny_letGo (wpAny_pure (wpAny_pure ?_)))

  refine wpAny_bind (wpAny_seqItems hTO₅ rfl ?_)
  refine wpAny_bind (wpAny_newTuple ?_)
  have hsz : h₅.objs.size = s.heap.objs.size := by rw [hs₅.1, hs₄.1, hs₃.1, hs₂.1, hs₁.1]
  have hz₅ : IsZipS h₅ z TI TO .ellipsis false := hs₅.extBut _ _ D.TOz.symm (hs₄.extBut _ _ D.i2z.symm (hs₃.extBut _ _ D.TOz.symm (hs₂.extBut _ _ D.i1z.symm hz₁)))
  have hk₅ : ∀ c o, c ≠ z → c ≠ TO → c ≠ i1 → c ≠ i2 → s.heap.get? c = some o → h₅.get? c = some o := fun c o c1 c2 c3 c4 e =>
    hs₅.extBut _ _ c2 (hs₄.extBut _ _ c4 (hs₃.extBut _ _ c2 (hs₂.extBut _ _ c3 (hs₁.extBut _ _ c1 e))))
  have h1₅ : h₅.IsTupleIter i1 l1 (k1 + 1) := ((h1₂.extBut hs₃.extBut D.TOi1.symm).extBut hs₄.extBut D.i12).extBut hs₅.extBut D.TOi1.symm
  have h2₅ : h₅.IsTupleIter i2 l2 (k2 + 1) := h2₄.extBut hs₅.extBut D.TOi2.symm
  have hzlt : z < h₅.objs.size := Heap.lt_size hz₅
  have hTOlt : TO < h₅.objs.size := Heap.lt_size hTO₅
  show wpAny _ _ (Builtin.SmallTypes.ownedTupleHandOut (.ref z) (.ref h₅.objs.size) >>= _) _ _ _
  refine wpAny_bind ?_
  unfold Builtin.SmallTypes.ownedTupleHandOut
  have hz₆ : IsZipS (h₅.push { cls := .type "tuple", data := .seq #[x, y] }) z TI TO .ellipsis false := Heap.get?_push_of_some _ hz₅
  refine wpAny_bind (wpAny_setField_rec hz₆ (by simp) fun h₇ hz₇ hs₇ => ?_)
  replace hz₇ : IsZipS h₇ z TI TO (rawInt h₅.objs.size) false := hz₇
  refine wpAny_setField_rec hz₇ (by simp) fun h₈ hz₈ hs₈ => ?_
  replace hz₈ : IsZipS h₈ z TI TO (rawInt h₅.objs.size) false := hz₈
  have up : ∀ c o, c ≠ z → h₅.get? c = some o → h₈.get? c = some o := fun c o c1 e => hs₈.extBut _ _ c1 (hs₇.extBut _ _ c1 (Heap.get?_push_of_some _ e))
  have hT₈ : IsPair h₈ h₅.objs.size x y := hs₈.extBut _ _ (Nat.ne_of_gt hzlt) (hs₇.extBut _ _ (Nat.ne_of_gt hzlt) (Heap.get?_push_size _ rfl))
  have hz8 : h₈.objs.size = h₅.objs.size + 1 := by rw [hs₈.1, hs₇.1, Heap.size_push]
  rw [hsz] at hz₈ hT₈ hz8
  refine wpAny_pure ⟨_, rfl, ?_⟩
  show Q (.ref h₅.objs.size) _
  rw [hsz]
  exact hQ h₈ hz₈ (up _ _ D.TOz hTO₅) (h1₅.at fun o e => up _ o D.i1z e) (h2₅.at fun o e => up _ o D.i2z e) hT₈ hz8 fun c o c1 c2 c3 c4 e => up c o c1 (hk₅ c o c1 c2 c3 c4 e)
end
end K31
namespace K31
open PySem PySem.Spec PyProof.Rows L2
theorem zip_no_len : typeLookup (.type "zip") "__len__" = pure none := by rw [typeLookup_type, builtinLookup_eq_fast]; kernel_rfl
theorem zip_no_hint : typeLookup (.type "zip") "__length_hint__" = pure none := by rw [typeLookup_type, builtinLookup_eq_fast]; kernel_rfl
theorem tuple_at {h h' : Heap} {l : Addr} {xs : Array Value} (x : h.IsTuple l xs) (k : ∀ o, h.get? l = some o → h'.get? l = some o) : h'.IsTuple l xs := by
  obtain ⟨o, e, r⟩ := x
  exact ⟨o, k o e, r⟩
structure ZSt (z TI TO i1 i2 l1 l2 S : Addr) (xs ys : Array Value) (h : Heap) (i : Nat) : Prop where
  D : ZipApart z TI TO i1 i2 l1 l2
  nz : S ≠ z
  nTI : S ≠ TI
  nTO : S ≠ TO
  n1 : S ≠ i1
  n2 : S ≠ i2
  nl1 : S ≠ l1
  nl2 : S ≠ l2
  hTI : IsPair h TI (.ref i1) (.ref i2)
  h1 : h.IsTupleIter i1 l1 i
  h2 : h.IsTupleIter i2 l2 i
  hl1 : h.IsTuple l1 xs
  hl2 : h.IsTuple l2 ys
  out : (i = 0 ∧ IsZipS h z TI TO .none false ∧ ∃ a b, IsPair h TO a b) ∨ (0 < i ∧ ∃ (T : Addr) (f : Bool) (oT : Obj), IsZipS h z TI TO (rawInt T) f ∧ h.get? T = some oT ∧ T ≠ z ∧ T ≠ i1 ∧ T ≠ i2 ∧ T ≠ S)
section
variable {z TI TO i1 i2 l1 l2 S : Addr} {xs ys : Array Value}
theorem ZSt.keep {h h' : Heap} {i : Nat} (st : ZSt z TI TO i1 i2 l1 l2 S xs ys h i) (k : ∀ b o, b ≠ S → h.get? b = some o → h'.get? b = some o) : ZSt z TI TO i1 i2 l1 l2 S xs ys h' i := by
  refine ⟨st.D, st.nz, st.nTI, st.nTO, st.n1, st.n2, st.nl1, st.nl2, k _ _ st.nTI.symm st.hTI, st.h1.at fun o e => k _ o st.n1.symm e, st.h2.at fun o e => k _ o st.n2.symm e, tuple_at st.hl1 fun o e => k _ o st.nl1.symm e, tuple_at st.hl2 fun o e => k _ o st.nl2.symm e, ?_⟩
  rcases st.out with ⟨e, hz, a, b, hp⟩ | ⟨e, T, f, oT, hz, hT, t1, t2, t3, t4⟩
  · exact .inl ⟨e, k _ _ st.nz.symm hz, a, b, k _ _ st.nTO.symm hp⟩
  · exact .inr ⟨e, T, f, oT, k _ _ st.nz.symm hz, k _ _ t4 hT, t1, t2, t3, t4⟩
theorem ZSt.ty {h : Heap} {i : Nat} (st : ZSt z TI TO i1 i2 l1 l2 S xs ys h i) : ∃ f0 f, IsZipS h z TI TO f0 f := by
  rcases st.out with ⟨_, hz, _⟩ | ⟨_, T, f, _, hz, _⟩
  · exact ⟨_, _, hz⟩
  · exact ⟨_, _, hz⟩
variable {prog : Program} {w : World} {A : Around} {E : Value → Shared → Prop} {s : Shared}
theorem zs_iter {i : Nat} {Q : Value → Shared → Prop} (st : ZSt z TI TO i1 i2 l1 l2 S xs ys s.heap i) (h : Q (.ref z) s) : wpAny (model prog w) A (pyIter (.ref z)) Q E s := by
  obtain ⟨f0, f, hz⟩ := st.ty
  have hT : s.TypeIs (.ref z) "zip" := ⟨_, hz, rfl⟩
  refine wpAny_pyIter_slot hT F.slot_zip_iter (wpAny_call_entry F.slot_zip_iter hT F.entry_zip_iter ?_ (F.args_zip_iter_1 _))
  show wpAny _ _ (ret (.ref z)) _ _ s
  exact wpAny_pure ⟨_, rfl, "zip", _, hT, F.slot_zip_next.lookup, h⟩
theorem zs_item {i : Nat} {x y : Value} {Q : Option Value → Shared → Prop} (st : ZSt z TI TO i1 i2 l1 l2 S xs ys s.heap i) (hS : S < s.heap.objs.size) (hx : xs[i]? = some x) (hy : ys[i]? = some y)
    (hQ : ∀ h' : Heap, ZSt z TI TO i1 i2 l1 l2 S xs ys h' (i + 1) → IsPair h' s.heap.objs.size x y → h'.objs.size = s.heap.objs.size + 1 → (∀ c o, c ≠ z → c ≠ TO → c ≠ i1 → c ≠ i2 → s.heap.get? c = some o → h'.get? c = some o) →
      Q (some (.ref s.heap.objs.size)) { s with heap := h' }) : wpAny (model prog w) A (pyNext (.ref z)) Q E s := by
  obtain ⟨f0, f, hz⟩ := st.ty
  have hTy : s.TypeIs (.ref z) "zip" := ⟨_, hz, rfl⟩
  have D := st.D
  have big : ∀ {b : Addr} {o : Obj}, s.heap.get? b = some o → s.heap.objs.size ≠ b := fun e => Nat.ne_of_gt (Heap.lt_size e)
  obtain ⟨o1, e1, _⟩ := id st.h1
  obtain ⟨o2, e2, _⟩ := id st.h2
  unfold pyNext
  refine wpAny_bind (wpAny_attempt (wpAny_callSpecial?_slot (name := Str.ofString "__next__") hTy F.slot_zip_next
    (wpAny_call_entry F.slot_zip_next hTy F.entry_zip_next ?_ (F.args_zip_next_1 _))))
  rcases st.out with ⟨e, hz0, a, b, hp⟩ | ⟨e, T, f', oT, hz1, hT, t1, t2, t3, t4⟩
  · refine nextS_free D hz0 st.hTI hp st.h1 st.h2 st.hl1 st.hl2 hx hy fun h' a1 a2 a3 a4 a5 a6 a7 => wpAny_pure (hQ h' ⟨D, st.nz, st.nTI, st.nTO, st.n1, st.n2, st.nl1, st.nl2, ?_, a3, a4, ?_, ?_, .inr ⟨Nat.succ_pos _, _, false, _, a1, a5, big hz, big e1, big e2, Nat.ne_of_gt hS⟩⟩ a5 a6 a7)
    · exact a7 _ _ D.TIz D.TITO D.TIi1 D.TIi2 st.hTI
    · exact tuple_at st.hl1 fun o q => a7 _ o D.l1z D.l1TO D.l1i1 D.l1i2 q
    · exact tuple_at st.hl2 fun o q => a7 _ o D.l2z D.l2TO D.l2i1 D.l2i2 q
  · refine nextS_held D hz1 hT st.hTI st.h1 st.h2 st.hl1 st.hl2 hx hy fun h' a1 a3 a4 a5 a6 a7 => wpAny_pure (hQ h' ⟨D, st.nz, st.nTI, st.nTO, st.n1, st.n2, st.nl1, st.nl2, ?_, a3, a4, ?_, ?_, .inr ⟨Nat.succ_pos _, T, true, oT, a1, a7 _ _ t1 t2 t3 hT, t1, t2, t3, t4⟩⟩ a5 a6 fun c o c1 _ c3 c4 q => a7 c o c1 c3 c4 q)
    · exact a7 _ _ D.TIz D.TIi1 D.TIi2 st.hTI
    · exact tuple_at st.hl1 fun o q => a7 _ o D.l1z D.l1i1 D.l1i2 q
    · exact tuple_at st.hl2 fun o q => a7 _ o D.l2z D.l2i1 D.l2i2 q
theorem zs_done {i : Nat} {Q : Option Value → Shared → Prop} (hh : A.handled = none) (st : ZSt z TI TO i1 i2 l1 l2 S xs ys s.heap i) (h0 : 0 < i) (hx : xs[i]? = none) (hy : ys[i]? = none)
    (hQ : ∀ h' : Heap, (∀ c o, c ≠ z → c ≠ i1 → c ≠ i2 → s.heap.get? c = some o → h'.get? c = some o) → Q none { s with heap := h' }) : wpAny (model prog w) A (pyNext (.ref z)) Q E s := by
  obtain ⟨f0, f, hz⟩ := st.ty
  have hTy : s.TypeIs (.ref z) "zip" := ⟨_, hz, rfl⟩
  rcases st.out with ⟨e, _⟩ | ⟨e, T, f', oT, hz1, hT, t1, t2, t3, t4⟩
  · omega
  unfold pyNext
  refine wpAny_bind (wpAny_attempt (wpAny_callSpecial?_slot (name := Str.ofString "__next__") hTy F.slot_zip_next
    (wpAny_call_entry F.slot_zip_next hTy F.entry_zip_next (endS_held hh st.D hz1 hT st.hTI st.h1 st.h2 st.hl1 st.hl2 hx hy fun h' e hk he => ?_) (F.args_zip_next_1 _))))
  obtain ⟨o, ho, hc⟩ := he
  refine wpAny_bind (wpAny_isInstance (T := "StopIteration") (b := true) ⟨o, ho, hc⟩ isSubtype_stop ?_)
  exact wpAny_pure (hQ _ hk)
/-- the pairs drawn so far, above lo, rising -/
structure ZG (xs ys : Array Value) (lo : Addr) (h : Heap) (as : List Addr) : Prop where
  rise : as.Pairwise (· < ·)
  above : ∀ a ∈ as, lo < a
  pairs : ∀ (j : Nat) (a : Addr), as[j]? = some a → ∃ x y, xs[j]? = some x ∧ ys[j]? = some y ∧ h.get? a = some { cls := .type "tuple", data := .seq #[x, y] }
theorem ZG.there {lo : Addr} {h : Heap} {as : List Addr} (g : ZG xs ys lo h as) {a : Addr} (ha : a ∈ as) : a < h.objs.size := by
  obtain ⟨j, hj⟩ := List.mem_iff_getElem?.mp ha
  obtain ⟨_, _, _, _, e⟩ := g.pairs j a hj
  exact Heap.lt_size e
theorem zs_loop {R : Result → Shared → Prop} {n : Nat} (hh : A.handled = none) (hzS : z < S) (hTOS : TO < S) (h1S : i1 < S) (h2S : i2 < S) (hxn : xs.size = n) (hyn : ys.size = n) (h0 : 0 < n) (hn : n ≤ sizeLine) (res : Value) {h₁ : Heap}
    (hR : ∀ (h' : Heap) tk acc c as, (∀ b o, b ≠ S → b ≠ z → b ≠ TO → b ≠ i1 → b ≠ i2 → h₁.get? b = some o → h'.get? b = some o) → h'.get? S = some { cls := .type "list", dict := none, data := .seq acc c, slots := #[] } → as.length = n → ZG xs ys S h' as →
      acc.toList = as.map Value.ref → R (.ok (.ret res)) { s with heap := h', toks := tk }) :
    ∀ (k i : Nat) (h : Heap) (tk c : Nat) (acc : Array Value) (as : List Addr), n - i = k → i ≤ n → ZSt z TI TO i1 i2 l1 l2 S xs ys h i → (∀ b o, b ≠ S → b ≠ z → b ≠ TO → b ≠ i1 → b ≠ i2 → h₁.get? b = some o → h.get? b = some o) →
      h.get? S = some { cls := .type "list", dict := none, data := .seq acc c, slots := #[] } → acc.toList = as.map Value.ref → as.length = i → ZG xs ys S h as →
      codeAny (model prog w) A (.builtin "list.extend.loop" ⟨[.ref S, .ref z, res], []⟩) R { s with heap := h, toks := tk } := by
  intro k
  induction k with
  | zero =>
    intro i h tk c acc as hk hi hst hkeep hS hacc hal hG
    have hin : i = n := by omega
    subst hin
    refine codeAny_builtin PySem.F.entry_extend_loop ?_
    rw [Around.under_plainId PySem.F.plain_extend_loop _]
    show wpAny _ A.in1 (pyNext (.ref z) >>= _) _ _ _
    refine wpAny_bind (zs_done (s := { s with heap := h, toks := tk }) (A := A.in1) hh hst h0 (Array.getElem?_eq_none (by omega)) (Array.getElem?_eq_none (by omega)) fun h' he => ?_)
    refine wpAny_pure (hR h' tk acc c as (fun b o c1 c2 c3 c4 c5 e => he b o c2 c4 c5 (hkeep b o c1 c2 c3 c4 c5 e)) (he S _ hst.nz hst.n1 hst.n2 hS) hal ⟨hG.rise, hG.above, fun j a hj => ?_⟩ hacc)
    obtain ⟨x, y, e1, e2, e3⟩ := hG.pairs j a hj
    have hb := hG.above a (List.mem_of_getElem? hj)
    exact ⟨x, y, e1, e2, he a _ (Nat.ne_of_gt (Nat.lt_trans hzS hb)) (Nat.ne_of_gt (Nat.lt_trans h1S hb)) (Nat.ne_of_gt (Nat.lt_trans h2S hb)) e3⟩
  | succ k ih =>
    intro i h tk c acc as hk hi hst hkeep hS hacc hal hG
    have hlt : i < n := by omega
    have hsz : acc.size = i := by rw [← Array.length_toList, hacc, List.length_map, hal]
    have hSl : S < h.objs.size := Heap.lt_size hS
    obtain ⟨x, hx⟩ : ∃ x, xs[i]? = some x := ⟨_, Array.getElem?_eq_getElem (by omega)⟩
    obtain ⟨y, hy⟩ : ∃ y, ys[i]? = some y := ⟨_, Array.getElem?_eq_getElem (by omega)⟩
    refine codeAny_builtin PySem.F.entry_extend_loop ?_
    rw [Around.under_plainId PySem.F.plain_extend_loop _]
    show wpAny _ A.in1 (pyNext (.ref z) >>= _) _ _ _
    refine wpAny_bind (zs_item (s := { s with heap := h, toks := tk }) hst hSl hx hy fun h' hst' ht hz hkp => ?_)
    dsimp only at ht hz hkp ⊢
    have hS' := hkp S _ hst.nz hst.nTO hst.n1 hst.n2 hS
    have up : ∀ b o, b ≠ S → h'.get? b = some o → (h'.update S (Obj.mapSeq (·.push (Value.ref h.objs.size)))).get? b = some o := fun b o hb e => (Heap.get?_update_other _ _ (Ne.symm hb)).trans e
    show wpAny _ A.in1 (updateSeq S (·.push (Value.ref h.objs.size)) >>= _) _ _ _
    refine wpAny_bind ?_
    refine wpAny_updateSeq hS' rfl (wpAny_pure ⟨plainId_quiet PySem.F.plain_extend_loop _, ih (i + 1) _ tk _ (acc.push (Value.ref h.objs.size)) (as ++ [h.objs.size]) (by omega) hlt (hst'.keep up)
      (fun b o c1 c2 c3 c4 c5 e => up b o c1 (hkp b o c2 c3 c4 c5 (hkeep b o c1 c2 c3 c4 c5 e))) (Heap.get?_update_self _ hS' rfl) (by rw [Array.toList_push, hacc, List.map_append]; rfl) (by rw [List.length_append, hal]; rfl) ⟨?_, ?_, ?_⟩⟩) (by rw [hsz]; omega) (by show (acc.push (Value.ref h.objs.size)).size ≤ sizeLine + 1; rw [Array.size_push, hsz]; omega)
    · refine List.pairwise_append.mpr ⟨hG.rise, List.pairwise_singleton _ _, fun a ha b hb => ?_⟩
      rw [List.mem_singleton.mp hb]
      exact hG.there ha
    · intro a ha
      rcases List.mem_append.mp ha with ha | ha
      · exact hG.above a ha
      · rw [List.mem_singleton.mp ha]; exact hSl
    · intro j b hj
      rcases Nat.lt_trichotomy j as.length with h1 | h1 | h1
      · rw [List.getElem?_append_left h1] at hj
        obtain ⟨x', y', e1, e2, e3⟩ := hG.pairs j b hj
        have hb := hG.above b (List.mem_of_getElem? hj)
        exact ⟨x', y', e1, e2, up b _ (Nat.ne_of_gt hb) (hkp b _ (Nat.ne_of_gt (Nat.lt_trans hzS hb)) (Nat.ne_of_gt (Nat.lt_trans hTOS hb)) (Nat.ne_of_gt (Nat.lt_trans h1S hb)) (Nat.ne_of_gt (Nat.lt_trans h2S hb)) e3)⟩
      · subst h1
        have hb : h.objs.size = b := by simpa using hj
        subst hb
        subst hal
        exact ⟨x, y, hx, hy, up _ _ (Nat.ne_of_gt hSl) ht⟩
      · have hnone : (as ++ [h.objs.size])[j]? = none := List.getElem?_eq_none (by rw [List.length_append, List.length_singleton]; omega)
        rw [hnone] at hj; cases hj
theorem zs_extend {R : Result → Shared → Prop} {n : Nat} (hh : A.handled = none) (hzS : z < S) (hTOS : TO < S) (h1S : i1 < S) (h2S : i2 < S) (hxn : xs.size = n) (hyn : ys.size = n) (h0 : 0 < n) (hn : n ≤ sizeLine) (res : Value) (c₀ : Nat)
    (st : ZSt z TI TO i1 i2 l1 l2 S xs ys s.heap 0) (hS : s.heap.get? S = some { cls := .type "list", data := .seq #[] c₀ })
    (hR : ∀ (h' : Heap) tk acc c as, (∀ b o, b ≠ S → b ≠ z → b ≠ TO → b ≠ i1 → b ≠ i2 → s.heap.get? b = some o → h'.get? b = some o) → h'.get? S = some { cls := .type "list", dict := none, data := .seq acc c, slots := #[] } → as.length = n → ZG xs ys S h' as →
      acc.toList = as.map Value.ref → R (.ok (.ret res)) { s with heap := h', toks := tk }) :
    wpAny (model prog w) A.in1 (Builtin.List.listExtendWith (.ref S) (.ref z) res)
      (fun fin s' => match fin with | .done f => R (.ok f) s' | .again c' => c'.quiet = true ∧ codeAny (model prog w) A c' R s') (fun e s' => R (.error e) s') s := by
  obtain ⟨f0, f, hz⟩ := st.ty
  have hTy : s.TypeIs (.ref z) "zip" := ⟨_, hz, rfl⟩
  unfold Builtin.List.listExtendWith
  refine wpAny_bind (wpAny_typeOf hTy ?_)
  have h1 : Builtin.List.listSameRef (.ref S) (.ref z) = false := by simp [Builtin.List.listSameRef, st.nz]
  have h2 : (Value.type "zip" == Value.type "list") = false := by decide
  have h3 : (Value.type "zip" == Value.type "tuple") = false := by decide
  simp only [h1, h2, h3, Bool.or_false, Bool.false_eq_true, if_false]
  refine wpAny_bind (zs_iter st ?_)
  refine wpAny_bind (wpAny_holding ?_)
  unfold Builtin.List.listLengthHint
  refine wpAny_bind (wpAny_specialOf hTy zip_no_len ?_)
  show wpAny _ A.in1 (specialOf (Value.ref z) (Str.ofString "__length_hint__") >>= _) _ _ _
  refine wpAny_bind (wpAny_specialOf hTy zip_no_hint ?_)
  refine wpAny_pure ?_
  show wpAny _ A.in1 (rule "list.extend.makes-room" >>= fun _ => Builtin.List.listTouch (.ref S) >>= fun _ =>
    again (.builtin "list.extend.loop" ⟨[.ref S, .ref z, res], []⟩)) _ _ _
  refine wpAny_bind (wpAny_rule ?_)
  refine wpAny_bind ?_
  show wpAny _ A.in1 (updateSeq S (·.push .none) >>= fun _ => updateSeq S (·.pop)) _ _ _
  refine wpAny_bind (wpAny_updateSeq hS rfl ?_)
  have hS₂ := Heap.get?_update_self (Obj.mapSeq (·.push Value.none)) hS rfl
  refine wpAny_updateSeq (hz := by seq_fits) hS₂ rfl ?_
  have hS₃ := Heap.get?_update_self (Obj.mapSeq (·.pop)) hS₂ rfl
  have oth : ∀ b o, b ≠ S → s.heap.get? b = some o → ((s.heap.update S (Obj.mapSeq (·.push Value.none))).update S (Obj.mapSeq (·.pop))).get? b = some o :=
    fun b o hb e => (Heap.get?_update_other _ _ (Ne.symm hb)).trans ((Heap.get?_update_other _ _ (Ne.symm hb)).trans e)
  exact wpAny_pure ⟨plainId_quiet PySem.F.plain_extend_loop _, zs_loop (s := s) (h₁ := s.heap) hh hzS hTOS h1S h2S hxn hyn h0 hn res hR n 0 _ s.toks _ #[] [] (Nat.sub_zero _) (Nat.zero_le _) (st.keep oth) (fun b o hb _ _ _ _ e => oth b o hb e) hS₃ rfl rfl
    ⟨List.Pairwise.nil, (fun _ ha => nomatch ha), (fun j a hj => by simp at hj)⟩⟩
theorem zs_call {Q : Value → Shared → Prop} {n : Nat} (hh : A.handled = none) (hxn : xs.size = n) (hyn : ys.size = n) (h0 : 0 < n) (hn : n ≤ sizeLine)
    (st : ∀ h' : Heap, (∀ b o, s.heap.get? b = some o → h'.get? b = some o) → ZSt z TI TO i1 i2 l1 l2 s.heap.objs.size xs ys h' 0) (hzS : z < s.heap.objs.size) (hTOS : TO < s.heap.objs.size) (h1S : i1 < s.heap.objs.size) (h2S : i2 < s.heap.objs.size)
    (hQ : ∀ (h' : Heap) tk acc c as, (∀ b o, b ≠ z → b ≠ TO → b ≠ i1 → b ≠ i2 → s.heap.get? b = some o → h'.get? b = some o) → h'.get? s.heap.objs.size = some { cls := .type "list", dict := none, data := .seq acc c, slots := #[] } → as.length = n → ZG xs ys s.heap.objs.size h' as →
      acc.toList = as.map Value.ref → Q (.ref s.heap.objs.size) { s with heap := h', toks := tk }) :
    wpAny (model prog w) A (call (.type "list") [.ref z]) Q E s := by
  refine callType_codes (Q₁ := fun obj s₁ => obj = .ref s.heap.objs.size ∧ s₁ = { s with heap := s.heap.push { cls := .type "list", data := .seq #[] } }) PySem.F.called_list (PySem.F.typeCall_list_1 _) PySem.F.entry_list_init
    (code_list_new _ ⟨rfl, rfl⟩) fun obj s₁ h₁ => ?_
  obtain ⟨rfl, rfl⟩ := h₁
  have hS : (s.heap.push { cls := .type "list", data := .seq #[] }).get? s.heap.objs.size = some { cls := .type "list", data := .seq #[] } := Heap.get?_push_size _ rfl
  refine ⟨⟨_, hS, rfl⟩, PySem.F.args_list_init_2 _ _, ?_⟩
  show wpAny _ _ (do let old ← Builtin.List.listItems (.ref s.heap.objs.size); Builtin.List.listUpdate (.ref s.heap.objs.size) (fun _ => #[]); letGo old.toList.reverse; Builtin.List.listExtendWith (.ref s.heap.objs.size) (.ref z) .none) _ _ _
  refine wpAny_bind ?_
  unfold Builtin.List.listItems
  refine wpAny_bind (wpAny_seqItems hS rfl (wpAny_pure ?_))
  show wpAny _ _ (updateSeq s.heap.objs.size (fun _ => #[]) >>= fun _ => letGo (#[] : Array Value).toList.reverse >>= fun _ => Builtin.List.listExtendWith (.ref s.heap.objs.size) (.ref z) .none) _ _ _
  refine wpAny_bind (wpAny_updateSeq hS rfl ?_)
  have hS₂ := Heap.get?_update_self (Obj.mapSeq (fun _ => (#[] : Array Value))) hS rfl
  have oth : ∀ b o, s.heap.get? b = some o → ((s.heap.push { cls := .type "list", data := .seq #[] }).update s.heap.objs.size (Obj.mapSeq (fun _ => (#[] : Array Value)))).get? b = some o :=
    fun b o e => (Heap.get?_update_other _ _ (Ne.symm (Nat.ne_of_lt (Heap.lt_size e)))).trans (Heap.get?_push_of_some _ e)
  refine wpAny_bind (wpAny_letGo ?_)
  refine zs_extend (A := A.in1) (n := n) hh hzS hTOS h1S h2S hxn hyn h0 hn .none _ (st _ oth) hS₂ (fun h' tk acc c as hk hS' hl hG hacc => ?_)
  refine ⟨rfl, hQ h' tk acc c as (fun b o c1 c2 c3 c4 e => hk b o (Nat.ne_of_lt (Heap.lt_size e)) c1 c2 c3 c4 (oth b o e)) hS' hl hG hacc⟩
end
end K31
namespace K31
open PySem PySem.Spec PyProof.Rows L2
section
variable {M : Model} {A : Around} {E : Value → Shared → Prop} {s : Shared} {env : Env}
theorem callWith_typeKwB {pos : Pos} {T : String} {first : List Value} {args : List (Bool × Sem Value)} {keywords : List (Option Str × Sem Value)} {Q : Value → Shared → Prop}
    (hplain : args.any (·.1) = false) (hkw : keywords.any (·.1.isNone) = false)
    (h : wpAny M A (evalArgs (.type T) true args keywords) (fun a s₁ => wpAny M A (call (.type T) (first ++ a.pos) a.kw) Q E s₁) E s) :
    wpAny M A (callWith pos (.type T) first args keywords) Q E s := by
  unfold callWith
  refine wpAny_bind (wpAny_holding (wpAny_mono h (fun a s₁ h₁ => wpAny_bind (wpAny_standAt ?_)) fun _ _ x => x))
  simp only [hplain, hkw, Bool.or_false]
  refine wpAny_bind (wpAny_pure ?_)
  exact wpAny_bind (wpAny_mono h₁ (fun r s₂ hr => wpAny_bind (wpAny_holding (wpAny_point (wpAny_pure hr)))) fun _ _ x => x)
theorem callWith_typeKw {pos : Pos} {T : String} {e : Expr} {rest : List Expr} {kws : List Keyword} {Q : Value → Shared → Prop}
    (h : wpAny M A (spliced (backTo pos (starEach (e :: rest) env))) (fun vs s₁ => wpAny M A (evalAll ((backToKw pos (keywordEach kws env)).map (·.2)))
      (fun kvs s₂ => wpAny M A (call (.type T) vs (((backToKw pos (keywordEach kws env)).filterMap (·.1)).zip kvs)) Q E s₂) E s₁) E s)
    (he : backTo pos (starEach (e :: rest) env) = (false, eval e env) :: backTo pos (starEach rest env) := by rfl)
    (hplain : (backTo pos (starEach (e :: rest) env)).any (·.1) = false := by rfl)
    (hall : (backToKw pos (keywordEach kws env)).all (·.1.isSome) = true := by rfl)
    (hkw : (backToKw pos (keywordEach kws env)).any (·.1.isNone) = false := by rfl) :
    wpAny M A (callWith pos (.type T) [] (backTo pos (starEach (e :: rest) env)) (backToKw pos (keywordEach kws env))) Q E s := by
  refine callWith_typeKwB hplain hkw ?_
  rw [he] at h ⊢
  exact evalArgs_kwB hall h
end
theorem apartZ (n a b : Nat) (ha : a < n) (hb : b < n) : ZipApart (n + 4) (n + 2) (n + 3) n (n + 1) a b :=
  ⟨(show (n + 2 : Nat) ≠ n + 4 by omega), (show (n + 3 : Nat) ≠ n + 4 by omega), (show (n : Nat) ≠ n + 4 by omega), (show (n + 1 : Nat) ≠ n + 4 by omega), (show (n + 2 : Nat) ≠ n + 3 by omega), (show (n + 2 : Nat) ≠ n by omega), (show (n + 2 : Nat) ≠ n + 1 by omega),
    (show (n + 3 : Nat) ≠ n by omega), (show (n + 3 : Nat) ≠ n + 1 by omega), (show (n : Nat) ≠ n + 1 by omega), (show (a : Nat) ≠ n + 4 by omega), (show (a : Nat) ≠ n + 3 by omega), (show (a : Nat) ≠ n by omega), (show (a : Nat) ≠ n + 1 by omega),
    (show (b : Nat) ≠ n + 4 by omega), (show (b : Nat) ≠ n + 3 by omega), (show (b : Nat) ≠ n by omega), (show (b : Nat) ≠ n + 1 by omega)⟩
theorem ltZ (n m k : Nat) (h : m = n + 5) (hk : k < 5) : n + k < m := by omega
theorem ltZ0 (n m : Nat) (h : m = n + 5) : n < m := by omega
theorem neZ (n m k : Nat) (h : m = n + 5) (hk : k < 5) : m ≠ n + k := by omega
theorem neZ0 (n m : Nat) (h : m = n + 5) : m ≠ n := by omega
theorem neZa (n m a : Nat) (h : m = n + 5) (hk : a < n) : m ≠ a := by omega
theorem leZ (n m : Nat) (h : m = n + 5) : n ≤ m := by omega
theorem neOld (n c k : Nat) (h : c < n) : c ≠ n + k := by omega
def tListZip (K : PySem.W.Frag) (ta : TA) : TE := fun σ H Q => ta σ H fun vs H1 => ∃ (a b : Addr) (kvs : List (Key × V)), vs = [.ref a, .ref b] ∧ SqT K H1 a (kvs.map fun q => kV q.1) ∧ SqT K H1 b (kvs.map (·.2)) ∧ kvs ≠ [] ∧
  ∀ (H' : Hp) (p : Addr) (ts : List Addr), (∀ b o, H1 b = some o → H' b = some o) → H1 p = none → H' p = some (.lst (ts.map V.ref)) → Paired (fun (t : Addr) (q : Key × V) => H' t = some (.tup [kV q.1, q.2])) ts kvs → Q (.ref p) H'
section
variable {X : Cx}
theorem zip_laid {pins : List (Addr × Obj)} {σ : L2.St} {H : Hp} {s s2 : Shared} {h' : Heap} {tk : Nat} {S : Addr} {kvs : List (Key × V)} {xs ys : List Value} {acc : Array Value} {c : Nat} {as : List Addr} (I : Inv X pins σ H s) (hz : kvs.length ≤ sizeLine)
    (rx : Vals (kvs.map fun q => kV q.1) xs) (ry : Vals (kvs.map (·.2)) ys) (e2 : s2.gens = s.gens) (e3 : s2.os = s.os) (lS : s.heap.objs.size ≤ S)
    (hk : ∀ b o, s.heap.get? b = some o → h'.get? b = some o) (hS : h'.get? S = some { cls := .type "list", dict := none, data := .seq acc c, slots := #[] }) (hl : as.length = kvs.length) (hG : ZG xs.toArray ys.toArray S h' as) (hacc : acc.toList = as.map Value.ref) :
    ∃ H' : Hp, (∀ b o, H b = some o → H' b = some o) ∧ H S = none ∧ H' S = some (.lst (as.map V.ref)) ∧ Paired (fun (t : Addr) (q : Key × V) => H' t = some (.tup [kV q.1, q.2])) as kvs ∧ Inv X pins σ H' { s2 with heap := h', toks := tk } := by
  have hSn : S ∉ as := fun z => Nat.lt_irrefl _ (hG.above _ z)
  have nd : as.Nodup := List.Pairwise.imp (fun {a b} (h : a < b) => Nat.ne_of_lt h) hG.rise
  have new : ∀ t ∈ as, H t = none := fun t ht => I.hok.fresh (Nat.le_trans lS (Nat.le_of_lt (hG.above t ht)))
  have newS : H S = none := I.hok.fresh lS
  have atP := LiI.putT_at as kvs (upd H S (.lst (as.map V.ref))) hl nd
  have off : ∀ b, b ∉ as → b ≠ S → LiI.putT (upd H S (.lst (as.map V.ref))) as kvs b = H b := fun b h1 h2 => by rw [LiI.putT_off as kvs _ h1, upd_ne h2]
  have low : ∀ b o, s.heap.get? b = some o → b ∉ as ∧ b ≠ S := fun b o e => ⟨fun z => absurd (Heap.lt_size e) (Nat.not_lt.mpr (Nat.le_trans lS (Nat.le_of_lt (hG.above b z)))), Nat.ne_of_lt (Nat.lt_of_lt_of_le (Heap.lt_size e) lS)⟩
  have kp : ∀ b u, H b = some u → (LiI.putT (upd H S (.lst (as.map V.ref))) as kvs) b = some u := fun b u e => by
    rw [off b (fun z => by rw [new b z] at e; cases e) (fun z => by rw [z, newS] at e; cases e)]
    exact e
  have eS : LiI.putT (upd H S (.lst (as.map V.ref))) as kvs S = some (.lst (as.map V.ref)) := by rw [LiI.putT_off as kvs _ hSn, upd_same]
  refine ⟨LiI.putT (upd H S (.lst (as.map V.ref))) as kvs, kp, newS, eS, atP, ?_⟩
  refine I.call' (ch := []) e3 ⟨fun b o q _ _ _ => hk b o q, fun b o q _ _ _ => ⟨o.slots, hk b o q⟩, fun b o q n _ => ?_, fun b o q _ => ⟨o, hk b o q⟩, fun b xs q => kp b _ q, fun b o u q => kp b _ q, fun b ps q => ⟨#[], by rw [kp b _ q]; simp⟩⟩ (fun b u q => ?_) (by show AllBare s2.gens; rw [e2]; exact I.bare) fun b z => by simp at z
  · obtain ⟨z1, z2⟩ := low b o q
    rw [off b z1 z2]
    exact n
  · by_cases hb : b ∈ as
    · obtain ⟨j, pk, f1, f2, f3⟩ := LiI.paired_ix atP hb
      rw [f3] at q
      cases q
      obtain ⟨x, y, g1, g2, g3⟩ := hG.pairs j b f1
      have k1 : (kvs.map fun q => kV q.1)[j]? = some (kV pk.1) := by rw [List.getElem?_map, f2]; rfl
      have k2 : (kvs.map (·.2))[j]? = some pk.2 := by rw [List.getElem?_map, f2]; rfl
      obtain ⟨x', m1, m2⟩ := rx.get k1
      obtain ⟨y', m3, m4⟩ := ry.get k2
      have q1 : x = x' := by
        have g1' : xs[j]? = some x := by simpa using g1
        rw [g1'] at m1
        exact Option.some.inj m1
      have q2 : y = y' := by
        have g2' : ys[j]? = some y := by simpa using g2
        rw [g2'] at m3
        exact Option.some.inj m3
      subst q1 q2
      exact ⟨by show 2 ≤ sizeLine; decide, [x, y], .cons m2 (.cons m4 .nil), ⟨_, g3, rfl, _, rfl⟩⟩
    · by_cases hb2 : b = S
      · rw [hb2] at q ⊢
        rw [eS] at q
        cases q
        refine ⟨by rw [List.length_map]; omega, acc.toList, c, by rw [hacc]; exact LiI.vals_refs as, ?_⟩
        rw [Array.toArray_toList]
        exact hS
      · rw [off b hb hb2] at q
        exact (I.hok b u q).stay (fun d v _ y => hk d v y) (fun d y => kp d _ y) fun d xs y => kp d _ y
/-- list(zip(a, b, strict=True)), two tuples of one length -/
theorem pe_listZip {e1 e2 : Expr} {ta : TA} {p p2 pos pos2 kp cp : Pos} {j : Nat} (hc : X.calm = true) (ha : PA X [e1, e2] ta) (hg : Gl X "list") (hm : X.mg "list" = none) (hg2 : Gl X "zip") (hm2 : X.mg "zip" = none)
    (hv : bootBuiltins "list" = some (.type "list")) (hv2 : bootBuiltins "zip" = some (.type "zip"))
    (hs : starEach [.Call (.Name "zip" p2) [e1, e2] [⟨some "strict", .Constant (.bool true) j cp, kp⟩] pos2] X.env = (false, eval (.Call (.Name "zip" p2) [e1, e2] [⟨some "strict", .Constant (.bool true) j cp, kp⟩] pos2) X.env) :: starEach [] X.env := by rfl)
    (he : backTo pos2 (starEach [e1, e2] X.env) = (false, eval e1 X.env) :: backTo pos2 (starEach [e2] X.env) := by rfl)
    (hplain : (backTo pos2 (starEach [e1, e2] X.env)).any (·.1) = false := by rfl) :
    PE X (.Call (.Name "list" p) [.Call (.Name "zip" p2) [e1, e2] [⟨some "strict", .Constant (.bool true) j cp, kp⟩] pos2] [] pos) (tListZip X.K ta) := by
  refine ⟨fun pins s σ H Q I hq => ?_⟩
  refine wpAny_Call_Name_kw (ld_blt I hg hm hv ?_)
  refine PyProof.Rows.callWith_type1 ?_ hs rfl
  rw [hs]
  show wpAny _ _ (spliced ((false, eval (.Call (.Name "zip" p2) [e1, e2] [⟨some "strict", .Constant (.bool true) j cp, kp⟩] pos2) X.env) :: backTo pos (starEach [] X.env))) _ _ s
  refine Calls.spliced_cons ?_
  refine wpAny_Call_Name_kw (ld_blt I hg2 hm2 hv2 ?_)
  refine callWith_typeKw (thn (ha.run pos2 pins s σ H _ I hq) fun us s1 ⟨vs, H1, I1, r1, a, b, kvs, ev, hA, hB, h0, q⟩ => ?_) he hplain
  subst ev
  obtain ⟨u1, u2, rfl, ra, rb⟩ := vals2 r1
  cases ra
  cases rb
  refine thn ((pk_cons (X := X) (nm := some "strict") (kpos := kp) pe_bl pk_nil).run pos2 pins s1 σ H1 (fun zs H2 => zs = [.bl true] ∧ H2 = H1) I1 ⟨rfl, rfl⟩) fun ws s2 ⟨zs, H2, I2, rz, ez, eh⟩ => ?_
  subst ez eh
  obtain ⟨w1, rfl, rw1⟩ := vals1 rz
  cases rw1
  obtain ⟨xs, rx, tx, hz⟩ := I2.tuple hA
  obtain ⟨ys, ry, ty, _⟩ := I2.tuple hB
  have lx := rx.length
  have ly := ry.length
  rw [List.length_map] at lx ly hz
  have hlen : 0 < kvs.length := List.length_pos_iff.mpr h0
  refine call_zipS (xs := xs.toArray) (ys := ys.toArray) tx ty fun h' g1 g2 g3 g4 g5 g6 g7 => ?_
  refine Calls.spliced_nil ?_
  have ba : a < s2.heap.objs.size := let ⟨_, o, _⟩ := tx; Heap.lt_size o
  have bb : b < s2.heap.objs.size := let ⟨_, o, _⟩ := ty; Heap.lt_size o
  refine zs_call (s := { s2 with heap := h' }) (A := X.A) (xs := xs.toArray) (ys := ys.toArray) (n := kvs.length) (z := s2.heap.objs.size + 4) (TI := s2.heap.objs.size + 2) (TO := s2.heap.objs.size + 3) (i1 := s2.heap.objs.size) (i2 := s2.heap.objs.size + 1) (l1 := a) (l2 := b)
    (I2.ok.hd hc) (by rw [List.size_toArray]; omega) (by rw [List.size_toArray]; omega) hlen hz (fun h2 k2 => ?_) ?_ ?_ ?_ ?_ (fun h2 tk acc c as k2 hS hl hG hacc => ?_)
  · refine ⟨apartZ _ _ _ ba bb, neZ _ _ 4 g6 (by decide), neZ _ _ 2 g6 (by decide), neZ _ _ 3 g6 (by decide), neZ0 _ _ g6, neZ _ _ 1 g6 (by decide), neZa _ _ _ g6 ba, neZa _ _ _ g6 bb, k2 _ _ g2, g4.at fun o e => k2 _ o e, g5.at fun o e => k2 _ o e,
      tuple_at tx fun o e => k2 _ o (g7 _ o e), tuple_at ty fun o e => k2 _ o (g7 _ o e), .inl ⟨rfl, k2 _ _ g1, _, _, k2 _ _ g3⟩⟩
  · exact ltZ _ _ 4 g6 (by decide)
  · exact ltZ _ _ 3 g6 (by decide)
  · exact ltZ0 _ _ g6
  · exact ltZ _ _ 1 g6 (by decide)
  · have old : ∀ c o, s2.heap.get? c = some o → h2.get? c = some o := fun c o e => k2 c o (neOld _ _ 4 (Heap.lt_size e)) (neOld _ _ 3 (Heap.lt_size e)) (neOld _ _ 0 (Heap.lt_size e)) (neOld _ _ 1 (Heap.lt_size e)) (g7 c o e)
    obtain ⟨H', k1, k3, k4, k5, J⟩ := zip_laid (s2 := { s2 with heap := h' }) (tk := tk) I2 hz rx ry rfl rfl (leZ _ _ g6) old hS hl hG hacc
    exact ⟨.ref _, H', J, rfl, q H' _ as k1 k3 k4 k5⟩
end
end K31
/-! tuples whose very object is known (no dict of its own); dict(t) of such a tuple of pairs; dict(d) -/
namespace K31
open PySem PySem.Spec PyProof.Rows L2
def FT (H : Hp) (a : Addr) (xs : List V) : Prop := ∃ o : Obj, H a = some (.frz o (.tup xs)) ∧ o.dict = none
theorem FT.sq {K : PySem.W.Frag} {H : Hp} {a : Addr} {xs : List V} (h : FT H a xs) : SqT K H a xs := let ⟨o, e, _⟩ := h; .inl (.inr ⟨o, e⟩)
/-- what is asked of a new tuple -/
def NewF (H : Hp) (xs : List V) (Q : VK) : Prop := ∀ (p : Addr) (o : Obj), H p = none → o.dict = none → Q (.ref p) (upd H p (.frz o (.tup xs)))
section
variable {X : Cx} {es : List Expr} {pos : Pos}
def tTupF (t : TA) : TE := fun σ H Q => t σ H fun xs H1 => xs.length ≤ sizeLine ∧ NewF H1 xs Q
theorem pe_tupF {x1} {t : TA} (h : PA X es t) : PE X (.Tuple es x1 pos) (tTupF t) := by
  refine ⟨fun pins s σ H Q I hq => ?_⟩
  refine wpAny_Tuple_spliced (thn (h.run pos pins s σ H _ I hq) fun us s1 ⟨xs, H1, I1, r, z, q⟩ => ⟨by rw [← r.length]; exact z, ?_⟩)
  have hf : H1 s1.heap.objs.size = none := I1.hok.fresh (Nat.le_refl _)
  refine ⟨.ref s1.heap.objs.size, upd H1 s1.heap.objs.size (.frz { cls := .type "tuple", data := .seq us.toArray } (.tup xs)), I1.laid (t' := s1.toks) (fun b u e => Heap.get?_push_of_some _ e) (Nat.le_refl _) ?_, rfl, q _ _ hf rfl⟩
  exact ⟨Heap.get?_push_size _ rfl, z, us, r, ⟨_, Heap.get?_push_size _ rfl, rfl, _, rfl⟩⟩
/-- tuple(xs) of a list -/
theorem call_tupleF : CallR X (.type "tuple") (fun xs H Q => ∃ p ys, xs = [.ref p] ∧ SqL X.K H p ys ∧ NewF H ys Q) := by
  intro pins s σ H xs us Q I r h
  obtain ⟨p, ys, rfl, hq, q⟩ := h
  obtain ⟨u, rfl, rx⟩ := vals1 r
  cases rx
  obtain ⟨its, r', pl, hz⟩ := I.list hq
  have hlen := r'.length
  refine call_tuple_list pl.isList (fun h' kp => ?_) (by simp only [List.size_toArray] <;> omega)
  have I1 : Inv X pins σ H { s with heap := h' } := I.kept (t' := s.toks) kp
  have I2 : Inv X pins σ (upd H h'.objs.size (.frz { cls := .type "tuple", data := .seq its.toArray } (.tup ys))) { s with heap := h'.push { cls := .type "tuple", data := .seq its.toArray } } :=
    I1.laid (t' := s.toks) (fun b o e => Heap.get?_push_of_some _ e) (Nat.le_refl _) (show ObjOk X.prog X.w _ _ _ (.frz _ (.tup ys)) from ⟨Heap.get?_push_size _ rfl, hz, its, r', IsTup.new _ _⟩)
  exact ⟨.ref h'.objs.size, _, I2, rfl, q _ _ (I1.hok.fresh (Nat.le_refl _)) rfl⟩
/-- dict(t), a tuple of pairs -/
theorem call_dictT (hcalm : X.calm = true) : CallR X (.type "dict") (fun xs H Q => ∃ (a : Addr) (ps : List Addr) (kvs : List (Key × V)), xs = [.ref a] ∧ FT H a (ps.map V.ref) ∧ Paired (fun p kv => SqT X.K H p [kV kv.1, kv.2]) ps kvs ∧
    ∀ p, H p = none → Q (.ref p) (upd H p (.dK (mergeK [] kvs)))) := by
  intro pins s σ H xs us Q I r q
  obtain ⟨a, ps, kvs, ex, hq, hp, q⟩ := q
  subst ex
  obtain ⟨u, eu, rx⟩ := vals1 r
  subst eu
  cases rx
  obtain ⟨o, e, hd⟩ := hq
  obtain ⟨ho, hz, its, rv, ht⟩ := (show ObjOk X.prog X.w H s.heap a (.frz o (.tup (ps.map V.ref))) from I.hok a _ e)
  have ei := refs_at rv
  subst ei
  rw [List.length_map] at hz
  obtain ⟨prs, rel, hl, hpr⟩ := pairs_of I hp
  obtain ⟨o', ho', hc, n, hdat⟩ := ht
  rw [ho] at ho'
  cases ho'
  have key : ∀ (j : Nat) (q' : Key × Value), prs[j]? = some q' → ∃ (b : Addr) (u : Value), ps[j]? = some b ∧ IsTup s.heap b #[u, q'.2] ∧ keyIs q'.1 u = true := hpr
  -- the raw pairs
  obtain ⟨rw', hrl, hrw⟩ : ∃ raw : List (Value × Value), raw.length = prs.length ∧ ∀ (j : Nat) (q' : Key × Value), prs[j]? = some q' → ∃ (b : Addr) (u : Value), ps[j]? = some b ∧ raw[j]? = some (u, q'.2) ∧ IsTup s.heap b #[u, q'.2] ∧ keyIs q'.1 u = true := by
    clear rel hl q
    have gen : ∀ (prs : List (Key × Value)) (ps : List Addr), (∀ (j : Nat) (q' : Key × Value), prs[j]? = some q' → ∃ (b : Addr) (u : Value), ps[j]? = some b ∧ IsTup s.heap b #[u, q'.2] ∧ keyIs q'.1 u = true) →
        ∃ raw : List (Value × Value), raw.length = prs.length ∧ ∀ (j : Nat) (q' : Key × Value), prs[j]? = some q' → ∃ (b : Addr) (u : Value), ps[j]? = some b ∧ raw[j]? = some (u, q'.2) ∧ IsTup s.heap b #[u, q'.2] ∧ keyIs q'.1 u = true := by
      intro prs
      induction prs with
      | nil => intro ps _; exact ⟨[], rfl, fun j q' e => by simp at e⟩
      | cons q0 rest ih =>
        intro ps h
        obtain ⟨b0, u0, e0, t0, k0⟩ := h 0 q0 rfl
        obtain ⟨raw, l, hr⟩ := ih (ps.drop 1) fun j q' e => by
          obtain ⟨b, u, e1, t1, k1⟩ := h (j + 1) q' (by simpa using e)
          exact ⟨b, u, by rw [List.getElem?_drop, Nat.add_comm]; exact e1, t1, k1⟩
        refine ⟨(u0, q0.2) :: raw, by rw [List.length_cons, List.length_cons, l], fun j q' e => ?_⟩
        cases j with
        | zero =>
          have e' : q0 = q' := Option.some.inj e
          subst e'
          exact ⟨b0, u0, e0, rfl, t0, k0⟩
        | succ j =>
          obtain ⟨b, u, e1, e2, t1, k1⟩ := hr j q' (by simpa using e)
          exact ⟨b, u, by rw [List.getElem?_drop, Nat.add_comm] at e1; exact e1, by simpa using e2, t1, k1⟩
    exact gen prs ps key
  have lps : ps.length = prs.length := hl.symm
  have P := PairArg.tuple (prog := X.prog) (w := X.w) a (ps.map Value.ref).toArray (fun j => ps.getD j 0) rw'
  refine PySem.call_dict_pairs (knd := mixKind X.prog X.w) (kvs := prs) P (I.ok.hd hcalm) ⟨⟨o, n, ho, hc, hd, hdat⟩, ?_, ?_⟩ ⟨hrl.symm, ?_⟩ (by rw [hrl, ← lps]; exact hz) fun h' tk hd' k => ?_
  · rw [List.size_toArray, List.length_map, lps, hrl]
  · intro j k v e
    have hj : j < prs.length := by rw [← hrl]; exact (List.getElem?_eq_some_iff.mp e).1
    obtain ⟨b, u, e1, e2, t1, k1⟩ := hrw j prs[j] (List.getElem?_eq_getElem hj)
    rw [e] at e2
    cases e2
    refine ⟨?_, ?_⟩
    · simp [List.getD_eq_getElem?_getD, e1]
    · refine .inl ?_
      have eg : ps.getD j 0 = b := by rw [List.getD_eq_getElem?_getD, e1]; rfl
      show s.heap.IsTuple (ps.getD j 0) #[k, prs[j].2]
      rw [eg]
      exact t1
  · intro j key v e
    have e' : rw'[j]? = some (key, v) := e
    have hj : j < prs.length := by rw [← hrl]; exact (List.getElem?_eq_some_iff.mp e').1
    obtain ⟨b, u, e1, e2, t1, k1⟩ := hrw j prs[j] (List.getElem?_eq_getElem hj)
    rw [e'] at e2
    have e3 := Option.some.inj e2
    have e4 : key = u := congrArg Prod.fst e3
    have e5 : v = prs[j].2 := congrArg Prod.snd e3
    subst e4 e5
    exact ⟨prs[j].1, List.getElem?_eq_getElem hj, k1⟩
  · have hm : (s.heap.objs.size == sysModules) = false := beq_eq_false_iff_ne.mpr (Nat.ne_of_gt I.big)
    have hlen : (mergeK [] kvs).length ≤ sizeLine := by
      refine Nat.le_trans (length_mergeK kvs []) ?_
      rw [List.length_nil, Nat.zero_add, rel.length, hl]
      exact hz
    exact ⟨.ref s.heap.objs.size, upd H s.heap.objs.size (.dK (mergeK [] kvs)), I.laid (t' := tk) (fun b o' e' => k b o' (by simp) e') (Nat.le_refl _) (show ObjOk X.prog X.w _ _ _ (.dK (mergeK [] kvs)) from ⟨hlen, hm, merged [] prs, KV.merge rel .nil, hd'⟩), rfl, q _ (I.hok.fresh (Nat.le_refl _))⟩
/-- dict(d), a copy -/
theorem call_dictC : CallR X (.type "dict") (fun xs H Q => ∃ (a : Addr) (kvs : List (Key × V)), xs = [.ref a] ∧ H a = some (.dK kvs) ∧ ∀ p, H p = none → Q (.ref p) (upd H p (.dK kvs))) := by
  intro pins s σ H xs us Q I r q
  obtain ⟨a, kvs, ex, hq, q⟩ := q
  subst ex
  obtain ⟨u, eu, rx⟩ := vals1 r
  subst eu
  cases rx
  exact d_copyOf I (.inl hq) fun p s' hp I' => ⟨.ref p, _, I', rfl, q p hp⟩
end
end K31
/-! d.update(e); get of a written dict with a default; a call of what a subscription holds -/
namespace K31
open PySem PySem.Spec PyProof.Rows L2
section
variable {X : Cx}
def rDUp : V → List V → Hp → VK → Prop := fun x vs H Q => ∃ (a b : Addr) (ks ls : List (Key × V)), x = .ref a ∧ vs = [.ref b] ∧ a ≠ b ∧ H a = some (.dK ks) ∧ H b = some (.dK ls) ∧ ks.length + ls.length ≤ sizeLine ∧ Q .non (upd H a (.dK (mergeK ks ls)))
theorem mtd_update : MtR X "dict.update" rDUp := by
  intro pins s σ H x vs v us Q I rx rv h
  obtain ⟨a, b, ks, ls, ex, ev, hne, ea, eb, hz, q⟩ := h
  subst ex
  subst ev
  obtain rfl : v = Value.ref a := rx
  obtain ⟨u, eu, ru⟩ := vals1 rv
  subst eu
  obtain rfl : u = Value.ref b := ru
  obtain ⟨z1, hd1, vs1, rel1, dd1⟩ := dk_of I.hok ea
  obtain ⟨z2, hd2, vs2, rel2, dd2⟩ := dk_of I.hok eb
  refine call_meetsIn PySem.F.slot_dict_update dd1.typeIs PySem.F.entry_dict_update (PySem.F.args_dict_update_2 _ _) (meets_dict_update (mixKind X.prog X.w) a b hne hd2)
    ⟨vs1, vs2, dd1, dd2, by rw [← rel1.length, ← rel2.length]; exact hz, fun h' dd1' dd2' hs => ?_⟩
  have he : ∃ q, h'.get? a = some q := let ⟨q, _, _, hq, _⟩ := dd1'; ⟨q, hq⟩
  have I' := d_write (t' := s.toks) I (by rw [ea]; exact True.intro) hs he (dk_new (Nat.le_trans (length_mergeK ls ks) hz) hd1 (rel2.merge rel1) dd1')
  exact ⟨.non, _, I', rfl, q⟩
/-- d.get(k, z), d a written dict of texts -/
def tKGet2 (K : PySem.W.Frag) (w : World) (td ty tx : TE) : TE := fun σ H Q => td σ H fun x H1 => ∃ (d : Addr) (es : Array DictEntry) (n : Nat), KDict K w d es n ∧ x = .ref d ∧ ty σ H1 fun y H2 => tx σ H2 fun z H3 =>
  ∃ (k : Str) (r : Option Value) (v : V), y = .str k ∧ PySem.W.nsIn K d k = some r ∧ (∀ u, r = some u → RelV v u) ∧ (r = none → v = z) ∧ Q v H3
theorem pe_kget2 {o e f : Expr} {apos cpos : Pos} {td ty tx : TE} (ho : PE X o td) (he : PE X e ty) (hf : PE X f tx) (m : M2 X o "get" apos e f cpos) : PE X (.Call (.Attribute o "get" apos) [e, f] [] cpos) (tKGet2 X.K X.w td ty tx) := by
  refine ⟨fun pins s σ H Q I h => ?_⟩
  refine wpAny_Call_method m.base m.few m.line PySem.F.plainAttrs_dict PySem.F.slot_dict_get PySem.F.type_dict_get (thn (ho.run pins s σ H _ I h) fun u s1 ⟨x, H1, I1, rx, a, es, n, D, ex, q1⟩ => ?_)
  subst ex
  obtain rfl : u = Value.ref a := rx
  refine ⟨kd_type D I1, fun b eb => ?_, ?_⟩
  · cases eb
    exact ⟨_, I1.kIn _ _ D.at_, rfl⟩
  rw [m.trees]
  refine Calls.callWith_builtin rfl (Calls.evalArgs_plain (Calls.spliced_cons (thn (he.run pins s1 σ H1 _ I1 q1) fun iv s2 ⟨y, H2, I2, ry, q2⟩ =>
    Calls.spliced_cons (thn (hf.run pins s2 σ H2 _ I2 q2) fun fv s3 ⟨z, H3, I3, rz, k, r, v, ey, er, h1, h2, q3⟩ => Calls.spliced_nil ?_))))
  subst ey
  obtain ⟨t, rfl⟩ := ry
  refine call_meetsIn PySem.F.slot_dict_get (kd_type D I3) PySem.F.entry_dict_get (PySem.F.args_dict_get_3 _ _ _) (meets_dict_get_default (PySem.strKind X.prog X.w) a (PySem.strKind_is X.prog X.w k t) D.low fv)
    ⟨_, PySem.W.mapOf_K (prog := X.prog) I3.kIn D.at_ D.lit, ?_⟩
  rw [PySem.W.find_K D.at_ er]
  cases r with
  | none =>
    have e := h2 rfl
    subst e
    exact ⟨v, H3, I3.tok _, rz, q3⟩
  | some u => exact ⟨v, H3, I3.tok _, h1 u rfl, q3⟩
/-- f(a, ..) where what f comes to is found by a reading -/
def tCallX (X : Cx) (tf : TE) (t : TA) : TE := fun σ H Q => tf σ H fun v H1 => ∃ (k : Nat) (f : Addr) (sp : Sp), v = .ref f ∧ PySem.W.keepIn X.K (.ref f) = true ∧ Room k X.A ∧ FnR X.prog X.w X.K X.mg X.base CX0 k f sp ∧
  t σ H1 fun vs H2 => sp vs H2 Q (fun _ _ _ => False)
theorem pe_callX {fn e : Expr} {es : List Expr} {pos : Pos} {tf : TE} {t : TA} (hf : PE X fn tf) (ha : PA X (e :: es) t)
    (ht : eval (.Call fn (e :: es) [] pos) X.env = (do callWith pos (← eval fn X.env) [] (backTo pos (starEach (e :: es) X.env)) (backToKw pos (keywordEach [] X.env))) := by rfl)
    (he : starEach (e :: es) X.env = (false, eval e X.env) :: starEach es X.env := by rfl) (hpl : (backTo pos (starEach es X.env)).any (·.1) = false := by rfl) : PE X (.Call fn (e :: es) [] pos) (tCallX X tf t) := by
  refine ⟨fun pins s σ H Q I h => ?_⟩
  refine Call_ (thn (hf.run pins s σ H _ I h) fun u s1 ⟨v, H1, I1, rv, k, f, sp, ev, hk, hr, F, q⟩ => ?_) ht
  subst ev
  obtain rfl : u = Value.ref f := rv
  refine PySem.W.callWith_K (h₀ := X.base) I1.ok.mod.kin hk (thn (ha.run pos pins s1 σ H1 _ I1 q) fun us s2 ⟨vs, H2, I2, r, q2⟩ => ⟨I2.kIn, ?_⟩) he hpl
  exact wpAny_call (run_fnR F hr pass0 I2 r q2)
end
end K31
/-! == and != of tuples, lists and dicts that are equal at any depth -/
namespace K31
open PySem PySem.Spec PyProof.Rows L2 PySem.SeqAt
open AutoSeq1 (wpAny_loadPart')
open MeetsSeq MeetsSeq2 MeetsSeq3 SeqRoads2
section
variable {prog : Program} {w : World}
abbrev tupO (dd : Option Addr) (vs : Array Value) (n : Nat) (sl : Array (Option Value)) : Obj := { cls := .type "tuple", dict := dd, data := .seq vs n, slots := sl }
/-- what two tuples of the same length and equal items need -/
def Pairs (prog : Program) (w : World) (A : Around) (s : Shared) (us ws : Array Value) : Prop := ∀ j (h1 : j < us.size) (h2 : j < ws.size), EqP prog w A s us[j] ws[j] true
theorem tup_eq_same (l b : Addr) (us ws : Array Value) (n n2 : Nat) (dd dd2 : Option Addr) (sl sl2 : Array (Option Value)) (hsz : us.size = ws.size) :
    MeetsIn prog w (Builtin.«tuple.__eq__» ⟨[.ref l, .ref b], []⟩) (fun A R s => s.heap.get? l = some (tupO dd us n sl) ∧ s.heap.get? b = some (tupO dd2 ws n2 sl2) ∧ Pairs prog w A.in1 s us ws ∧ R (.ok (.ret (.bool true))) s) :=
  .of_wp fun A R s h => by
    obtain ⟨hp, g, d, tk, os⟩ := s
    obtain ⟨hl, hb, he, h⟩ := h
    have f2 := AutoSeq1.sub_tuple_tuple
    have hZ : (us.toList.zip ws.toList).length = us.size := by simp [hsz]
    wp_walk using wpAny_loadPart' hl, wpAny_loadPart' hb, wpAny_forIn_list _ (fun rest b s' => b.1 = none ∧ s' = ⟨hp, g, d, tk, os⟩ ∧ ∃ i, rest = (us.toList.zip ws.toList).drop i) _
    case turn =>
      rintro ⟨y, x⟩ rest b s' ⟨hb', rfl, i, hz⟩
      have hlt : i < (us.toList.zip ws.toList).length := by
        rcases Nat.lt_or_ge i (us.toList.zip ws.toList).length with k | k
        · exact k
        · rw [List.drop_of_length_le k] at hz; cases hz
      have h1 : i < us.size := hZ ▸ hlt
      have h2 : i < ws.size := hsz ▸ h1
      rw [List.drop_eq_getElem_cons hlt] at hz
      injection hz with hyx hrest
      have ey : y = us[i] := by simpa using congrArg Prod.fst hyx
      have ex : x = ws[i] := by simpa using congrArg Prod.snd hyx
      subst ey ex
      refine wpAny_bind (he i h1 h2 _ _ ?_)
      wp_walk
      exact ⟨rfl, rfl, i + 1, hrest⟩
    case fin =>
      rintro ⟨b1, b2⟩ s' ⟨hb', rfl, i, hz⟩
      simp only at hb'
      subst hb'
      wp_walk
      exact ⟨_, rfl, by simpa [Builtin.Tuple.tupleCompareSizes, hsz] using h⟩
    case h => exact ⟨rfl, rfl, 0, rfl⟩
theorem tup_ne_same (l b : Addr) (us ws : Array Value) (n n2 : Nat) (dd dd2 : Option Addr) (sl sl2 : Array (Option Value)) (hsz : us.size = ws.size) :
    MeetsIn prog w (Builtin.«tuple.__ne__» ⟨[.ref l, .ref b], []⟩) (fun A R s => s.heap.get? l = some (tupO dd us n sl) ∧ s.heap.get? b = some (tupO dd2 ws n2 sl2) ∧ Pairs prog w A.in1 s us ws ∧ R (.ok (.ret (.bool false))) s) :=
  .of_wp fun A R s h => by
    obtain ⟨hp, g, d, tk, os⟩ := s
    obtain ⟨hl, hb, he, h⟩ := h
    have f2 := AutoSeq1.sub_tuple_tuple
    have hZ : (us.toList.zip ws.toList).length = us.size := by simp [hsz]
    wp_walk using wpAny_loadPart' hl, wpAny_loadPart' hb, wpAny_forIn_list _ (fun rest b s' => b.1 = none ∧ s' = ⟨hp, g, d, tk, os⟩ ∧ ∃ i, rest = (us.toList.zip ws.toList).drop i) _
    case turn =>
      rintro ⟨y, x⟩ rest b s' ⟨hb', rfl, i, hz⟩
      have hlt : i < (us.toList.zip ws.toList).length := by
        rcases Nat.lt_or_ge i (us.toList.zip ws.toList).length with k | k
        · exact k
        · rw [List.drop_of_length_le k] at hz; cases hz
      have h1 : i < us.size := hZ ▸ hlt
      have h2 : i < ws.size := hsz ▸ h1
      rw [List.drop_eq_getElem_cons hlt] at hz
      injection hz with hyx hrest
      have ey : y = us[i] := by simpa using congrArg Prod.fst hyx
      have ex : x = ws[i] := by simpa using congrArg Prod.snd hyx
      subst ey ex
      refine wpAny_bind (he i h1 h2 _ _ ?_)
      wp_walk
      exact ⟨rfl, rfl, i + 1, hrest⟩
    case fin =>
      rintro ⟨b1, b2⟩ s' ⟨hb', rfl, i, hz⟩
      simp only at hb'
      subst hb'
      wp_walk
      exact ⟨_, rfl, by simpa [Builtin.Tuple.tupleCompareSizes, bne, hsz] using h⟩
    case h => exact ⟨rfl, rfl, 0, rfl⟩
section
variable {A : Around} {s : Shared} {l b : Addr} {us ws : Array Value}
theorem rc_eq_tup (hl : IsTup s.heap l us) (hb : IsTup s.heap b ws) (hsz : us.size = ws.size) (hu : A.units < cLine) (he : Pairs prog w A.in1 s us ws) (E Q : Value → Shared → Prop) (h : Q (.bool true) s) :
    wpAny (model prog w) A (richCompare .Eq (.ref l) (.ref b)) Q E s := by
  obtain ⟨⟨c1, d1, t1, s1⟩, ho, hc, n, hd⟩ := id hl
  obtain ⟨⟨c2, d2, t2, s2⟩, ho2, hc2, n2, hd2⟩ := id hb
  simp only at hc hd hc2 hd2
  subst hc hd hc2 hd2
  have ta : s.TypeIs (.ref l) "tuple" := ⟨_, ho, rfl⟩
  have tb : s.TypeIs (.ref b) "tuple" := ⟨_, ho2, rfl⟩
  exact wpAny_richCompare_same_room (op := .Eq) ta tb F.slot_tuple_eq (call_meetsIn F.slot_tuple_eq ta F.entry_tuple_eq (F.args_tuple_eq_2 _ _) (tup_eq_same l b us ws n n2 d1 d2 s1 s2 hsz)
    ⟨ho, ho2, he, show Value.bool true ≠ Value.notImplemented ∧ Q (.bool true) s from ⟨(fun x => nomatch x), h⟩⟩) hu
theorem rc_ne_tup (hl : IsTup s.heap l us) (hb : IsTup s.heap b ws) (hsz : us.size = ws.size) (hu : A.units < cLine) (he : Pairs prog w A.in1 s us ws) (E Q : Value → Shared → Prop) (h : Q (.bool false) s) :
    wpAny (model prog w) A (richCompare .NotEq (.ref l) (.ref b)) Q E s := by
  obtain ⟨⟨c1, d1, t1, s1⟩, ho, hc, n, hd⟩ := id hl
  obtain ⟨⟨c2, d2, t2, s2⟩, ho2, hc2, n2, hd2⟩ := id hb
  simp only at hc hd hc2 hd2
  subst hc hd hc2 hd2
  have ta : s.TypeIs (.ref l) "tuple" := ⟨_, ho, rfl⟩
  have tb : s.TypeIs (.ref b) "tuple" := ⟨_, ho2, rfl⟩
  exact wpAny_richCompare_same_room (op := .NotEq) ta tb F.slot_tuple_ne (call_meetsIn F.slot_tuple_ne ta F.entry_tuple_ne (F.args_tuple_ne_2 _ _) (tup_ne_same l b us ws n n2 d1 d2 s1 s2 hsz)
    ⟨ho, ho2, he, show Value.bool false ≠ Value.notImplemented ∧ Q (.bool false) s from ⟨(fun x => nomatch x), h⟩⟩) hu
end
end
/-- two tuples, two lists, two dicts of equal items -/
def EqT (K : PySem.W.Frag) (H : Hp) (E : V → V → Prop) (x y : V) : Prop := ∃ a b xs ys, x = .ref a ∧ y = .ref b ∧ SqT K H a xs ∧ SqT K H b ys ∧ Paired E xs ys
/-- equal, of nesting below n -/
def EqW (K : PySem.W.Frag) (H : Hp) : Nat → V → V → Prop
  | 0 => fun _ _ => False
  | n + 1 => fun x y => (x = y ∧ flatB x = true) ∨ (∃ a, x = .ref a ∧ y = .ref a) ∨ EqR K H (EqW K H n) x y ∨ EqT K H (EqW K H n) x y
section
variable {X : Cx} {pins : List (Addr × Obj)} {σ : L2.St} {H : Hp} {s : Shared}
theorem pairs_run (I : Inv X pins σ H s) {A : Around} {F : V → V → Prop} (ih : ∀ x y v u, F x y → RelV x v → RelV y u → EqP X.prog X.w A s v u true) {xs ys : List V} (hp : Paired F xs ys) {us ws : List Value} (r1 : Vals xs us) (r2 : Vals ys ws) :
    us.toArray.size = ws.toArray.size ∧ Pairs X.prog X.w A s us.toArray ws.toArray := by
  have e : us.toArray.size = ws.toArray.size := by
    rw [List.size_toArray, List.size_toArray, ← r1.length, ← r2.length]
    exact Paired.length hp
  refine ⟨e, fun j h1 h2 => ?_⟩
  have k := items_run ih hp r1 r2 j (by simpa using h1) (by simpa using h2)
  simpa using k
theorem eqT_run (I : Inv X pins σ H s) {A : Around} {F : V → V → Prop} (hu : A.units < cLine) (ih : ∀ x y v u, F x y → RelV x v → RelV y u → EqP X.prog X.w A.in1 s v u true) {x y : V} {v u : Value} (h : EqT X.K H F x y) (rx : RelV x v) (ry : RelV y u) :
    (∀ (E Q : Value → Shared → Prop), Q (.bool true) s → wpAny (model X.prog X.w) A (richCompare .Eq v u) Q E s) ∧ (∀ (E Q : Value → Shared → Prop), Q (.bool false) s → wpAny (model X.prog X.w) A (richCompare .NotEq v u) Q E s) := by
  obtain ⟨a, b, xs, ys, rfl, rfl, ha, hb, hp⟩ := h
  cases (show v = Value.ref a from rx)
  cases (show u = Value.ref b from ry)
  obtain ⟨us, r1, p1, _⟩ := I.tuple ha
  obtain ⟨ws, r2, p2, _⟩ := I.tuple hb
  obtain ⟨e, P⟩ := pairs_run I ih hp r1 r2
  exact ⟨fun E Q q => rc_eq_tup p1 p2 e hu P E Q q, fun E Q q => rc_ne_tup p1 p2 e hu P E Q q⟩
theorem eqW_run (I : Inv X pins σ H s) : ∀ (n : Nat) (A : Around), A.units + n < cLine → ∀ (x y : V) (v u : Value), EqW X.K H n x y → RelV x v → RelV y u → EqP X.prog X.w A s v u true
  | 0, _, _, _, _, _, _, h, _, _ => (show False from h).elim
  | n + 1, A, hu, x, y, v, u, h, rx, ry => by
    rcases h with ⟨rfl, f⟩ | ⟨a, rfl, rfl⟩ | h | h
    · exact (eqAt_same rx ry f).eqP
    · cases (show v = Value.ref a from rx)
      cases (show u = Value.ref a from ry)
      exact (SeqAt.EqAt.same _).eqP
    · have step := eqR_run I (A := A) (by omega) (eqW_run I n A.in1 (by show A.units + 1 + n < cLine; omega)) h rx ry
      obtain ⟨a, b, rfl, rfl⟩ : ∃ a b, x = .ref a ∧ y = .ref b := by
        rcases h with ⟨a, b, _, _, e1, e2, _⟩ | ⟨a, b, _, _, e1, e2, _⟩
        · exact ⟨a, b, e1, e2⟩
        · exact ⟨a, b, e1, e2⟩
      cases (show v = Value.ref a from rx)
      cases (show u = Value.ref b from ry)
      by_cases e : a = b
      · subst e
        exact (SeqAt.EqAt.same _).eqP
      · exact SeqAt.eqP_refs e step
    · have step := (eqT_run I (A := A) (by omega) (eqW_run I n A.in1 (by show A.units + 1 + n < cLine; omega)) h rx ry).1
      obtain ⟨a, b, _, _, rfl, rfl, _⟩ := h
      cases (show v = Value.ref a from rx)
      cases (show u = Value.ref b from ry)
      by_cases e : a = b
      · subst e
        exact (SeqAt.EqAt.same _).eqP
      · exact SeqAt.eqP_refs e step
end
section
variable {X : Cx}
def rEqW (K : PySem.W.Frag) (r : Bool) : R2 := fun x y H Q => ∃ n, n ≤ 60 ∧ EqT K H (EqW K H n) x y ∧ Q (.bl r) H
theorem op_eqW (hu : X.A.units + 64 < cLine) : OpR X (compareOp .Eq) (rEqW X.K true) := by
  intro pins s σ H x y v u Q I rx ry h
  obtain ⟨n, hn, h, q⟩ := h
  exact (eqT_run I (A := X.A) (by omega) (eqW_run I n X.A.in1 (by show X.A.units + 1 + n < cLine; omega)) h rx ry).1 _ _ ⟨.bl true, H, I, rfl, q⟩
theorem op_neW (hu : X.A.units + 64 < cLine) : OpR X (compareOp .NotEq) (rEqW X.K false) := by
  intro pins s σ H x y v u Q I rx ry h
  obtain ⟨n, hn, h, q⟩ := h
  exact (eqT_run I (A := X.A) (by omega) (eqW_run I n X.A.in1 (by show X.A.units + 1 + n < cLine; omega)) h rx ry).2 _ _ ⟨.bl false, H, I, rfl, q⟩
end
end K31
/-! enumerate(t) of a tuple, walked -/
namespace K31
open PySem PySem.Spec PyProof.Rows L2
open AutoSeq1 (wpAny_loadPart')
abbrev itrO (l : Addr) : Obj := { cls := .type "tuple_iterator", data := .fields #[.ref l, .int 0 0] }
abbrev enuO (it : Addr) : Obj := { cls := .type "enumerate", data := .fields #[.none, .bool false, .ref it, rawInt 0, .none, .none] }
theorem meets_enuT (l : Addr) (items : Array Value) (n : Nat) (dct : Option Addr) (sl : Array (Option Value)) :
    Meets (Builtin.«enumerate.__new__» ⟨[.type "enumerate", .ref l], []⟩) (fun _ R s => s.heap.get? l = some { cls := .type "tuple", dict := dct, data := .seq items n, slots := sl } ∧
      R (.ok (.ret (.ref (s.heap.push (itrO l)).objs.size))) { s with heap := (s.heap.push (itrO l)).push (enuO s.heap.objs.size) }) :=
  .of_wp fun prog w A R s h => by
    obtain ⟨hp, g, d, tk, os⟩ := s
    obtain ⟨hl, h⟩ := h
    have hsub := sub_enumerate
    have hL : Heap.IsTuple (Shared.heap ⟨hp, g, d, tk, os⟩) l items := ⟨_, hl, rfl, n, rfl⟩
    wp_walk using wpAny_loadPart' hl
    refine wpAny_stack_any fun st => wpAny_pure ?_
    split
    · rename_i c _ _ _ _ _
      cases (c == Value.type "enumerate")
      · wp_walk using wpAny_loadPart' hl, wpAny_pyIter_tuple hL
        exact ⟨_, rfl, h⟩
      · wp_walk using wpAny_loadPart' hl, wpAny_pyIter_tuple hL
        exact ⟨_, rfl, h⟩
    · wp_walk using wpAny_loadPart' hl, wpAny_pyIter_tuple hL
      exact ⟨_, rfl, h⟩
section
variable {prog : Program} {w : World} {A : Around} {E : Value → Shared → Prop} {s : Shared}
theorem call_enuT {l : Addr} {items : Array Value} {Q : Value → Shared → Prop} (hL : s.heap.IsTuple l items)
    (h : ∀ h' : Heap, IsEnum h' (s.heap.objs.size + 1) s.heap.objs.size 0 .none → h'.IsTupleIter s.heap.objs.size l 0 → (∀ b o, s.heap.get? b = some o → h'.get? b = some o) → Q (.ref (s.heap.objs.size + 1)) { s with heap := h' }) :
    wpAny (model prog w) A (call (.type "enumerate") [.ref l]) Q E s := by
  obtain ⟨⟨c, dct, dt, sl⟩, hl, hc, n, hd⟩ := hL
  replace hc : c = .type "tuple" := hc
  replace hd : dt = .seq items n := hd
  subst hc hd
  refine callType_new F.called_enumerate (by decide) (F.typeCall_enumerate_1 _) (F.newCall_enumerate_1 _) (fun obj => F.args_object_init_2 obj _) F.entry_enumerate_new (meets_enuT l items n dct sl) ⟨hl, ?_⟩
  have hz : (s.heap.push (itrO l)).objs.size = s.heap.objs.size + 1 := Heap.size_push ..
  show _ ∧ _
  rw [hz]
  have he : IsEnum ((s.heap.push (itrO l)).push (enuO s.heap.objs.size)) (s.heap.objs.size + 1) s.heap.objs.size 0 .none := by
    have k := Heap.get?_push_size (s.heap.push (itrO l)) (o := enuO s.heap.objs.size) rfl
    rw [hz] at k
    exact k
  exact ⟨⟨_, he, rfl⟩, h _ he ⟨_, Heap.get?_push_of_some _ (Heap.get?_push_size _ rfl), rfl, rfl⟩ fun b o x => Heap.get?_push_of_some _ (Heap.get?_push_of_some _ x)⟩
theorem Draws_tuple (hh : A.handled = none) (it l : Addr) (hne : l ≠ it) (items : Array Value) :
    Draws prog w A it [it, l] items.size (fun i v => items[i]? = some v) (fun i h => h.IsTupleIter it l i ∧ h.IsTuple l items) where
  live := fun _ _ st => let ⟨o, ho, _⟩ := st.1; ⟨o, ho⟩
  frame := fun _ _ _ st hk => by
    obtain ⟨⟨o, ho, r1⟩, ⟨o', ho', r2⟩⟩ := st
    exact ⟨⟨o, hk it (by simp) o ho, r1⟩, ⟨o', hk l (by simp) o' ho', r2⟩⟩
  item := fun i s Q E hi st hQ => by
    refine RZ.nextOf_tuple_item st.1 st.2 (x := items[i]) (by simp [hi]) fun h' hit' hs' => ?_
    exact hQ _ h' s.toks (by simp [hi]) ⟨hit', st.2.extBut hs'.extBut hne⟩ hs'
  done := fun s Q E st hE => RZ.nextOf_tuple_end hh st.1 st.2 (by simp) hE
theorem enuT_end {e it l : Addr} {i : Nat} {items : Array Value} {old : Value} {Q : Option Value → Shared → Prop} (hh : A.handled = none) (he : IsEnum s.heap e it i old) (hit : s.heap.IsTupleIter it l i) (hl : s.heap.IsTuple l items) (hx : items[i]? = none)
    (hQ : ∀ h', Heap.ExtBut it s.heap h' → Q none { s with heap := h' }) : wpAny (model prog w) A (pyNext (.ref e)) Q E s := by
  have hT : s.TypeIs (.ref e) "enumerate" := ⟨_, he, rfl⟩
  unfold pyNext
  refine wpAny_bind (wpAny_attempt (wpAny_callSpecial?_slot (name := Str.ofString "__next__") hT F.slot_enumerate_next (wpAny_call_entry F.slot_enumerate_next hT F.entry_enumerate_next ?_ (F.args_enumerate_next_1 _))))
  show wpAny _ _ (field (.ref e) 2 >>= _) _ _ _
  refine wpAny_bind (wpAny_field he rfl (x := .ref it) rfl ?_)
  refine wpAny_bind (RZ.nextOf_tuple_end hh hit hl hx fun h' x he' hx' => ?_)
  obtain ⟨o, ho, hc⟩ := hx'
  refine wpAny_bind (wpAny_isInstance (T := "StopIteration") (b := true) ⟨o, ho, hc⟩ isSubtype_stop ?_)
  exact wpAny_pure (hQ _ he')
end
/-- the tuple at a, each item in a new pair -/
def IteT (K : PySem.W.Frag) (a : Addr) : It :=
  ⟨fun i H => ∃ (xs : List V) (x : V), SqT K H a xs ∧ xs[i]? = some x, fun i H v H' => ∃ T x, v = .ref T ∧ H T = none ∧ H' = upd H T (.tup [.int (i : Nat), x]) ∧ ∀ xs, SqT K H a xs → xs[i]? = some x, fun i H => ∃ xs : List V, SqT K H a xs ∧ xs.length ≤ i⟩
theorem turn_enuT {P : Program} {w : World} {K : PySem.W.Frag} {elts : List Expr} {kk : Nat} {tpos : Pos} (a e it : Addr) (hea : e ≠ a) (hia : a ≠ it) :
    Turn P w K (.Tuple elts kk tpos) (IteT K a) [e, it] e (fun i h => (∃ old, IsEnum h e it ((i : Nat) : Int) old) ∧ h.IsTupleIter it a i ∧ e ≠ it) where
  mem := by simp
  obj := fun i h st b hb => by
    obtain ⟨⟨old, he⟩, ⟨o, ho, hc, hd⟩, _⟩ := st
    rcases (show b = e ∨ b = it by simpa using hb) with z | z
    · rw [z]; exact ⟨_, he, fun v q => nomatch q⟩
    · rw [z]; exact ⟨o, ho, fun v q => by rw [hd] at q; cases q⟩
  keep := fun i h h' st k => by
    obtain ⟨⟨old, he⟩, ⟨o, ho, r⟩, hne⟩ := st
    exact ⟨⟨old, k e (by simp) _ he⟩, ⟨o, k it (by simp) o ho, r⟩, hne⟩
  item := by
    intro X hP hw hK hc i pins s σ H E I hf st hg
    subst hP hw hK
    obtain ⟨⟨old, he⟩, hit, hne⟩ := st
    obtain ⟨xs, x, hq, hx⟩ := hg
    obtain ⟨its, rv, p, hz⟩ := I.tuple hq
    obtain ⟨u, hu, ru⟩ := rv.get hx
    have hel : e < s.heap.objs.size := Heap.lt_size he
    have hil : it < s.heap.objs.size := by obtain ⟨_, q, _⟩ := hit; exact Heap.lt_size q
    have hi : i < its.toArray.size := by
      have k := (List.getElem?_eq_some_iff.mp hu).1
      simpa using k
    refine wpAny_pyNext_enum_itemD (Draws_tuple (prog := X.prog) (w := X.w) (A := X.A.in1) (I.ok.hd hc) it a hia its.toArray) he ⟨hit, p⟩ hi hne (by simp [hne, hea]) fun u' h' tk hP ho st' hT hsz hk => ?_
    have eu : u' = u := by
      have k : its[i]? = some u' := by simpa using hP
      rw [hu] at k
      exact (Option.some.inj k).symm
    subst eu
    refine ⟨_, rfl, wpAny_letOwnedTupleGo_enum (s := { s with heap := h', toks := tk + 1 }) ho fun h'' he' sb => ?_⟩
    have hT2 : h''.get? s.heap.objs.size = some { cls := .type "tuple", data := .seq #[.int i tk, u'] } := (sb.2 _ (Nat.ne_of_gt hel)).trans hT
    have new : ObjOk X.prog X.w (upd H s.heap.objs.size (.tup [.int (i : Nat), x])) h'' s.heap.objs.size (.tup [.int (i : Nat), x]) :=
      ⟨by show 2 ≤ sizeLine; decide, [.int i tk, u'], .cons ⟨_, rfl⟩ (.cons ru .nil), ⟨_, hT2, rfl, _, rfl⟩⟩
    have I1 : Inv X pins σ (upd H s.heap.objs.size (.tup [.int (i : Nat), x])) { s with heap := h'', toks := tk + 1 } :=
      I.turnedNew (ch := [e, it]) (fun b ob hb q => (sb.2 b (fun z => hb (by simp [z]))).trans (hk b ob (fun z => hb (by simp [z])) (fun z => hb (by simp [z])) q)) hf (Nat.le_refl _) new
    refine ⟨.ref s.heap.objs.size, _, I1, rfl, ⟨_, x, rfl, I.hok.fresh (Nat.le_refl _), rfl, fun ys hy => by rw [I.tuple_inj hy hq]; exact hx⟩, ⟨⟨u', ?_⟩, ?_, hne⟩, fun b hb => ?_⟩
    · have e1 : ((i + 1 : Nat) : Int) = (i : Int) + 1 := by omega
      rw [e1]; exact he'
    · obtain ⟨o, ho', r⟩ := st'.1
      exact ⟨o, (sb.2 it (Ne.symm hne)).trans ho', r⟩
    · have hb' : b < s.heap.objs.size := by
        rcases (show b = e ∨ b = it by simpa using hb) with z | z
        · rw [z]; exact hel
        · rw [z]; exact hil
      rw [upd_ne (Nat.ne_of_lt hb')]
      exact (hf b hb).1
  done := by
    intro X hP hw hK hc i pins s σ H E I hf st hg
    subst hP hw hK
    obtain ⟨⟨old, he⟩, hit, hne⟩ := st
    obtain ⟨xs, hq, hx⟩ := hg
    obtain ⟨its, rv, p, hz⟩ := I.tuple hq
    obtain ⟨f0, f1, f2, f3, f4, f5⟩ := hf it (by simp)
    have hl := rv.length
    exact enuT_end (I.ok.hd hc) he hit p (by simp; omega) fun h' eb => ⟨rfl, I.turned (t' := s.toks) (fun b o hb q => eb b o hb q) f0 f1 f3 f4 f5⟩
  self := fun A i s Q E st h => let ⟨⟨_, he⟩, _⟩ := st; wpAny_pyIter_enum he h
def iEnumT (K : PySem.W.Frag) (ta : TA) : TI := fun σ H R => ta σ H fun vs H1 => ∃ a xs, vs = [.ref a] ∧ SqT K H1 a xs ∧ R (IteT K a) H1
theorem pi_enumT {X : Cx} {e : Expr} {ta : TA} {p pos tpos : Pos} {elts : List Expr} {kk : Nat} (hg : Gl X "enumerate") (hm : X.mg "enumerate" = none) (ha : PA X [e] ta) (hs : starEach [e] X.env = [(false, eval e X.env)] := by rfl) :
    PI X (.Tuple elts kk tpos) (.Call (.Name "enumerate" p) [e] [] pos) (iEnumT X.K ta) := by
  refine ⟨fun pins s σ H R I h => ?_⟩
  refine Call_ (ld_blt I hg hm boot_enumerate (PyProof.Rows.callWith_type1 (thn (ha.run pos pins s σ H _ I h) fun us s1 ⟨vs, H1, I1, r1, q1⟩ => ?_) hs rfl))
  obtain ⟨a, xs, ex, hq, q⟩ := q1
  subst ex
  obtain ⟨u, eu, r⟩ := vals1 r1
  subst eu
  obtain rfl : u = Value.ref a := r
  obtain ⟨its, rv, p', hz⟩ := I1.tuple hq
  have hal : a < s1.heap.objs.size := by obtain ⟨o, ho, _⟩ := p'; exact Heap.lt_size ho
  refine call_enuT p' fun h' he hit hk => wpAny_pyIter_enum he ?_
  have I2 : Inv X pins σ H1 { s1 with heap := h' } := I1.kept (t' := s1.toks) hk
  refine ⟨s1.heap.objs.size + 1, [s1.heap.objs.size + 1, s1.heap.objs.size], _, _, H1, rfl, I2, turn_enuT a (s1.heap.objs.size + 1) s1.heap.objs.size (Nat.ne_of_gt (Nat.lt_succ_of_lt hal)) (Nat.ne_of_lt hal), ⟨⟨.none, he⟩, hit, Nat.succ_ne_self _⟩, fun b hb => ?_, q⟩
  have hle : s1.heap.objs.size ≤ b := by
    rcases (show b = s1.heap.objs.size + 1 ∨ b = s1.heap.objs.size by simpa using hb) with z | z
    · rw [z]; exact Nat.le_succ _
    · rw [z]; exact Nat.le_refl _
  exact I1.fpOk hle (I1.hok.fresh hle)
end K31
/-! the mirror: programs of numbered lines as typed data, the step, the walk -/
namespace K31
open PySem
inductive Lf where
  | num (n : Int)
  | box (x : Str)
  deriving DecidableEq
inductive Ex where
  | lf (l : Lf)
  | sub (a b : Lf)
  | add (a b : Lf)
  | eq (a b : Lf)
  deriving DecidableEq
inductive Sm where
  | set (x : Str) (e : Ex)
  | say (es : List Ex)
  | call (n : Int)
  | back
  | iff (e : Ex) (n : Int)
  | loop (x : Str) (a b c : Ex)
  | again (x : Str)
  | stop
  | fin
  deriving DecidableEq
inductive Fr where
  | call (n : Int)
  | loop (x : Str) (n b c : Int)
  deriving DecidableEq
abbrev Pr := List (Int × Sm)
structure Sx where
  stand : Str
  at_ : Int
  boxes : List (Str × Int)
  pile : List Fr
  fault : Option (Str × Int)
  said : List (List Int)
abbrev great : Int := 1000000000000
def look : List (Str × Int) → Str → Option Int
  | [], _ => none
  | p :: r, x => if p.1 = x then some p.2 else look r x
def putB (bs : List (Str × Int)) (x : Str) (n : Int) : List (Str × Int) :=
  if (look bs x).isSome = true then bs.map (fun p => if p.1 = x then (p.1, n) else p) else bs ++ [(x, n)]
def insB (p : Str × Int) : List (Str × Int) → List (Str × Int)
  | [] => [p]
  | q :: r => if p.1.cps.toList < q.1.cps.toList then p :: q :: r else q :: insB p r
def sortB : List (Str × Int) → List (Str × Int)
  | [] => []
  | p :: r => insB p (sortB r)
def lfM (bs : List (Str × Int)) : Lf → Option Int
  | .num n => some n
  | .box x => look bs x
def within (n : Int) : Option Int := if n.natAbs ≤ 1000000000000 then some n else none
def exM (bs : List (Str × Int)) : Ex → Option Int
  | .lf l => lfM bs l
  | .sub a b => match lfM bs a, lfM bs b with
    | some i, some j => within (i - j)
    | _, _ => none
  | .add a b => match lfM bs a, lfM bs b with
    | some i, some j => within (i + j)
    | _, _ => none
  | .eq a b => match lfM bs a, lfM bs b with
    | some i, some j => some (if i = j then 1 else 0)
    | _, _ => none
def exsM (bs : List (Str × Int)) : List Ex → Option (List Int)
  | [] => some []
  | e :: r => match exM bs e, exsM bs r with
    | some i, some l => some (i :: l)
    | _, _ => none
def exsOf : Sm → List Ex
  | .set _ e => [e]
  | .say es => es
  | .iff e _ => [e]
  | .loop _ a b c => [a, b, c]
  | _ => []
def lineBehind : Pr → Int → Int
  | [], _ => 0
  | l :: r, n => if n < l.1 then l.1 else lineBehind r n
def hasLine : Pr → Int → Bool
  | [], _ => false
  | l :: r, n => decide (l.1 = n) || hasLine r n
def isAg : Sm → Str → Bool
  | .again y, x => decide (y = x)
  | _, _ => false
def againBehind : Pr → Int → Str → Option Int
  | [], _, _ => none
  | l :: r, n, x => if n < l.1 ∧ isAg l.2 x = true then some l.1 else againBehind r n x
/-- the place of the topmost loop of a name above the topmost call, below k -/
def closedAt (pile : List Fr) (x : Str) : Nat → Option Nat
  | 0 => none
  | k + 1 => match pile[k]? with
    | some (.loop y _ _ _) => if y = x then some k else closedAt pile x k
    | _ => none
/-- the place of the topmost call, below k -/
def callAt (pile : List Fr) : Nat → Option Nat
  | 0 => none
  | k + 1 => match pile[k]? with
    | some (.call _) => some k
    | _ => callAt pile k
def beyond (w e c : Int) : Bool := if 0 < c then decide (e < w) else decide (w < e)
def goBehind (p : Pr) (s : Sx) (n : Int) : Sx := { s with at_ := lineBehind p n, stand := if lineBehind p n = 0 then "ended" else s.stand }
def leftOf (pile : List Fr) (x : Str) : List Fr := match closedAt pile x pile.length with
  | some k => pile.take k
  | none => pile
def loopBegun (p : Pr) (s : Sx) (n : Int) (x : Str) (a b c : Int) : Option (Sx × Option Str) :=
  if c = 0 ∨ 60 ≤ s.boxes.length then none else
  if beyond a b c = false then
    if (leftOf s.pile x).length < 50 then some (goBehind p { s with pile := leftOf s.pile x ++ [.loop x n b c], boxes := putB s.boxes x a } n, none) else none
  else match againBehind p n x with
    | none => some (s, some "again")
    | some m => some (goBehind p { s with pile := leftOf s.pile x, boxes := putB s.boxes x a } m, none)
def loopAgain (p : Pr) (s : Sx) (n : Int) (x : Str) : Option (Sx × Option Str) :=
  match closedAt s.pile x s.pile.length with
  | none => some (s, some "again")
  | some k => match s.pile[k]?, look s.boxes x with
    | some (.loop _ m b c), some v =>
      if (v + c).natAbs ≤ 1000000000000 ∧ s.boxes.length < 60 then
        if beyond (v + c) b c = true then some (goBehind p { s with pile := s.pile.take k, boxes := putB s.boxes x (v + c) } n, none)
        else some (goBehind p { s with pile := s.pile.take k ++ [.loop x m b c], boxes := putB s.boxes x (v + c) } m, none)
      else none
    | _, _ => none
def lineM (p : Pr) (s : Sx) (n : Int) (st : Sm) (ws : List Int) : Option (Sx × Option Str) :=
  match st, ws with
  | .set x _, [w] => if 60 ≤ s.boxes.length then none else some (goBehind p { s with boxes := putB s.boxes x w } n, none)
  | .say _, ws => if s.said.length < 5000 then some (goBehind p { s with said := s.said ++ [ws] } n, none) else none
  | .call t, _ => if hasLine p t = true ∧ s.pile.length < 50 then some ({ s with pile := s.pile ++ [.call n], at_ := t }, none) else none
  | .back, _ => match callAt s.pile s.pile.length with
    | none => none
    | some k => match s.pile[k]? with
      | some (.call m) => some (goBehind p { s with pile := s.pile.take k } m, none)
      | _ => none
  | .iff _ t, [w] => if w = 0 then some (goBehind p s n, none) else if hasLine p t = true then some ({ s with at_ := t }, none) else none
  | .loop x _ _ _, [a, b, c] => loopBegun p s n x a b c
  | .again x, _ => loopAgain p s n x
  | .stop, _ => some (goBehind p { s with stand := "stopped" } n, none)
  | .fin, _ => some ({ s with stand := "ended", at_ := 0 }, none)
  | _, _ => none
def lineOf (p : Pr) (n : Int) : Option (Int × Sm) := p.find? fun l => decide (l.1 = n)
def stepM (p : Pr) (s : Sx) : Option Sx :=
  match lineOf p s.at_ with
  | none => none
  | some l => match exsM s.boxes (exsOf l.2) with
    | none => none
    | some ws => match lineM p s l.1 l.2 ws with
      | none => none
      | some (s', none) => some { s' with boxes := sortB s'.boxes }
      | some (_, some w) => if hasLine p 0 = true then none else some { s with stand := "faulted", at_ := s.at_, fault := some (w, s.at_) }
def going : Str := "going"
def walkM (p : Pr) : Nat → Sx → Option Sx
  | k, s => if s.stand = going then match k with
      | 0 => some s
      | k + 1 => match stepM p s with
        | none => none
        | some s' => walkM p k s'
    else some s
def firstM (p : Pr) : Sx := match p with
  | [] => ⟨"ended", 0, [], [], none, []⟩
  | l :: _ => ⟨if l.1 = 0 then "ended" else "going", l.1, [], [], none, []⟩
end K31
/-! heaps that keep, data in the heap, defs by their promises -/
namespace K31
open PySem PySem.Spec PyProof.Rows L2
/-! ### what a heap keeps: all but the dicts named -/
structure Kx (ks : List Addr) (H H' : Hp) : Prop where
  at_ : ∀ a o, H a = some o → ((∃ kvs, o = .dK kvs) → a ∉ ks) → H' a = some o
  live : ∀ a, H' a = none → H a = none
theorem Kx.refl (ks : List Addr) (H : Hp) : Kx ks H H := ⟨fun _ _ e _ => e, fun _ e => e⟩
theorem Kx.trans {ks : List Addr} {H H1 H2 : Hp} (a : Kx ks H H1) (b : Kx ks H1 H2) : Kx ks H H2 := ⟨fun p o e n => b.at_ p o (a.at_ p o e n) n, fun p e => a.live p (b.live p e)⟩
theorem Kx.sub {ks ls : List Addr} {H H' : Hp} (a : Kx ks H H') (h : ∀ p, p ∈ ks → p ∈ ls) : Kx ls H H' := ⟨fun p o e n => a.at_ p o e fun z hz => n z (h p hz), a.live⟩
theorem Kx.new {ks : List Addr} {H : Hp} {p : Addr} {o : HO} (h : H p = none) : Kx ks H (upd H p o) := by
  refine ⟨fun a o e n => ?_, fun a e => ?_⟩
  · rw [upd_ne (ne_of_none e h)]
    exact e
  · by_cases z : a = p
    · subst z
      exact h
    · rw [upd_ne z] at e
      exact e
theorem Kx.put {ks : List Addr} {H : Hp} {d : Addr} {kvs kvs' : List (Key × V)} (h : H d = some (.dK kvs)) (hd : d ∈ ks) : Kx ks H (upd H d (.dK kvs')) := by
  refine ⟨fun a o e n => ?_, fun a e => ?_⟩
  · by_cases z : a = d
    · subst z
      rw [h] at e
      exact absurd hd (n ⟨kvs, (Option.some.inj e).symm⟩)
    · rw [upd_ne z]
      exact e
  · by_cases z : a = d
    · subst z
      rw [upd_same] at e
      cases e
    · rw [upd_ne z] at e
      exact e
theorem Kx.free {ks : List Addr} {H H' : Hp} (k : Kx ks H H') {p : Addr} (h : H' p = none) : H p = none := k.live p h
theorem Kx.same {H H' : Hp} (k : Kx [] H H') : Same H H' := fun a o e => k.at_ a o e fun _ z => nomatch z
theorem Kx.rdT {ks : List Addr} {H H' : Hp} (k : Kx ks H H') {a : Addr} {xs : List V} (h : Rd H a (.tup xs)) : Rd H' a (.tup xs) := by
  rcases h with h | ⟨o, h⟩
  · exact .inl (k.at_ _ _ h fun ⟨_, z⟩ => nomatch z)
  · exact .inr ⟨o, k.at_ _ _ h fun ⟨_, z⟩ => nomatch z⟩
theorem Kx.rdL {ks : List Addr} {H H' : Hp} (k : Kx ks H H') {a : Addr} {xs : List V} (h : Rd H a (.lst xs)) : Rd H' a (.lst xs) := by
  rcases h with h | ⟨o, h⟩
  · exact .inl (k.at_ _ _ h fun ⟨_, z⟩ => nomatch z)
  · exact .inr ⟨o, k.at_ _ _ h fun ⟨_, z⟩ => nomatch z⟩
theorem Kx.sqT {ks : List Addr} {H H' : Hp} {K : PySem.W.Frag} (k : Kx ks H H') {a : Addr} {xs : List V} (h : SqT K H a xs) : SqT K H' a xs := by
  rcases h with h | h
  · exact .inl (k.rdT h)
  · exact .inr h
theorem Kx.sqL {ks : List Addr} {H H' : Hp} {K : PySem.W.Frag} (k : Kx ks H H') {a : Addr} {xs : List V} (h : SqL K H a xs) : SqL K H' a xs := by
  rcases h with h | h
  · exact .inl (k.rdL h)
  · exact .inr h
theorem Kx.ft {ks : List Addr} {H H' : Hp} (k : Kx ks H H') {a : Addr} {xs : List V} (h : FT H a xs) : FT H' a xs := let ⟨o, e, n⟩ := h; ⟨o, k.at_ _ _ e (fun ⟨_, z⟩ => nomatch z), n⟩
theorem Kx.dk {ks : List Addr} {H H' : Hp} (k : Kx ks H H') {a : Addr} {kvs : List (Key × V)} (h : H a = some (.dK kvs)) (n : a ∉ ks) : H' a = some (.dK kvs) := k.at_ _ _ h fun _ => n
mutual
theorem Kx.dp {ks : List Addr} {H H' : Hp} {K : PySem.W.Frag} (k : Kx ks H H') : ∀ {v : V} (d : PyData), Dp K H v d → Dp K H' v d
  | _, .none, h => by cases h; exact .non
  | _, .bool _, h => by cases h; exact .bl _
  | _, .int _, h => by cases h; exact .int _
  | _, .str _, h => by cases h; exact .str _
  | _, .list ds, h => by cases h with | lst h1 h2 => exact .lst (k.sqL h1) (k.dpAll ds h2)
  | _, .tuple ds, h => by cases h with | tup h1 h2 => exact .tup (k.sqT h1) (k.dpAll ds h2)
  | _, .dict _, h => by cases h
theorem Kx.dpAll {ks : List Addr} {H H' : Hp} {K : PySem.W.Frag} (k : Kx ks H H') : ∀ {vs : List V} (ds : List PyData), DpAll K H vs ds → DpAll K H' vs ds
  | _, [], h => by cases h; exact .nil
  | _, d :: ds, h => by cases h with | cons h1 h2 => exact .cons (k.dp d h1) (k.dpAll ds h2)
end
/-! ### taking data apart -/
section
variable {K : PySem.W.Frag} {H : Hp}
theorem dp_tup {v : V} {ds : List PyData} (h : Dp K H v (.tuple ds)) : ∃ a xs, v = .ref a ∧ SqT K H a xs ∧ DpAll K H xs ds := by
  cases h with | tup h1 h2 => exact ⟨_, _, rfl, h1, h2⟩
theorem dp_int {v : V} {n : Int} (h : Dp K H v (.int n)) : v = .int n := by cases h; rfl
theorem dp_str {v : V} {x : Str} (h : Dp K H v (.str x)) : v = .str x := by cases h; rfl
theorem dp_bl {v : V} {x : Bool} (h : Dp K H v (.bool x)) : v = .bl x := by cases h; rfl
theorem dp_non {v : V} (h : Dp K H v .none) : v = .non := by cases h; rfl
theorem dpa_cons {vs : List V} {d : PyData} {ds : List PyData} (h : DpAll K H vs (d :: ds)) : ∃ v r, vs = v :: r ∧ Dp K H v d ∧ DpAll K H r ds := by
  cases h with | cons h1 h2 => exact ⟨_, _, rfl, h1, h2⟩
theorem dpa_nil {vs : List V} (h : DpAll K H vs []) : vs = [] := by cases h; rfl
theorem dpa_len : ∀ {vs : List V} {ds : List PyData}, DpAll K H vs ds → vs.length = ds.length
  | _, _, .nil => rfl
  | _, _, .cons _ h => congrArg Nat.succ (dpa_len h)
theorem dpa_get : ∀ {vs : List V} {ds : List PyData}, DpAll K H vs ds → ∀ (i : Nat) (v : V), vs[i]? = some v → ∃ d, ds[i]? = some d ∧ Dp K H v d
  | _, _, .cons h _, 0, v, e => ⟨_, rfl, by cases e; exact h⟩
  | _, _, .cons _ h, i + 1, v, e => dpa_get h i v e
theorem dpa_at : ∀ {vs : List V} {ds : List PyData}, DpAll K H vs ds → ∀ (i : Nat) (d : PyData), ds[i]? = some d → ∃ v, vs[i]? = some v ∧ Dp K H v d
  | _, _, .cons h _, 0, v, e => ⟨_, rfl, by cases e; exact h⟩
  | _, _, .cons _ h, i + 1, v, e => dpa_at h i v e
theorem dpa_app : ∀ {vs ws : List V} {ds es : List PyData}, DpAll K H vs ds → DpAll K H ws es → DpAll K H (vs ++ ws) (ds ++ es)
  | _, _, _, _, .nil, k => k
  | _, _, _, _, .cons h1 h2, k => .cons h1 (dpa_app h2 k)
theorem dpa_take : ∀ {vs : List V} {ds : List PyData} (n : Nat), DpAll K H vs ds → DpAll K H (vs.take n) (ds.take n)
  | _, _, 0, _ => by simp only [List.take_zero]; exact .nil
  | _, _, n + 1, .nil => by simp only [List.take_nil]; exact .nil
  | _, _, n + 1, .cons h1 h2 => .cons h1 (dpa_take n h2)
theorem dpa_ints : ∀ (ns : List Int), DpAll K H (ns.map V.int) (ns.map PyData.int)
  | [] => .nil
  | n :: r => .cons (.int n) (dpa_ints r)
end
/-! ### the data of the mirror as Python data -/
abbrev T1 (a : PyData) : PyData := .tuple [a]
def lfD : Lf → PyData
  | .num n => .tuple [.str "number", .int n]
  | .box x => .tuple [.str "box", .str x]
def exD : Ex → PyData
  | .lf l => lfD l
  | .sub a b => .tuple [.str "-", lfD a, lfD b]
  | .add a b => .tuple [.str "+", lfD a, lfD b]
  | .eq a b => .tuple [.str "=", lfD a, lfD b]
def smD : Sm → PyData
  | .set x e => .tuple [.str "set", .str x, exD e]
  | .say es => .tuple [.str "say", .tuple (es.map exD)]
  | .call n => .tuple [.str "call", .int n]
  | .back => .tuple [.str "back"]
  | .iff e n => .tuple [.str "when", exD e, .int n]
  | .loop x a b c => .tuple [.str "loop", .str x, exD a, exD b, exD c]
  | .again x => .tuple [.str "again", .str x]
  | .stop => .tuple [.str "stop"]
  | .fin => .tuple [.str "end"]
def wordOf : Sm → Str
  | .set _ _ => "set"
  | .say _ => "say"
  | .call _ => "call"
  | .back => "back"
  | .iff _ _ => "when"
  | .loop _ _ _ _ => "loop"
  | .again _ => "again"
  | .stop => "stop"
  | .fin => "end"
def lineD (l : Int × Sm) : PyData := .tuple [.int l.1, smD l.2]
def prD (p : Pr) : PyData := .tuple (p.map lineD)
def frD : Fr → PyData
  | .call n => .tuple [.str "call", .int n]
  | .loop x n b c => .tuple [.str "loop", .str x, .int n, .int b, .int c]
def pileD (p : List Fr) : PyData := .tuple (p.map frD)
def rowD (r : List Int) : PyData := .tuple (r.map .int)
def saidD (r : List (List Int)) : PyData := .tuple (r.map rowD)
def faultD : Option (Str × Int) → PyData
  | none => .none
  | some (w, n) => .tuple [.str w, .int n]
def placeD : PyData := .tuple [.int 0, .int 0]
section
variable {K : PySem.W.Frag} {H : Hp}
theorem dp_line {v : V} {l : Int × Sm} (h : Dp K H v (lineD l)) : ∃ a u, v = .ref a ∧ SqT K H a [.int l.1, u] ∧ Dp K H u (smD l.2) := by
  obtain ⟨a, xs, rfl, hs, h⟩ := dp_tup h
  obtain ⟨v1, r, rfl, h1, h⟩ := dpa_cons h
  obtain ⟨v2, r, rfl, h2, h⟩ := dpa_cons h
  cases dpa_nil h
  cases dp_int h1
  exact ⟨a, v2, rfl, hs, h2⟩
/-- a statement is a tuple that begins with its word -/
theorem dp_sm {v : V} {st : Sm} (h : Dp K H v (smD st)) : ∃ a xs, v = .ref a ∧ SqT K H a (.str (wordOf st) :: xs) := by
  have gen : ∀ (w : Str) (ds : List PyData), Dp K H v (.tuple (.str w :: ds)) → ∃ a xs, v = .ref a ∧ SqT K H a (.str w :: xs) := by
    intro w ds h
    obtain ⟨a, xs, rfl, hs, h⟩ := dp_tup h
    obtain ⟨v1, r, rfl, h1, h⟩ := dpa_cons h
    cases dp_str h1
    exact ⟨a, r, rfl, hs⟩
  cases st <;> exact gen _ _ h
end
/-! ### a def by its promise -/
section
variable (P : Program) (w : World) (K : PySem.W.Frag) (mg : Str → Option Value) (base : Heap)
def Gf (k : Nat) (x : Str) (sp : Sp) : Prop := ∃ f, mg x = some (.ref f) ∧ PySem.W.keepIn K (.ref f) = true ∧ FnR P w K mg base CX0 k f sp
/-- where a def stands -/
def AtD (x nm : Str) (st : Stmt) (kws : List (Str × V)) : Prop := ∃ f fd, FunD K nm nm (defArgs st) (defBody st) (defScope st) [] kws f fd ∧ mg x = some (.ref f)
end
section
variable {P : Program} {w : World} {K : PySem.W.Frag} {mg : Str → Option Value} {base : Heap}
theorem Gf.mono {j k : Nat} {x : Str} {sp : Sp} (G : Gf P w K mg base j x sp) (h : j ≤ k) : Gf P w K mg base k x sp := let ⟨f, a, b, c⟩ := G; ⟨f, a, b, c.mono h⟩
theorem gf_mk {x nm : Str} {st : Stmt} {N ps : List Str} {k : Nat} {sp : Sp} (D : AtD K mg x nm st []) (S : FnScope N ps (defScope st)) (len : ∀ vs H Q E, sp vs H Q E → vs.length = ps.length)
    (hb : ∀ (kV doc pm : Value) (an : Option Addr) (cdv ct : Value) (us : List Value), us.length = ps.length → bindArgs (PySem.W.fnOf nm nm (defArgs st) (defBody st) (defScope st) .none kV doc pm an cdv ct) ⟨us, []⟩ = pure (ps.zip us))
    (walk : ∀ (f : Addr) (cdv : Value) (A : Around) (outer : List Env) (s : Shared) (H : Hp) (vs : List V) (Q : VK) (E : XK), Room k (A.deeper (envOfC nm (defScope st) s.heap.objs.size f cdv)) → sp vs H Q E →
      ∃ t, PSs (cxOf CX0 P w K mg base N nm (defScope st) f cdv A outer s H E).nox (defBody st) t ∧ t { nx := fun _ H' => Q .non H', rt := Q } (start N vs) H) : Gf P w K mg base (k + 1) x sp := by
  obtain ⟨f, fd, F, hm⟩ := D
  have B : Binds K fd ps [] := F.bindsN hb
  have O : FnOk P w K mg base CX0 (k + 1) f fd ps sp := F.ok S len fun cdv A outer s H vs Q E hr h => by
    obtain ⟨t, h1, h2⟩ := walk f cdv A outer s H vs Q E hr h
    exact ⟨t, h1.nox, h2⟩
  exact ⟨f, hm, F.kp, (O.raw B .nil).imp fun vs H Q E h => by rw [List.append_nil]; exact h⟩
end
def tCallG (sp : Sp) (t : TA) : TE := fun σ H Q => t σ H fun vs H1 => sp vs H1 Q E0
section
variable {X : Cx}
theorem pe_callG {k : Nat} {x : Str} {sp : Sp} {p pos : Pos} {e : Expr} {es : List Expr} {t : TA} (G : Gf X.prog X.w X.K X.mg X.base k x sp) (hr : Room k X.A) (ha : PA X (e :: es) t) (hg : Gl X x := by rfl)
    (hdb : (x == ("__debug__" : Str)) = false := by decide) (he : starEach (e :: es) X.env = (false, eval e X.env) :: starEach es X.env := by rfl) (hpl : (backTo pos (starEach es X.env)).any (·.1) = false := by rfl) :
    PE X (.Call (.Name x p) (e :: es) [] pos) (tCallG sp t) := by
  obtain ⟨f, hm, hk, F⟩ := G
  refine ⟨fun pins s σ H Q I h => ?_⟩
  refine wpAny_Call_Name_kw (ld_glob I hg hm ?_ hdb)
  refine PySem.W.callWith_K (h₀ := X.base) I.ok.mod.kin hk (thn (ha.run pos pins s σ H _ I h) fun us s1 ⟨vs, H1, I1, r, q⟩ => ⟨I1.kIn, ?_⟩) he hpl
  exact wpAny_call (run_fnR F hr pass0 I1 r q)
/-- an expression that is not come to -/
theorem pe_never {e : Expr} : PE X e (fun _ _ _ => False) := ⟨fun _ _ _ _ _ _ h => h.elim⟩
theorem gN (i : Nat) {x : Str} {pos : Pos} (nd : X.N.Nodup) (hi : X.N[i]? = some x := by rfl) (hx : Loc X.env.scope x := by first | exact Or.inl rfl | exact Or.inr rfl)
    (hf : X.fn x = true ∨ X.env.scope.names.lookup x = some .local := by first | exact .inl rfl | exact .inr rfl) : PG X (.Name x pos) (gName i) := pg_name nd hi hx hf
theorem sT (i : Nat) {x : Str} {e : Expr} {te : TE} {pos pos' : Pos} (nd : X.N.Nodup) (he : PE X e te) (hi : X.N[i]? = some x := by rfl) (hx : Loc X.env.scope x := by first | exact Or.inl rfl | exact Or.inr rfl)
    (hs : swapsWith e (some (.Name x pos')) pos.line X.env = pure false := by rfl) (hf : X.fn x = true ∨ X.env.scope.names.lookup x = some .local := by first | exact .inl rfl | exact .inr rfl) :
    PS X (.Assign [.Name x pos'] e pos) (tAsg te (gName i)) := ps_set nd hi hx he hs hf
end
end K31
/-! what the walks ask of the top: names, tables, where each def stands; the known parts of a state -/
namespace K31
open PySem PySem.Spec PyProof.Rows L2
def partsV : List V := [.str "stand", .str "at", .str "boxes", .str "rows", .str "fits", .str "pile", .str "place", .str "trap", .str "trapped", .str "fault", .str "asked", .str "said"]
/-- the places of a statement that are reckoned, by its word -/
def recV : Sm → Option (List V)
  | .set _ _ => some [.int 2]
  | .iff _ _ => some [.int 1]
  | .loop _ _ _ _ => some [.int 2, .int 3, .int 4]
  | _ => none
/-- the def that does a plain statement -/
def actV : Sm → Option Str
  | .set _ _ => some "put_in_box"
  | .say _ => some "say_done"
  | _ => none
def notSay : Sm → Prop
  | .say _ => False
  | _ => True
structure Txt (w : World) (K : PySem.W.Frag) (mg : Str → Option Value) : Prop where
  isinstance : mg "isinstance" = none
  int : mg "int" = none
  all : mg "all" = none
  len : mg "len" = none
  range : mg "range" = none
  abs : mg "abs" = none
  dict : mg "dict" = none
  list : mg "list" = none
  zip : mg "zip" = none
  tuple : mg "tuple" = none
  sorted : mg "sorted" = none
  enumerate : mg "enumerate" = none
  frames : ∃ t, mg "MOST_FRAMES" = some (.int 50 t)
  great1 : ∃ t, mg "MOST_NUMBER_loops" = some (.int 1000000000000 t)
  great2 : ∃ t, mg "MOST_NUMBER_reckon" = some (.int 1000000000000 t)
  parts : ∃ a, mg "PARTS" = some (.ref a) ∧ ∀ H, SqT K H a partsV
  plain : ∃ a, mg "PLAIN_reckon" = some (.ref a) ∧ ∀ H, SqT K H a [.str "number", .str "text"]
  both : ∃ a, mg "BOTH_KINDS" = some (.ref a) ∧ ∀ H, SqT K H a [.str "+", .str "<", .str "=", .str ">"]
  reck : ∃ d es n, mg "RECKONED" = some (.ref d) ∧ KDict K w d es n ∧ ∀ st, notSay st → match recV st with
    | some l => ∃ a, PySem.W.nsIn K d (wordOf st) = some (some (.ref a)) ∧ ∀ H, SqT K H a l
    | none => PySem.W.nsIn K d (wordOf st) = some none
  acts : ∃ d es n, mg "PLAIN_acts" = some (.ref d) ∧ KDict K w d es n ∧ ∀ st, match actV st with
    | some x => ∃ f, PySem.W.nsIn K d (wordOf st) = some (some (.ref f)) ∧ mg x = some (.ref f)
    | none => PySem.W.nsIn K d (wordOf st) = some none
  around : ∃ C f fd, mg "Around" = some (.ref C) ∧ Mk K C f ∧ Cls K C ∧ NoAttr K C "box_worths" ∧ NoAttr K C "row_worths" ∧ NoAttr K C "fit_bodies" ∧ NoAttr K C "fault_met" ∧ NoAttr K C "deep" ∧
    FunD K "__init__" "Around.__init__" (defArgs s_around_init) (defBody s_around_init) (defScope s_around_init) [] [] f fd
  is_number_loops : AtD K mg "is_number_loops" "is_number" s_is_number_loops []
  line_behind : AtD K mg "line_behind" "line_behind" s_line_behind []
  go_behind : AtD K mg "go_behind" "go_behind" s_go_behind []
  again_behind : AtD K mg "again_behind" "again_behind" s_again_behind []
  closed_by : AtD K mg "closed_by" "closed_by" s_closed_by []
  is_beyond : AtD K mg "is_beyond" "is_beyond" s_is_beyond []
  loop_begun : AtD K mg "loop_begun" "loop_begun" s_loop_begun []
  loop_again : AtD K mg "loop_again" "loop_again" s_loop_again []
  need : AtD K mg "need" "need" s_need []
  is_number_reckon : AtD K mg "is_number_reckon" "is_number" s_is_number_reckon []
  bounded : AtD K mg "bounded" "bounded" s_bounded []
  by_sign : AtD K mg "by_sign" "by_sign" s_by_sign []
  of_worths : AtD K mg "of_worths" "of_worths" s_of_worths []
  come : AtD K mg "come" "come" s_come []
  reckon : AtD K mg "reckon" "reckon" s_reckon [("boxes", .non), ("rows", .non), ("fits", .non), ("fault", .non)]
  has_line : AtD K mg "has_line" "has_line" s_has_line []
  fault_at : AtD K mg "fault_at" "fault_at" s_fault_at []
  expressions_of : AtD K mg "expressions_of" "expressions_of" s_expressions_of []
  worths_of : AtD K mg "worths_of" "worths_of" s_worths_of []
  put_in_box : AtD K mg "put_in_box" "put_in_box" s_put_in_box []
  say_done : AtD K mg "say_done" "say_done" s_say_done []
  jump_done : AtD K mg "jump_done" "jump_done" s_jump_done []
  call_done : AtD K mg "call_done" "call_done" s_call_done []
  back_done : AtD K mg "back_done" "back_done" s_back_done []
  choice_done : AtD K mg "choice_done" "choice_done" s_choice_done []
  halt_done : AtD K mg "halt_done" "halt_done" s_halt_done []
  move_done : AtD K mg "move_done" "move_done" s_move_done []
  gone_behind : AtD K mg "gone_behind" "gone_behind" s_gone_behind []
  line_done : AtD K mg "line_done" "line_done" s_line_done []
  numbers_of : AtD K mg "numbers_of" "numbers_of" s_numbers_of []
  known_of : AtD K mg "known_of" "known_of" s_known_of []
  as_state : AtD K mg "as_state" "as_state" s_as_state []
  first_state : AtD K mg "first_state" "first_state" s_first_state [("first", .non)]
  line_of : AtD K mg "line_of" "line_of" s_line_of []
  step : AtD K mg "step" "step" s_step []
  walk : AtD K mg "walk" "walk" s_walk [("state", .non), ("most", .int 1000)]
  law_pen : AtD K mg "_law_pen" "_law_pen" s_law_pen []
  law_draw : AtD K mg "_law_draw" "_law_draw" s_law_draw []
  law_number_said : AtD K mg "_law_number_said" "_law_number_said" s_law_number_said []
  law_loop_line : AtD K mg "_law_loop_line" "_law_loop_line" s_law_loop_line []
  law_rounds : AtD K mg "_law_rounds" "_law_rounds" s_law_rounds []
  law_three : AtD K mg "_law_three" "_law_three" s_law_three []
  law_comes_to : AtD K mg "_law_comes_to" "_law_comes_to" s_law_comes_to []
  law_nested_right : AtD K mg "_law_nested_right" "_law_nested_right" s_law_nested_right []
  law_outer_right : AtD K mg "_law_outer_right" "_law_outer_right" s_law_outer_right []
  law_begun_again_right : AtD K mg "_law_begun_again_right" "_law_begun_again_right" s_law_begun_again_right []
  law_called_right : AtD K mg "_law_called_right" "_law_called_right" s_law_called_right []
  law_same_name_right : AtD K mg "_law_same_name_right" "_law_same_name_right" s_law_same_name_right []
/-! ### the parts of a state in a dict -/
structure Kn where
  bd : Addr
  rd : Addr
  fd : Addr
  pile : V
  place : V
  fault : V
  said : V
def kvOf (st : Str) (at_ : Int) (k : Kn) : List (Key × V) :=
  [(Sum.inr "stand", .str st), (Sum.inr "at", .int at_), (Sum.inr "boxes", .ref k.bd), (Sum.inr "rows", .ref k.rd), (Sum.inr "fits", .ref k.fd), (Sum.inr "pile", k.pile), (Sum.inr "place", k.place), (Sum.inr "trap", .int 0), (Sum.inr "trapped", .bl false), (Sum.inr "fault", k.fault), (Sum.inr "asked", .int 0), (Sum.inr "said", k.said)]
section
variable (st : Str) (a : Int) (k : Kn)
theorem kv_stand : valV (kvOf st a k) (Sum.inr "stand") = some (.str st) := by kernel_rfl
theorem kv_at : valV (kvOf st a k) (Sum.inr "at") = some (.int a) := by kernel_rfl
theorem kv_boxes : valV (kvOf st a k) (Sum.inr "boxes") = some (.ref k.bd) := by kernel_rfl
theorem kv_rows : valV (kvOf st a k) (Sum.inr "rows") = some (.ref k.rd) := by kernel_rfl
theorem kv_fits : valV (kvOf st a k) (Sum.inr "fits") = some (.ref k.fd) := by kernel_rfl
theorem kv_pile : valV (kvOf st a k) (Sum.inr "pile") = some k.pile := by kernel_rfl
theorem kv_place : valV (kvOf st a k) (Sum.inr "place") = some k.place := by kernel_rfl
theorem kv_fault : valV (kvOf st a k) (Sum.inr "fault") = some k.fault := by kernel_rfl
theorem kv_said : valV (kvOf st a k) (Sum.inr "said") = some k.said := by kernel_rfl
theorem put_stand (x : Str) : putK (kvOf st a k) (Sum.inr "stand") (.str x) = kvOf x a k := by kernel_rfl
theorem put_at (n : Int) : putK (kvOf st a k) (Sum.inr "at") (.int n) = kvOf st n k := by kernel_rfl
theorem put_pile (v : V) : putK (kvOf st a k) (Sum.inr "pile") v = kvOf st a { k with pile := v } := by kernel_rfl
theorem put_said (v : V) : putK (kvOf st a k) (Sum.inr "said") v = kvOf st a { k with said := v } := by kernel_rfl
theorem put_boxes (b : Addr) : putK (kvOf st a k) (Sum.inr "boxes") (.ref b) = kvOf st a { k with bd := b } := by kernel_rfl
end
/-- boxes as a dict's pairs -/
def bxs (bs : List (Str × Int)) : List (Key × V) := bs.map fun p => ((Sum.inr p.1 : Key), V.int p.2)
theorem inr_ne {x y : Str} (h : ¬ x = y) : ¬ ((Sum.inr x : Key) = Sum.inr y) := fun e => h (Sum.inr.inj e)
theorem bxs_val : ∀ (bs : List (Str × Int)) (x : Str), valV (bxs bs) (Sum.inr x) = (look bs x).map V.int
  | [], x => rfl
  | p :: r, x => by
    have ih := bxs_val r x
    unfold valV at ih ⊢
    show ((((Sum.inr p.1 : Key), V.int p.2) :: bxs r).find? _).map _ = _
    rw [List.find?_cons]
    unfold look
    by_cases h : p.1 = x
    · rw [if_pos h]
      simp [h]
    · rw [if_neg h]
      have e : decide ((Sum.inr p.1 : Key) = Sum.inr x) = false := decide_eq_false (inr_ne h)
      simp only [e]
      exact ih
theorem bxs_any : ∀ (bs : List (Str × Int)) (x : Str), ((bxs bs).any fun kv => decide (kv.1 = (Sum.inr x : Key))) = (look bs x).isSome
  | [], x => rfl
  | p :: r, x => by
    have ih := bxs_any r x
    show (decide ((Sum.inr p.1 : Key) = Sum.inr x) || (bxs r).any _) = _
    unfold look
    by_cases h : p.1 = x
    · rw [if_pos h, h]
      simp
    · rw [if_neg h, decide_eq_false (inr_ne h), Bool.false_or]
      exact ih
theorem bxs_put (bs : List (Str × Int)) (x : Str) (n : Int) : putK (bxs bs) (Sum.inr x) (.int n) = bxs (putB bs x n) := by
  unfold putK putB
  rw [bxs_any]
  cases e : (look bs x).isSome with
  | false => simp [bxs]
  | true =>
    simp only [if_true]
    unfold bxs
    rw [List.map_map, List.map_map]
    refine List.map_congr_left fun p _ => ?_
    show (if (Sum.inr p.1 : Key) = Sum.inr x then ((Sum.inr p.1 : Key), V.int n) else (Sum.inr p.1, V.int p.2)) = _
    by_cases h : p.1 = x
    · rw [if_pos (congrArg Sum.inr h)]
      simp [h]
    · rw [if_neg (inr_ne h)]
      simp [h]
theorem putB_len (bs : List (Str × Int)) (x : Str) (n : Int) : (putB bs x n).length ≤ bs.length + 1 := by
  unfold putB
  split
  · rw [List.length_map]
    exact Nat.le_succ _
  · rw [List.length_append]
    exact Nat.le_refl _
def NdB (bs : List (Str × Int)) : Prop := (bs.map (·.1)).Nodup
theorem look_none : ∀ (bs : List (Str × Int)) (x : Str), look bs x = none → x ∉ bs.map (·.1)
  | [], x, _ => by simp
  | p :: r, x, h => by
    unfold look at h
    by_cases e : p.1 = x
    · rw [if_pos e] at h; cases h
    · rw [if_neg e] at h
      have k := look_none r x h
      intro z
      rcases List.mem_cons.mp z with z | z
      · exact e z.symm
      · exact k z
theorem putB_nd (bs : List (Str × Int)) (x : Str) (n : Int) (h : NdB bs) : NdB (putB bs x n) := by
  unfold putB
  cases e : look bs x with
  | some m =>
    simp only [Option.isSome_some, if_true]
    unfold NdB
    rw [List.map_map]
    have e2 : ((fun p : Str × Int => p.1) ∘ fun p : Str × Int => if p.1 = x then (p.1, n) else p) = fun p => p.1 := by
      funext p
      show (if p.1 = x then (p.1, n) else p).1 = p.1
      split <;> rfl
    rw [e2]
    exact h
  | none =>
    simp only [Option.isSome_none, Bool.false_eq_true, if_false]
    unfold NdB
    rw [List.map_append]
    have k := look_none bs x e
    refine List.nodup_append.mpr ⟨h, by simp, ?_⟩
    intro a ha b hb
    have : b = x := by simpa using hb
    subst this
    intro z
    subst z
    exact k ha
/-- what the bounds of a state are -/
structure Small (s : Sx) : Prop where
  nd : NdB s.boxes
  b : s.boxes.length ≤ 60
  p : s.pile.length ≤ 50
  s : s.said.length ≤ 5000
/-- the known parts of a state stand in the heap -/
structure KnS (K : PySem.W.Frag) (H : Hp) (d : Addr) (k : Kn) (s : Sx) : Prop where
  dk : H d = some (.dK (kvOf s.stand s.at_ k))
  bx : H k.bd = some (.dK (bxs s.boxes))
  rw_ : H k.rd = some (.dK [])
  ft : H k.fd = some (.dK [])
  n1 : k.bd ≠ d
  n2 : k.rd ≠ d
  n3 : k.fd ≠ d
  n4 : k.rd ≠ k.bd
  n5 : k.fd ≠ k.bd
  pile : Dp K H k.pile (pileD s.pile)
  place : Dp K H k.place placeD
  fault : Dp K H k.fault (faultD s.fault)
  said : Dp K H k.said (saidD s.said)
  small : Small s
section
variable {K : PySem.W.Frag} {H : Hp} {d : Addr} {k : Kn} {s : Sx}
/-- other places keep their parts -/
theorem KnS.keep {ks : List Addr} {H' : Hp} (S : KnS K H d k s) (x : Kx ks H H') (h1 : d ∉ ks) (h2 : k.bd ∉ ks) (h3 : k.rd ∉ ks) (h4 : k.fd ∉ ks) : KnS K H' d k s :=
  ⟨x.dk S.dk h1, x.dk S.bx h2, x.dk S.rw_ h3, x.dk S.ft h4, S.n1, S.n2, S.n3, S.n4, S.n5, x.dp _ S.pile, x.dp _ S.place, x.dp _ S.fault, x.dp _ S.said, S.small⟩
theorem KnS.keep0 {H' : Hp} (S : KnS K H d k s) (x : Kx [] H H') : KnS K H' d k s := S.keep x (fun z => nomatch z) (fun z => nomatch z) (fun z => nomatch z) (fun z => nomatch z)
theorem KnS.kput (S : KnS K H d k s) (kvs : List (Key × V)) : Kx [d, k.bd] H (upd H d (.dK kvs)) := .put S.dk (by simp)
theorem KnS.bput (S : KnS K H d k s) (kvs : List (Key × V)) : Kx [d, k.bd] H (upd H k.bd (.dK kvs)) := .put S.bx (by simp)
theorem KnS.setAt (S : KnS K H d k s) (n : Int) : KnS K (upd H d (.dK (putK (kvOf s.stand s.at_ k) (Sum.inr "at") (.int n)))) d k { s with at_ := n } := by
  have x := S.kput (putK (kvOf s.stand s.at_ k) (Sum.inr "at") (.int n))
  refine ⟨by rw [upd_same, put_at], by rw [upd_ne S.n1]; exact S.bx, by rw [upd_ne S.n2]; exact S.rw_, by rw [upd_ne S.n3]; exact S.ft, S.n1, S.n2, S.n3, S.n4, S.n5, x.dp _ S.pile, x.dp _ S.place, x.dp _ S.fault, x.dp _ S.said, ⟨S.small.nd, S.small.b, S.small.p, S.small.s⟩⟩
theorem KnS.setStand (S : KnS K H d k s) (y : Str) : KnS K (upd H d (.dK (putK (kvOf s.stand s.at_ k) (Sum.inr "stand") (.str y)))) d k { s with stand := y } := by
  have x := S.kput (putK (kvOf s.stand s.at_ k) (Sum.inr "stand") (.str y))
  refine ⟨by rw [upd_same, put_stand], by rw [upd_ne S.n1]; exact S.bx, by rw [upd_ne S.n2]; exact S.rw_, by rw [upd_ne S.n3]; exact S.ft, S.n1, S.n2, S.n3, S.n4, S.n5, x.dp _ S.pile, x.dp _ S.place, x.dp _ S.fault, x.dp _ S.said, ⟨S.small.nd, S.small.b, S.small.p, S.small.s⟩⟩
theorem KnS.setPile (S : KnS K H d k s) {v : V} {l : List Fr} (h : Dp K H v (pileD l)) (hl : l.length ≤ 50) : KnS K (upd H d (.dK (putK (kvOf s.stand s.at_ k) (Sum.inr "pile") v))) d { k with pile := v } { s with pile := l } := by
  have x := S.kput (putK (kvOf s.stand s.at_ k) (Sum.inr "pile") v)
  refine ⟨by rw [upd_same, put_pile], by rw [upd_ne S.n1]; exact S.bx, by rw [upd_ne S.n2]; exact S.rw_, by rw [upd_ne S.n3]; exact S.ft, S.n1, S.n2, S.n3, S.n4, S.n5, x.dp _ h, x.dp _ S.place, x.dp _ S.fault, x.dp _ S.said, ⟨S.small.nd, S.small.b, hl, S.small.s⟩⟩
theorem KnS.setSaid (S : KnS K H d k s) {v : V} {l : List (List Int)} (h : Dp K H v (saidD l)) (hl : l.length ≤ 5000) : KnS K (upd H d (.dK (putK (kvOf s.stand s.at_ k) (Sum.inr "said") v))) d { k with said := v } { s with said := l } := by
  have x := S.kput (putK (kvOf s.stand s.at_ k) (Sum.inr "said") v)
  refine ⟨by rw [upd_same, put_said], by rw [upd_ne S.n1]; exact S.bx, by rw [upd_ne S.n2]; exact S.rw_, by rw [upd_ne S.n3]; exact S.ft, S.n1, S.n2, S.n3, S.n4, S.n5, x.dp _ S.pile, x.dp _ S.place, x.dp _ S.fault, x.dp _ h, ⟨S.small.nd, S.small.b, S.small.p, hl⟩⟩
theorem KnS.setBox (S : KnS K H d k s) (y : Str) (n : Int) (hb : s.boxes.length < 60) : KnS K (upd H k.bd (.dK (putK (bxs s.boxes) (Sum.inr y) (.int n)))) d k { s with boxes := putB s.boxes y n } := by
  have x := S.bput (putK (bxs s.boxes) (Sum.inr y) (.int n))
  have hl := putB_len s.boxes y n
  refine ⟨by rw [upd_ne (Ne.symm S.n1)]; exact S.dk, by rw [upd_same, bxs_put], by rw [upd_ne S.n4]; exact S.rw_, by rw [upd_ne S.n5]; exact S.ft, S.n1, S.n2, S.n3, S.n4, S.n5, x.dp _ S.pile, x.dp _ S.place, x.dp _ S.fault, x.dp _ S.said, ⟨putB_nd _ _ _ S.small.nd, ?_, S.small.p, S.small.s⟩⟩
  show (putB s.boxes y n).length ≤ 60
  omega
end
/-- the names in it are texts that can be laid -/
def nmL : Lf → Bool
  | .num _ => true
  | .box x => PyData.strOk x
def nmE : Ex → Bool
  | .lf l => nmL l
  | .sub a b => nmL a && nmL b
  | .add a b => nmL a && nmL b
  | .eq a b => nmL a && nmL b
def nmS : Sm → Bool
  | .set x e => PyData.strOk x && nmE e
  | .say es => es.all nmE
  | .iff e _ => nmE e
  | .loop x a b c => PyData.strOk x && (nmE a && (nmE b && nmE c))
  | .again x => PyData.strOk x
  | _ => true
/-- a program's lines -/
structure IsPr (K : PySem.W.Frag) (H : Hp) (v : V) (p : Pr) : Prop where
  dp : Dp K H v (prD p)
  few : p.length ≤ 1000
  exs : ∀ l ∈ p, (exsOf l.2).length ≤ 100
  nm : ∀ l ∈ p, nmS l.2 = true
theorem Kx.pr {K : PySem.W.Frag} {ks : List Addr} {H H' : Hp} (x : Kx ks H H') {v : V} {p : Pr} (h : IsPr K H v p) : IsPr K H' v p := ⟨x.dp _ h.dp, h.few, h.exs, h.nm⟩
theorem IsPr.tup {K : PySem.W.Frag} {H : Hp} {v : V} {p : Pr} (h : IsPr K H v p) : ∃ a xs, v = .ref a ∧ SqT K H a xs ∧ xs.length = p.length ∧ DpAll K H xs (p.map lineD) := by
  obtain ⟨a, xs, e, h1, h2⟩ := dp_tup h.dp
  exact ⟨a, xs, e, h1, by rw [dpa_len h2, List.length_map], h2⟩
/-- the i-th line -/
theorem line_at {K : PySem.W.Frag} {H : Hp} {xs : List V} {p : Pr} (h : DpAll K H xs (p.map lineD)) {i : Nat} {x : V} (hx : xs[i]? = some x) : ∃ l, p[i]? = some l ∧ p.drop i = l :: p.drop (i + 1) ∧ Dp K H x (lineD l) := by
  obtain ⟨dd, e, h⟩ := dpa_get h i x hx
  rw [List.getElem?_map] at e
  cases el : p[i]? with
  | none => rw [el] at e; cases e
  | some l =>
    rw [el] at e
    cases e
    obtain ⟨hi, e2⟩ := List.getElem?_eq_some_iff.mp el
    exact ⟨l, rfl, by rw [List.drop_eq_getElem_cons hi, e2], h⟩
def optS : Option Str → V
  | none => .non
  | some x => .str x
def optI : Option Int → V
  | none => .non
  | some x => .int x
end K31
/-! boxes by their names' order -/
namespace K31
open PySem PySem.Spec PyProof.Rows L2
abbrev leK (a b : Str) : Prop := ¬ b.cps.toList < a.cps.toList
theorem leK_trans {a b c : Str} (h1 : leK a b) (h2 : leK b c) : leK a c := by
  have e1 : a.cps.toList ≤ b.cps.toList := List.not_lt.mp h1
  have e2 : b.cps.toList ≤ c.cps.toList := List.not_lt.mp h2
  exact List.not_lt.mpr (List.le_trans e1 e2)
theorem str_ext {a b : Str} (h : a.cps.toList = b.cps.toList) : a = b := by
  cases a with
  | mk x =>
    cases b with
    | mk y =>
      have e : x = y := Array.toList_inj.mp h
      rw [e]
theorem leK_anti {a b : Str} (h1 : leK a b) (h2 : leK b a) : a = b := str_ext (List.le_antisymm (List.not_lt.mp h1) (List.not_lt.mp h2))
theorem rising_pw : ∀ (l : List Str) (p : Str), risingS p l = true → (p :: l).Pairwise leK
  | [], p, _ => by simp
  | x :: r, p, h => by
    have h' : (!ltCps x.cps.toList p.cps.toList && risingS x r) = true := h
    obtain ⟨h1, h2⟩ := Bool.and_eq_true_iff.mp h'
    have ih := rising_pw r x h2
    have hx : leK p x := by
      rw [ltCps_eq] at h1
      simpa using h1
    refine List.pairwise_cons.mpr ⟨fun b hb => ?_, ih⟩
    rcases List.mem_cons.mp hb with e | hb
    · rw [e]; exact hx
    · exact leK_trans hx ((List.pairwise_cons.mp ih).1 b hb)
theorem sorted_pw {l : List Str} (h : sortedS l = true) : l.Pairwise leK := by
  cases l with
  | nil => exact .nil
  | cons x r => exact rising_pw r x h
theorem insB_perm (p : Str × Int) : ∀ l, (insB p l).Perm (p :: l)
  | [] => .refl _
  | q :: r => by
    unfold insB
    split
    · exact .refl _
    · exact ((insB_perm p r).cons q).trans (.swap p q r)
theorem sortB_perm : ∀ l, (sortB l).Perm l
  | [] => .refl _
  | p :: r => (insB_perm p (sortB r)).trans ((sortB_perm r).cons p)
theorem insB_pw (p : Str × Int) : ∀ l : List (Str × Int), l.Pairwise (fun a b => leK a.1 b.1) → (insB p l).Pairwise (fun a b => leK a.1 b.1)
  | [], _ => by simp [insB]
  | q :: r, h => by
    unfold insB
    obtain ⟨h1, h2⟩ := List.pairwise_cons.mp h
    split
    · rename_i hlt
      refine List.pairwise_cons.mpr ⟨fun b hb => ?_, h⟩
      have hpq : leK p.1 q.1 := List.not_lt.mpr (List.le_of_lt hlt)
      rcases List.mem_cons.mp hb with e | hb
      · rw [e]; exact hpq
      · exact leK_trans hpq (h1 b hb)
    · rename_i hlt
      refine List.pairwise_cons.mpr ⟨fun b hb => ?_, insB_pw p r h2⟩
      rcases List.mem_cons.mp ((insB_perm p r).mem_iff.mp hb) with e | hb
      · rw [e]; exact hlt
      · exact h1 b hb
theorem sortB_pw : ∀ l, (sortB l).Pairwise (fun a b => leK a.1 b.1)
  | [] => .nil
  | p :: r => insB_pw p _ (sortB_pw r)
theorem sortB_keys {bs : List (Str × Int)} {ys : List Str} (h : ys.Perm (bs.map (·.1))) (hs : sortedS ys = true) : ys = (sortB bs).map (·.1) := by
  have h2 : ys.Perm ((sortB bs).map (·.1)) := h.trans ((sortB_perm bs).map _).symm
  have p2 : ((sortB bs).map (·.1)).Pairwise leK := List.pairwise_map.mpr (sortB_pw bs)
  exact List.Perm.eq_of_pairwise (le := leK) (fun a b _ _ h1 h2 => leK_anti h1 h2) (sorted_pw hs) p2 h2
theorem sortB_nd {bs : List (Str × Int)} (h : NdB bs) : NdB (sortB bs) := (List.Perm.nodup_iff ((sortB_perm bs).map Prod.fst)).mpr h
theorem sortB_len (bs : List (Str × Int)) : (sortB bs).length = bs.length := (sortB_perm bs).length_eq
theorem look_mem : ∀ {bs : List (Str × Int)} {p : Str × Int}, NdB bs → p ∈ bs → look bs p.1 = some p.2
  | q :: r, p, h, hp => by
    unfold look
    obtain ⟨h1, h2⟩ := List.nodup_cons.mp h
    rcases List.mem_cons.mp hp with e | hp
    · rw [e, if_pos rfl]
    · rw [if_neg (fun e => h1 (by show q.1 ∈ _; rw [e]; exact List.mem_map.mpr ⟨p, hp, rfl⟩))]
      exact look_mem h2 hp
theorem look_sorted {bs : List (Str × Int)} (h : NdB bs) {i : Nat} {p : Str × Int} (hi : (sortB bs)[i]? = some p) : look bs p.1 = some p.2 :=
  look_mem h ((sortB_perm bs).mem_iff.mp (List.mem_of_getElem? hi))
theorem nd_look : ∀ (bs : List (Str × Int)) (x : Str), (∀ p ∈ bs, ¬ p.1 = x) → look bs x = none
  | [], _, _ => rfl
  | p :: r, x, h => by
    unfold look
    rw [if_neg (h p List.mem_cons_self)]
    exact nd_look r x fun q hq => h q (List.mem_cons_of_mem _ hq)
/-- a dict of such pairs, one by one -/
theorem merge_bxs : ∀ (bs acc : List (Str × Int)), NdB (acc ++ bs) → mergeK (bxs acc) (bxs bs) = bxs (acc ++ bs)
  | [], acc, _ => by rw [List.append_nil]; rfl
  | p :: r, acc, h => by
    have hn : look acc p.1 = none := by
      refine nd_look acc p.1 fun q hq e => ?_
      unfold NdB at h
      rw [List.map_append] at h
      exact (List.nodup_append.mp h).2.2 _ (List.mem_map.mpr ⟨q, hq, rfl⟩) _ (List.mem_map.mpr ⟨p, List.mem_cons_self, rfl⟩) e
    have e1 : putK (bxs acc) (Sum.inr p.1) (.int p.2) = bxs (acc ++ [p]) := by
      rw [bxs_put]
      unfold putB
      rw [hn]
      rfl
    show mergeK (putK (bxs acc) (Sum.inr p.1) (.int p.2)) (bxs r) = _
    rw [e1, merge_bxs r (acc ++ [p]) (by rw [List.append_assoc]; exact h), List.append_assoc]
    rfl
theorem merge_bxs0 {bs : List (Str × Int)} (h : NdB bs) : mergeK [] (bxs bs) = bxs bs := merge_bxs bs [] h
end K31
/-! helpers: slices and sums of tuples as data, == of statements -/
namespace K31
open PySem PySem.Spec PyProof.Rows L2
theorem cut_take (xs : List V) (k : Nat) (h : k ≤ xs.length) : cutV xs none (some (k : Int)) = xs.take k := by
  unfold cutV
  rw [HT.sIx_none, HT.sIx_nat, List.drop_zero, Nat.min_eq_left h, Nat.sub_zero]
theorem cut_drop (xs : List V) (k : Nat) (h : k ≤ xs.length) : cutV xs (some (k : Int)) none = xs.drop k := by
  unfold cutV
  rw [HT.sIx_none, HT.sIx_nat, Nat.min_eq_left h]
  rw [List.take_of_length_le (by rw [List.length_drop]; exact Nat.le_refl _)]
theorem cxK {CX : CXT} {P : Program} {w : World} {K : PySem.W.Frag} {mg : Str → Option Value} {base : Heap} {N : List Str} {q : Str} {sc : Scope} {f : Addr} {cd : Value} {A : Around} {o : List Env} {s : Shared} {H : Hp} {E : XK} : (cxOf CX P w K mg base N q sc f cd A o s H E).nox.K = K := rfl
theorem cxK2 {CX : CXT} {P : Program} {w : World} {K : PySem.W.Frag} {mg : Str → Option Value} {base : Heap} {N : List Str} {q : Str} {sc : Scope} {f : Addr} {cd : Value} {A : Around} {o : List Env} {s : Shared} {H : Hp} {E : XK} : (cxOf CX P w K mg base N q sc f cd A o s H E).K = K := rfl
theorem Kx.grow {ks : List Addr} {H H' : Hp} {D : Addr} {o : HO} (k : Kx ks H H') (hD : H D = none) : Kx ks H (upd H' D o) := by
  refine ⟨fun b o e n => ?_, fun b e => ?_⟩
  · rw [upd_ne (ne_of_none e hD)]
    exact k.at_ b o e n
  · by_cases z : b = D
    · subst z
      exact hD
    · rw [upd_ne z] at e
      exact k.live b e
theorem dget {H : Hp} {d : Addr} {kvs : List (Key × V)} {k : Key} {v : V} (hd : H d = some (.dK kvs)) (e : valV kvs k = some v) : DGet H d (kV k) (some v) := .inl ⟨kvs, k, .inl hd, rfl, e.symm⟩
theorem dput {H : Hp} {d : Addr} {kvs : List (Key × V)} {k : Key} {v : V} (hd : H d = some (.dK kvs)) (hz : kvs.length ≤ 1000) : DPut H d (kV k) v (upd H d (.dK (putK kvs k v))) := .inl ⟨kvs, k, hd, rfl, small1000 hz, rfl⟩
theorem kv_len (st : Str) (a : Int) (k : Kn) : (kvOf st a k).length ≤ 1000 := by show 12 ≤ 1000; decide
theorem bxs_len {bs : List (Str × Int)} (h : bs.length ≤ 60) : (bxs bs).length ≤ 1000 := by unfold bxs; rw [List.length_map]; omega
theorem decS {a b : Str} (h : ¬ a = b) : decide (V.str a = V.str b) = false := decide_eq_false fun e => h (V.str.inj e)
theorem decST (a : Str) : decide (V.str a = V.str a) = true := decide_eq_true rfl
theorem decI (a b : Int) : decide (V.int a = V.int b) = decide (a = b) := by
  by_cases h : a = b
  · rw [decide_eq_true h, decide_eq_true (congrArg V.int h)]
  · rw [decide_eq_false h, decide_eq_false fun e => h (V.int.inj e)]
section
variable {K : PySem.W.Frag} {H : Hp}
theorem tup_new {p : Addr} {xs : List V} {ds : List PyData} (hp : H p = none) (h : DpAll K H xs ds) : Dp K (upd H p (.tup xs)) (.ref p) (.tuple ds) :=
  .tup (.inl (.inl upd_same)) ((Kx.new (ks := []) hp).dpAll _ h)
theorem sl_take {x : V} {ds : List PyData} {k : Nat} {Q : VK} (h : Dp K H x (.tuple ds)) (hk : k ≤ ds.length) (q : ∀ H' r, Kx [] H H' → Dp K H' r (.tuple (ds.take k)) → Q r H') : rSlA K x none (some (k : Int)) H Q := by
  obtain ⟨a, xs, rfl, hs, hd⟩ := dp_tup h
  have hl := dpa_len hd
  refine ⟨a, xs, rfl, hs, fun e => ?_, fun _ p hp => ?_⟩
  · rw [HT.sIx_nat] at e
    have e2 : k = ds.length := by omega
    refine q H _ (.refl _ _) ?_
    rw [e2, List.take_length]
    exact h
  · rw [cut_take xs k (by omega)]
    refine q _ _ (.new hp) ?_
    exact .tup (.inl (.inl upd_same)) ((Kx.new (ks := []) hp).dpAll _ (dpa_take k hd))
theorem cat_dp {x y : V} {ds es : List PyData} {Q : VK} (h : Dp K H x (.tuple ds)) (h' : Dp K H y (.tuple es)) (hz : ds.length + es.length ≤ sizeLine) (q : ∀ H' r, Kx [] H H' → Dp K H' r (.tuple (ds ++ es)) → Q r H') : rCatA K x y H Q := by
  obtain ⟨a, xs, rfl, hs, hd⟩ := dp_tup h
  obtain ⟨b, ys, rfl, hs', hd'⟩ := dp_tup h'
  have hl := dpa_len hd
  have hl' := dpa_len hd'
  refine ⟨a, b, xs, ys, rfl, rfl, hs, hs', by omega, fun e => ?_, fun _ e => ?_, fun _ _ p hp => ?_⟩
  · subst e
    have e2 : ds = [] := List.eq_nil_of_length_eq_zero (by simpa using hl.symm)
    subst e2
    exact q H _ (.refl _ _) h'
  · subst e
    have e2 : es = [] := List.eq_nil_of_length_eq_zero (by simpa using hl'.symm)
    subst e2
    refine q H _ (.refl _ _) ?_
    rw [List.append_nil]
    exact h
  · exact q _ _ (.new hp) (.tup (.inl (.inl upd_same)) ((Kx.new (ks := []) hp).dpAll _ (dpa_app hd hd')))
end
theorem pe_globI {X : Cx} {x : Str} {i : Int} {t : Tok} {pos : Pos} (hm : X.mg x = some (.int i t)) (hg : Gl X x := by rfl) (hd : (x == ("__debug__" : Str)) = false := by decide) : PE X (.Name x pos) (tC (.int i)) := pe_glob (v := .int i) hg hm ⟨_, rfl⟩ hd
theorem pe_globR {X : Cx} {x : Str} {a : Addr} {pos : Pos} (hm : X.mg x = some (.ref a)) (hg : Gl X x := by rfl) (hd : (x == ("__debug__" : Str)) = false := by decide) : PE X (.Name x pos) (tC (.ref a)) := pe_glob (v := .ref a) hg hm rfl hd
/-- one of two ways, the same value -/
theorem ite_val {c : Bool} {ta tb : TE} {σ : L2.St} {H : Hp} {Q : VK} (lv : V) (h1 : c = true → ∀ Q : VK, Q lv H → ta σ H Q) (h2 : c = false → ∀ Q : VK, Q lv H → tb σ H Q) (q : Q lv H) : if c = true then ta σ H Q else tb σ H Q := by
  cases c with
  | true => exact h1 rfl Q q
  | false => exact h2 rfl Q q
section
variable {K : PySem.W.Frag} {H : Hp}
theorem dp_loop {v : V} {x : Str} {a b c : Ex} (h : Dp K H v (smD (.loop x a b c))) : ∃ p v1 v2 v3, v = .ref p ∧ SqT K H p [.str "loop", .str x, v1, v2, v3] ∧ Dp K H v1 (exD a) ∧ Dp K H v2 (exD b) ∧ Dp K H v3 (exD c) := by
  obtain ⟨p, xs, rfl, hs, h⟩ := dp_tup h
  obtain ⟨v1, r, rfl, h1, h⟩ := dpa_cons h
  obtain ⟨v2, r, rfl, h2, h⟩ := dpa_cons h
  obtain ⟨v3, r, rfl, h3, h⟩ := dpa_cons h
  obtain ⟨v4, r, rfl, h4, h⟩ := dpa_cons h
  obtain ⟨v5, r, rfl, h5, h⟩ := dpa_cons h
  cases dpa_nil h
  cases dp_str h1
  cases dp_str h2
  exact ⟨p, v3, v4, v5, rfl, hs, h3, h4, h5⟩
theorem dp_again {v : V} {x : Str} (h : Dp K H v (smD (.again x))) : ∃ p, v = .ref p ∧ SqT K H p [.str "again", .str x] := by
  obtain ⟨p, xs, rfl, hs, h⟩ := dp_tup h
  obtain ⟨v1, r, rfl, h1, h⟩ := dpa_cons h
  obtain ⟨v2, r, rfl, h2, h⟩ := dpa_cons h
  cases dpa_nil h
  cases dp_str h1
  cases dp_str h2
  exact ⟨p, rfl, hs⟩
theorem dp_call {v : V} {n : Int} (h : Dp K H v (smD (.call n))) : ∃ p, v = .ref p ∧ SqT K H p [.str "call", .int n] := by
  obtain ⟨p, xs, rfl, hs, h⟩ := dp_tup h
  obtain ⟨v1, r, rfl, h1, h⟩ := dpa_cons h
  obtain ⟨v2, r, rfl, h2, h⟩ := dpa_cons h
  cases dpa_nil h
  cases dp_str h1
  cases dp_int h2
  exact ⟨p, rfl, hs⟩
theorem dp_iff {v : V} {e : Ex} {n : Int} (h : Dp K H v (smD (.iff e n))) : ∃ p v1, v = .ref p ∧ SqT K H p [.str "when", v1, .int n] ∧ Dp K H v1 (exD e) := by
  obtain ⟨p, xs, rfl, hs, h⟩ := dp_tup h
  obtain ⟨v1, r, rfl, h1, h⟩ := dpa_cons h
  obtain ⟨v2, r, rfl, h2, h⟩ := dpa_cons h
  obtain ⟨v3, r, rfl, h3, h⟩ := dpa_cons h
  cases dpa_nil h
  cases dp_str h1
  cases dp_int h3
  exact ⟨p, v2, rfl, hs, h2⟩
theorem dp_set {v : V} {x : Str} {e : Ex} (h : Dp K H v (smD (.set x e))) : ∃ p v1, v = .ref p ∧ SqT K H p [.str "set", .str x, v1] ∧ Dp K H v1 (exD e) := by
  obtain ⟨p, xs, rfl, hs, h⟩ := dp_tup h
  obtain ⟨v1, r, rfl, h1, h⟩ := dpa_cons h
  obtain ⟨v2, r, rfl, h2, h⟩ := dpa_cons h
  obtain ⟨v3, r, rfl, h3, h⟩ := dpa_cons h
  cases dpa_nil h
  cases dp_str h1
  cases dp_str h2
  exact ⟨p, v3, rfl, hs, h3⟩
theorem dp_say {v : V} {es : List Ex} (h : Dp K H v (smD (.say es))) : ∃ p v1, v = .ref p ∧ SqT K H p [.str "say", v1] ∧ Dp K H v1 (.tuple (es.map exD)) := by
  obtain ⟨p, xs, rfl, hs, h⟩ := dp_tup h
  obtain ⟨v1, r, rfl, h1, h⟩ := dpa_cons h
  obtain ⟨v2, r, rfl, h2, h⟩ := dpa_cons h
  cases dpa_nil h
  cases dp_str h1
  exact ⟨p, v2, rfl, hs, h2⟩
end
/-! ### == of statements -/
theorem ok_number : PyData.strOk "number" = true := by decide +kernel
theorem ok_box : PyData.strOk "box" = true := by decide +kernel
theorem ok_minus : PyData.strOk "-" = true := by decide +kernel
theorem ok_plus : PyData.strOk "+" = true := by decide +kernel
theorem ok_eq : PyData.strOk "=" = true := by decide +kernel
theorem ok_set : PyData.strOk "set" = true := by decide +kernel
theorem ok_say : PyData.strOk "say" = true := by decide +kernel
theorem ok_call : PyData.strOk "call" = true := by decide +kernel
theorem ok_back : PyData.strOk "back" = true := by decide +kernel
theorem ok_when : PyData.strOk "when" = true := by decide +kernel
theorem ok_loop : PyData.strOk "loop" = true := by decide +kernel
theorem ok_again : PyData.strOk "again" = true := by decide +kernel
theorem ok_stop : PyData.strOk "stop" = true := by decide +kernel
theorem ok_end : PyData.strOk "end" = true := by decide +kernel
theorem lf_lay {l : Lf} (h : nmL l = true) : (lfD l).canLay0 = true := by
  cases l with
  | num n => simp [lfD, PyData.canLay0, PyData.canLayAll0, ok_number]
  | box x => simp [lfD, PyData.canLay0, PyData.canLayAll0, ok_box]; exact h
theorem lf_deep (l : Lf) : (lfD l).depth ≤ 1 := by cases l <;> simp [lfD, PyData.depth, PyData.depthAll]
theorem ex_lay {e : Ex} (h : nmE e = true) : (exD e).canLay0 = true := by
  cases e with
  | lf l => exact lf_lay h
  | sub a b => have k := Bool.and_eq_true_iff.mp h; simp [exD, lf_lay k.1, lf_lay k.2, PyData.canLay0, PyData.canLayAll0, ok_minus]
  | add a b => have k := Bool.and_eq_true_iff.mp h; simp [exD, lf_lay k.1, lf_lay k.2, PyData.canLay0, PyData.canLayAll0, ok_plus]
  | eq a b => have k := Bool.and_eq_true_iff.mp h; simp [exD, lf_lay k.1, lf_lay k.2, PyData.canLay0, PyData.canLayAll0, ok_eq]
theorem ex_deep (e : Ex) : (exD e).depth ≤ 2 := by
  cases e with
  | lf l => exact Nat.le_succ_of_le (lf_deep l)
  | sub a b => have h1 := lf_deep a; have h2 := lf_deep b; simp only [exD, PyData.depth, PyData.depthAll]; omega
  | add a b => have h1 := lf_deep a; have h2 := lf_deep b; simp only [exD, PyData.depth, PyData.depthAll]; omega
  | eq a b => have h1 := lf_deep a; have h2 := lf_deep b; simp only [exD, PyData.depth, PyData.depthAll]; omega
theorem exs_lay : ∀ es : List Ex, es.all nmE = true → PyData.canLayAll0 (es.map exD) = true
  | [], _ => by simp [PyData.canLayAll0]
  | e :: r, h => by
    rw [List.all_cons] at h
    have k := Bool.and_eq_true_iff.mp h
    simp [PyData.canLayAll0, ex_lay k.1, exs_lay r k.2]
theorem exs_deep : ∀ es : List Ex, PyData.depthAll (es.map exD) ≤ 2
  | [] => by simp [PyData.depthAll]
  | e :: r => by
    have h1 := ex_deep e
    have h2 := exs_deep r
    simp only [List.map_cons, PyData.depthAll]
    omega
theorem sm_shaped {st : Sm} (hn : nmS st = true) : SeqAt.shaped (smD st) = true := by
  have h : (smD st).canLay0 = true ∧ (smD st).depth ≤ 64 := by
    cases st with
    | set x e =>
      have h := ex_deep e
      have k := Bool.and_eq_true_iff.mp hn
      exact ⟨by simp [smD, ex_lay k.2, k.1, PyData.canLay0, PyData.canLayAll0, ok_set], by simp only [smD, PyData.depth, PyData.depthAll]; omega⟩
    | say es =>
      have h := exs_deep es
      have k := exs_lay es hn
      exact ⟨by simp [smD, k, PyData.canLay0, PyData.canLayAll0, ok_say], by simp only [smD, PyData.depth, PyData.depthAll]; omega⟩
    | iff e n =>
      have h := ex_deep e
      have k := ex_lay (e := e) hn
      exact ⟨by simp [smD, k, PyData.canLay0, PyData.canLayAll0, ok_when], by simp only [smD, PyData.depth, PyData.depthAll]; omega⟩
    | loop x a b c =>
      have h := ex_deep a
      have h2 := ex_deep b
      have h3 := ex_deep c
      have k := Bool.and_eq_true_iff.mp hn
      have k2 := Bool.and_eq_true_iff.mp k.2
      have k3 := Bool.and_eq_true_iff.mp k2.2
      exact ⟨by simp [smD, ex_lay k2.1, ex_lay k3.1, ex_lay k3.2, k.1, PyData.canLay0, PyData.canLayAll0, ok_loop], by simp only [smD, PyData.depth, PyData.depthAll]; omega⟩
    | again x =>
      have k : PyData.strOk x = true := hn
      exact ⟨by simp [smD, k, PyData.canLay0, PyData.canLayAll0, ok_again], by simp [smD, PyData.depth, PyData.depthAll]⟩
    | _ => exact ⟨by simp [smD, PyData.canLay0, PyData.canLayAll0, ok_call, ok_back, ok_stop, ok_end], by simp [smD, PyData.depth, PyData.depthAll]⟩
  show ((smD st).canLay0 && decide ((smD st).depth ≤ 64)) = true
  rw [h.1, decide_eq_true h.2]
  rfl
theorem str_eqv (a b : Str) : PyData.eqv (.str a) (.str b) = decide (a = b) := by
  simp only [PyData.eqv]
  by_cases h : a = b
  · simp [h]
  · rw [decide_eq_false h]
    exact beq_eq_false_iff_ne.mpr h
theorem eqv_word {a b : Str} (h : ¬ a = b) (ds es : List PyData) : PyData.eqv (.tuple (.str a :: ds)) (.tuple (.str b :: es)) = false := by
  have e := str_eqv a b
  rw [decide_eq_false h] at e
  simp only [PyData.eqv, PyData.eqvAll] at e ⊢
  rw [e, Bool.false_and]
theorem eqv_again (st : Sm) (x : Str) : PyData.eqv (smD st) (.tuple [.str "again", .str x]) = isAg st x := by
  cases st with
  | again y =>
    have e := str_eqv y x
    have e1 := str_eqv "again" "again"
    rw [decide_eq_true rfl] at e1
    show PyData.eqv (.tuple [.str "again", .str y]) (.tuple [.str "again", .str x]) = decide (y = x)
    simp only [PyData.eqv, PyData.eqvAll] at e e1 ⊢
    rw [e, e1, Bool.true_and, Bool.and_true]
  | _ => exact eqv_word (by decide +kernel) _ _
theorem eqv_stop (st : Sm) : PyData.eqv (smD st) (.tuple [.str "stop"]) = decide (st = .stop) := by
  cases st with
  | stop =>
    have e1 := str_eqv "stop" "stop"
    rw [decide_eq_true rfl] at e1
    show PyData.eqv (.tuple [.str "stop"]) (.tuple [.str "stop"]) = decide (Sm.stop = .stop)
    simp only [PyData.eqv, PyData.eqvAll] at e1 ⊢
    rw [e1, Bool.true_and]
    rfl
  | _ => exact (eqv_word (by decide +kernel) _ _).trans (by simp)
theorem again_shaped {x : Str} (h : PyData.strOk x = true) : SeqAt.shaped (.tuple [.str "again", .str x]) = true := sm_shaped (st := .again x) h
theorem stop_shaped : SeqAt.shaped (.tuple [.str "stop"]) = true := sm_shaped (st := .stop) rfl
end K31
/-! the defs of loops and traps that read -/
namespace K31
open PySem PySem.Spec PyProof.Rows L2
section
variable {P : Program} {w : World} {K : PySem.W.Frag} {mg : Str → Option Value} {base : Heap}
def spIsNum : Sp := fun vs H Q _ => ∃ n : Int, vs = [.int n] ∧ Q (.bl true) H
theorem sc_is_number_loops : FnScope ["worth"] ["worth"] (defScope s_is_number_loops) :=
  ⟨rfl, rfl, rfl, by decide +kernel, rfl, by decide +kernel, by decide +kernel⟩
theorem gf_is_number_loops (T : Txt w K mg) : Gf P w K mg base 1 "is_number_loops" spIsNum := by
  have nd := sc_is_number_loops.nd
  refine gf_mk T.is_number_loops sc_is_number_loops (fun vs H Q E h => ?_) (fun _ _ _ _ _ _ us hl => match us, hl with | [_], _ => rfl) (fun f cdv A outer s H vs Q E hr h => ?_)
  · obtain ⟨n, rfl, q⟩ := h
    rfl
  obtain ⟨n, rfl, q⟩ := h
  have hu := hu_of hr
  refine ⟨_, (pss_one (ps_ret (pe_callB call_isi (by rfl) T.isinstance (by decide +kernel) (pa_cons (pv 0) (pa_cons (pe_bltn (v := .ty "int") (u := .type "int") (by rfl) T.int (by decide +kernel) rfl) pa_nil))))), ?_⟩
  exact ⟨_, rfl, .int n, .ty "int", .type "int", .type "int", true, rfl, .ty _, .base (.int _), (by rfl), q⟩
theorem sc_is_number_reckon : FnScope ["worth"] ["worth"] (defScope s_is_number_reckon) :=
  ⟨rfl, rfl, rfl, by decide +kernel, rfl, by decide +kernel, by decide +kernel⟩
theorem gf_is_number_reckon (T : Txt w K mg) : Gf P w K mg base 1 "is_number_reckon" spIsNum := by
  have nd := sc_is_number_reckon.nd
  refine gf_mk T.is_number_reckon sc_is_number_reckon (fun vs H Q E h => ?_) (fun _ _ _ _ _ _ us hl => match us, hl with | [_], _ => rfl) (fun f cdv A outer s H vs Q E hr h => ?_)
  · obtain ⟨n, rfl, q⟩ := h
    rfl
  obtain ⟨n, rfl, q⟩ := h
  have hu := hu_of hr
  refine ⟨_, (pss_one (ps_ret (pe_callB call_isi (by rfl) T.isinstance (by decide +kernel) (pa_cons (pv 0) (pa_cons (pe_bltn (v := .ty "int") (u := .type "int") (by rfl) T.int (by decide +kernel) rfl) pa_nil))))), ?_⟩
  exact ⟨_, rfl, .int n, .ty "int", .type "int", .type "int", true, rfl, .ty _, .base (.int _), (by rfl), q⟩
def spLineBehind (K : PySem.W.Frag) : Sp := fun vs H Q _ => ∃ (v : V) (p : Pr) (n : Int), vs = [v, .int n] ∧ IsPr K H v p ∧ Q (.int (lineBehind p n)) H
theorem sc_line_behind : FnScope ["program", "number", "other", "statement"] ["program", "number"] (defScope s_line_behind) :=
  ⟨rfl, rfl, rfl, by decide +kernel, rfl, by decide +kernel, by decide +kernel⟩
theorem gf_line_behind (T : Txt w K mg) : Gf P w K mg base 1 "line_behind" (spLineBehind K) := by
  have nd := sc_line_behind.nd
  refine gf_mk T.line_behind sc_line_behind (fun vs H Q E h => ?_) (fun _ _ _ _ _ _ us hl => match us, hl with | [_, _], _ => rfl) (fun f cdv A outer s H vs Q E hr h => ?_)
  · obtain ⟨v, p, n, rfl, hp, q⟩ := h
    rfl
  obtain ⟨v, p, n, rfl, hp, q⟩ := h
  have hu := hu_of hr
  refine ⟨_, (pss_cons (ps_for PassesOwn.never rfl (pi_tup (pv 0)) (pg_tup (n := 2) (by rfl) (pgs_cons (gN 2 nd) (pgs_cons (gN 3 nd) pgs_nil)))
      (pss_one (ps_if (pt_cmpR op_gt (pv 2) (pv 1) (nomark _))
        (pss_one (ps_ret (pv 2)))
        pss_nil)))
    (pss_one (ps_ret pe_int))), ?_⟩
  obtain ⟨a, xs, rfl, ht, hl, hds⟩ := hp.tup
  refine ⟨_, rfl, a, rfl, ⟨_, ht⟩, for_tup (K := K) (a := a) (xs := xs) (fun i σ H' => H' = H ∧ (∃ v1 v2, σ = [some (.ref a), some (.int n), v1, v2]) ∧ lineBehind p n = lineBehind (p.drop i) n) ⟨rfl, ⟨none, none, rfl⟩, rfl⟩ (fun i σ H' _ h => h.1 ▸ ht) ?_ ?_⟩
  · rintro i x σ H' hx ⟨rfl, ⟨v1, v2, rfl⟩, e⟩
    obtain ⟨l, hl', hd, hx'⟩ := line_at hds hx
    obtain ⟨la, u, rfl, hs, hu2⟩ := dp_line hx'
    rw [hd] at e
    refine ⟨la, _, rfl, hs, rfl, _, _, rfl, _, _, rfl, rfl, ?_⟩
    refine ⟨_, rfl, _, rfl, _, _, rfl, rfl, _, rfl, ?_⟩
    have e2 : lineBehind (l :: p.drop (i + 1)) n = if n < l.1 then l.1 else lineBehind (p.drop (i + 1)) n := rfl
    rw [e2] at e
    by_cases hc : n < l.1
    · rw [if_pos hc] at e
      rw [decide_eq_true (show l.1 > n from hc)]
      refine iteT ?_
      refine ⟨_, rfl, ?_⟩
      rw [← e]
      exact q
    · rw [if_neg hc] at e
      rw [decide_eq_false (show ¬ l.1 > n from hc)]
      exact iteF ⟨rfl, ⟨_, _, rfl⟩, e⟩
  · rintro σ H' ⟨rfl, ⟨v1, v2, rfl⟩, e⟩
    rw [hl, List.drop_length] at e
    show Q (.int 0) _
    have e0 : lineBehind p n = 0 := e
    rw [e0] at q
    exact q
theorem has_any : ∀ (p : Pr) (n : Int), hasLine p n = p.any (fun l => decide (l.1 = n))
  | [], _ => rfl
  | l :: r, n => by
    show (decide (l.1 = n) || hasLine r n) = _
    rw [has_any r n]
    rfl
def numsV (p : Pr) : List V := p.map fun l => V.int l.1
theorem nums_flat : ∀ p : Pr, (numsV p).all flatV = true
  | [] => rfl
  | l :: r => nums_flat r
theorem nums_in : ∀ (p : Pr) (n : Int), inV (.int n) (numsV p) = hasLine p n
  | [], _ => rfl
  | l :: r, n => by
    show ((l.1 == n) || inV (.int n) (numsV r)) = (decide (l.1 = n) || hasLine r n)
    rw [nums_in r n]
    by_cases h : l.1 = n
    · simp [h]
    · rw [decide_eq_false h, beq_eq_false_iff_ne.mpr h]
theorem nums_step {p : Pr} {i : Nat} {l : Int × Sm} (h : p[i]? = some l) : numsV (p.take (i + 1)) = numsV (p.take i) ++ [.int l.1] := by
  obtain ⟨hi, e⟩ := List.getElem?_eq_some_iff.mp h
  unfold numsV
  rw [List.take_succ_eq_append_getElem hi, List.map_append, e]
  rfl
def spHasLine (K : PySem.W.Frag) : Sp := fun vs H Q _ => ∃ (v : V) (p : Pr) (n : Int), vs = [v, .int n] ∧ IsPr K H v p ∧ ∀ H', Kx [] H H' → Q (.bl (hasLine p n)) H'
theorem sc_has_line : FnScope ["program", "number", "other", "statement"] ["program", "number"] (defScope s_has_line) :=
  ⟨rfl, rfl, rfl, by decide +kernel, rfl, by decide +kernel, by decide +kernel⟩
theorem gf_has_line (T : Txt w K mg) : Gf P w K mg base 1 "has_line" (spHasLine K) := by
  have nd := sc_has_line.nd
  refine gf_mk T.has_line sc_has_line (fun vs H Q E h => ?_) (fun _ _ _ _ _ _ us hl => match us, hl with | [_, _], _ => rfl) (fun f cdv A outer s H vs Q E hr h => ?_)
  · obtain ⟨v, p, n, rfl, hp, q⟩ := h
    rfl
  obtain ⟨v, p, n, rfl, hp, q⟩ := h
  have hu := hu_of hr
  refine ⟨_, (pss_one (ps_ret (pe_cmpR op_in_seq (pv 1) (pe_lc (own := [("other", 2), ("statement", 3)]) (g := (gTup K 2 (gCons (gName 2) (gCons (gName 3) gNil)))) (by rfl) nd (pi_tup (pv 0)) (blkOk_by (own := [("other", 2), ("statement", 3)]) (N := ["program", "number", "other", "statement"]) (sc := defScope s_has_line) (by decide +kernel)) (fun _ _ _ _ _ => (pg_tup (n := 2) (by rfl) (pgs_cons (gN 2 nd) (pgs_cons (gN 3 nd) pgs_nil)))) (fun _ _ _ _ _ => pts_nil) (fun _ _ _ _ _ => (pv 2))) (by rfl)))), ?_⟩
  obtain ⟨a, xs, rfl, ht, hl, hds⟩ := hp.tup
  have hfew := hp.few
  refine ⟨_, rfl, _, rfl, a, rfl, ⟨_, ht⟩, fun D hD => lc_tup (K := K) (a := a) (xs := xs) (fun i H' => Kx [] H H' ∧ H' D = some (.lst (numsV (p.take i)))) ⟨.new hD, upd_same⟩ (fun i H' _ h => h.1.sqT ht) ?_ ?_⟩
  · rintro i x H' hx ⟨k, hd⟩
    obtain ⟨l, hl', _, hx'⟩ := line_at hds hx
    obtain ⟨la, u, rfl, hs, hu2⟩ := dp_line (k.dp _ hx')
    refine ⟨la, _, rfl, hs, rfl, _, _, rfl, _, _, rfl, rfl, rfl, ?_⟩
    refine ⟨_, rfl, _, hd, ?_, ?_, ?_⟩
    · have e : (numsV (p.take i)).length ≤ 1000 := by
        unfold numsV
        rw [List.length_map, List.length_take]
        omega
      exact small1000 e
    · exact ⟨fun b o e n2 => by
        have nb : b ≠ D := ne_of_none e hD
        rw [upd_ne nb]
        exact k.at_ b o e n2, fun b e => by
        by_cases z : b = D
        · subst z; exact hD
        · rw [upd_ne z] at e; exact k.live b e⟩
    · rw [upd_same, nums_step hl']
  · rintro H' ⟨k, hd⟩
    rw [hl, List.take_length] at hd
    refine ⟨D, _, rfl, .inl (.inl (.inl hd)), rfl, nums_flat p, ?_⟩
    show Q (.bl (inV _ _)) _
    rw [nums_in]
    exact q _ k
def spAgainBehind (K : PySem.W.Frag) : Sp := fun vs H Q _ => ∃ (v : V) (p : Pr) (n : Int) (x : Str), vs = [v, .int n, .str x] ∧ IsPr K H v p ∧ PyData.strOk x = true ∧ ∀ H', Kx [] H H' → Q (optI (againBehind p n x)) H'
theorem sc_again_behind : FnScope ["program", "number", "name", "other", "statement"] ["program", "number", "name"] (defScope s_again_behind) :=
  ⟨rfl, rfl, rfl, by decide +kernel, rfl, by decide +kernel, by decide +kernel⟩
theorem gf_again_behind (T : Txt w K mg) : Gf P w K mg base 1 "again_behind" (spAgainBehind K) := by
  have nd := sc_again_behind.nd
  refine gf_mk T.again_behind sc_again_behind (fun vs H Q E h => ?_) (fun _ _ _ _ _ _ us hl => match us, hl with | [_, _, _], _ => rfl) (fun f cdv A outer s H vs Q E hr h => ?_)
  · obtain ⟨v, p, n, x, rfl, hp, hx0, q⟩ := h
    rfl
  obtain ⟨v, p, n, x, rfl, hp, hx0, q⟩ := h
  have hu := hu_of hr
  refine ⟨_, (pss_cons (ps_for PassesOwn.never rfl (pi_tup (pv 0)) (pg_tup (n := 2) (by rfl) (pgs_cons (gN 3 nd) (pgs_cons (gN 4 nd) pgs_nil)))
      (pss_one (ps_if (PW.pt (pw_and (pt_cmpR op_gt (pv 3) (pv 1) (nomark _)) (pw_and1 (pt_cmpR (op_eqD hr.units) (pv 4) (pe_tup (pa_cons pe_str (pa_cons (pv 2) pa_nil))) (nomark _)))))
        (pss_one (ps_ret (pv 3)))
        pss_nil)))
    (pss_one (ps_ret pe_non))), ?_⟩
  obtain ⟨a, xs, rfl, ht, hl, hds⟩ := hp.tup
  refine ⟨_, rfl, a, rfl, ⟨_, ht⟩, for_tup (K := K) (a := a) (xs := xs) (fun i σ H' => Kx [] H H' ∧ (∃ v1 v2, σ = [some (.ref a), some (.int n), some (.str x), v1, v2]) ∧ againBehind p n x = againBehind (p.drop i) n x) ⟨.refl _ _, ⟨none, none, rfl⟩, rfl⟩ (fun i σ H' _ h => h.1.sqT ht) ?_ ?_⟩
  · rintro i y σ H' hx ⟨k, ⟨v1, v2, rfl⟩, e⟩
    obtain ⟨l, hl', hd, hx'⟩ := line_at hds hx
    obtain ⟨la, u, rfl, hs, hu2⟩ := dp_line (k.dp _ hx')
    rw [hd] at e
    have e2 : againBehind (l :: p.drop (i + 1)) n x = if n < l.1 ∧ isAg l.2 x = true then some l.1 else againBehind (p.drop (i + 1)) n x := rfl
    rw [e2] at e
    refine ⟨la, _, rfl, hs, rfl, _, _, rfl, _, _, rfl, rfl, ?_⟩
    refine ⟨_, rfl, _, rfl, _, _, rfl, rfl, _, rfl, ?_⟩
    by_cases hc : n < l.1
    · rw [decide_eq_true (show l.1 > n from hc)]
      refine iteT ?_
      refine ⟨_, rfl, _, rfl, (by show 2 ≤ sizeLine; decide), fun t nt => ?_⟩
      have k2 : Kx [] H' (upd H' t (.tup [.str "again", .str x])) := .new nt
      refine ⟨smD l.2, _, k2.dp _ hu2, .tup (.inl (.inl upd_same)) (.cons (.str _) (.cons (.str _) .nil)), sm_shaped (hp.nm l (List.mem_of_getElem? hl')), again_shaped hx0, _, rfl, ?_⟩
      rw [eqv_again]
      cases ha : isAg l.2 x with
      | true =>
        rw [if_pos ⟨hc, ha⟩] at e
        refine iteT ?_
        refine ⟨_, rfl, ?_⟩
        have q2 := q _ (k.trans k2)
        rw [e] at q2
        exact q2
      | false =>
        rw [if_neg (fun z => by rw [ha] at z; cases z.2)] at e
        exact iteF ⟨k.trans k2, ⟨_, _, rfl⟩, e⟩
    · rw [if_neg (fun z => hc z.1)] at e
      rw [decide_eq_false (show ¬ l.1 > n from hc)]
      exact iteF (iteF ⟨k, ⟨_, _, rfl⟩, e⟩)
  · rintro σ H' ⟨k, ⟨v1, v2, rfl⟩, e⟩
    rw [hl, List.drop_length] at e
    have q2 := q _ k
    rw [e] at q2
    exact q2
def spIsBeyond : Sp := fun vs H Q _ => ∃ (v e c : Int), vs = [.int v, .int e, .int c] ∧ Q (.bl (beyond v e c)) H
theorem sc_is_beyond : FnScope ["worth", "end", "by"] ["worth", "end", "by"] (defScope s_is_beyond) :=
  ⟨rfl, rfl, rfl, by decide +kernel, rfl, by decide +kernel, by decide +kernel⟩
theorem gf_is_beyond (T : Txt w K mg) : Gf P w K mg base 1 "is_beyond" spIsBeyond := by
  have nd := sc_is_beyond.nd
  refine gf_mk T.is_beyond sc_is_beyond (fun vs H Q E h => ?_) (fun _ _ _ _ _ _ us hl => match us, hl with | [_, _, _], _ => rfl) (fun f cdv A outer s H vs Q E hr h => ?_)
  · obtain ⟨v, e, c, rfl, q⟩ := h
    rfl
  obtain ⟨v, e, c, rfl, q⟩ := h
  have hu := hu_of hr
  refine ⟨_, (pss_one (ps_ret (pe_ifExp (pt_cmpR op_gt (pv 2) pe_int (nomark _)) (pe_cmpR op_gt (pv 0) (pv 1) (nomark _)) (pe_cmpR op_lt (pv 0) (pv 1) (nomark _))))), ?_⟩
  refine ⟨_, rfl, _, _, rfl, rfl, _, rfl, ?_⟩
  unfold beyond at q
  by_cases hc : 0 < c
  · rw [if_pos hc] at q
    rw [decide_eq_true (show c > 0 from hc)]
    exact iteT ⟨_, rfl, _, rfl, _, _, rfl, rfl, q⟩
  · rw [if_neg hc] at q
    rw [decide_eq_false (show ¬ c > 0 from hc)]
    exact iteF ⟨_, rfl, _, rfl, _, _, rfl, rfl, q⟩
end
end K31
/-! the defs of loops -/
namespace K31
open PySem PySem.Spec PyProof.Rows L2
section
variable {P : Program} {w : World} {K : PySem.W.Frag} {mg : Str → Option Value} {base : Heap}
theorem dp_fr {H : Hp} {v : V} {fr : Fr} (h : Dp K H v (frD fr)) : ∃ a, v = .ref a ∧ SqT K H a (match fr with
    | .call n => [.str "call", .int n]
    | .loop x n b c => [.str "loop", .str x, .int n, .int b, .int c]) := by
  cases fr with
  | call n =>
    obtain ⟨a, xs, rfl, hs, h⟩ := dp_tup h
    obtain ⟨v1, r, rfl, h1, h⟩ := dpa_cons h
    obtain ⟨v2, r, rfl, h2, h⟩ := dpa_cons h
    cases dpa_nil h
    cases dp_str h1
    cases dp_int h2
    exact ⟨a, rfl, hs⟩
  | loop x n b c =>
    obtain ⟨a, xs, rfl, hs, h⟩ := dp_tup h
    obtain ⟨v1, r, rfl, h1, h⟩ := dpa_cons h
    obtain ⟨v2, r, rfl, h2, h⟩ := dpa_cons h
    obtain ⟨v3, r, rfl, h3, h⟩ := dpa_cons h
    obtain ⟨v4, r, rfl, h4, h⟩ := dpa_cons h
    obtain ⟨v5, r, rfl, h5, h⟩ := dpa_cons h
    cases dpa_nil h
    cases dp_str h1
    cases dp_str h2
    cases dp_int h3
    cases dp_int h4
    cases dp_int h5
    exact ⟨a, rfl, hs⟩
theorem frame_at {H : Hp} {xs : List V} {l : List Fr} (h : DpAll K H xs (l.map frD)) {i : Nat} (hi : i < l.length) : ∃ x, xs[i]? = some x ∧ Dp K H x (frD l[i]) := by
  obtain ⟨x, e, h⟩ := dpa_at h i (frD l[i]) (by rw [List.getElem?_map, List.getElem?_eq_getElem hi]; rfl)
  exact ⟨x, e, h⟩
theorem closed_step {pile : List Fr} {x : Str} {k : Nat} (hk : k < pile.length) : closedAt pile x (k + 1) = match pile[k] with
    | .loop y _ _ _ => if y = x then some k else closedAt pile x k
    | .call _ => none := by
  show (match pile[k]? with
    | some (.loop y _ _ _) => if y = x then some k else closedAt pile x k
    | _ => none) = _
  rw [List.getElem?_eq_getElem hk]
  cases pile[k] <;> rfl
def spClosedBy (K : PySem.W.Frag) : Sp := fun vs H Q _ => ∃ (v : V) (pile : List Fr) (x : Str), vs = [v, .str x] ∧ Dp K H v (pileD pile) ∧ pile.length ≤ 50 ∧
  ∀ H' r, Kx [] H H' → (match closedAt pile x pile.length with
    | none => r = .non
    | some k => k ≤ pile.length ∧ Dp K H' r (pileD (pile.take k))) → Q r H'
theorem sc_closed_by : FnScope ["pile", "name", "at", "word", "first", "rest"] ["pile", "name"] (defScope s_closed_by) :=
  ⟨rfl, rfl, rfl, by decide +kernel, rfl, by decide +kernel, by decide +kernel⟩
theorem gf_closed_by (T : Txt w K mg) : Gf P w K mg base 1 "closed_by" (spClosedBy K) := by
  have nd := sc_closed_by.nd
  refine gf_mk T.closed_by sc_closed_by (fun vs H Q E h => ?_) (fun _ _ _ _ _ _ us hl => match us, hl with | [_, _], _ => rfl) (fun f cdv A outer s H vs Q E hr h => ?_)
  · obtain ⟨v, pile, x, rfl, hp, hz, q⟩ := h
    rfl
  obtain ⟨v, pile, x, rfl, hp, hz, q⟩ := h
  have hu := hu_of hr
  refine ⟨_, (pss_cons (ps_for PassesOwn.never rfl (pi_range3 (by rfl) T.range (pa_cons (pe_op op_sub (pe_callB call_len_seq (by rfl) T.len boot_len (pa_cons (pv 0) pa_nil)) pe_int) (pa_cons (pe_un un_neg pe_int) (pa_cons (pe_un un_neg pe_int) pa_nil)))) (gN 2 nd)
      (pss_cons (ps_asg (pe_ix (r := rIxT K) ix_tup (pv 0) (pv 2) (fun _ _ => rfl)) (pg_star (i := 2) (by rfl) (pgs_cons (gN 3 nd) (pgs_cons (gN 4 nd) (pgs_star (gN 5 nd))))))
      (pss_cons (ps_if (pt_cmpR op_eq (pv 3) pe_str (nomark _))
        (pss_one (ps_ret pe_non))
        pss_nil)
      (pss_one (ps_if (pt_cmpR op_eq (pv 4) (pv 1) (nomark _))
        (pss_one (ps_ret (pe_slice sl_tupA (pv 0) po_none (po_some (pv 2)))))
        pss_nil)))))
    (pss_one (ps_ret pe_non))), ?_⟩
  obtain ⟨a, xs, rfl, ht, hds⟩ := dp_tup hp
  have hl : xs.length = pile.length := by rw [dpa_len hds, List.length_map]
  have hn : (((xs.length : Int) - 1) - (-1)).toNat = pile.length := by omega
  have rg : RgC ((xs.length : Int) - 1) (-1) (-1) pile.length := by
    have r := RgC.neg (i := (xs.length : Int) - 1) (j := -1) (by omega) (by omega) (by decide) (by decide)
    rw [hn] at r
    exact r
  refine ⟨_, rfl, a, xs, rfl, .inr ht, _, _, rfl, rfl, _, rfl, _, rfl, _, _, _, _, rfl, rg, for_rangeC (Pv := fun i σ H' => Kx [] H H' ∧ (∃ v1 v2 v3 v4, σ = [some (.ref a), some (.str x), v1, v2, v3, v4]) ∧ closedAt pile x (pile.length - i) = closedAt pile x pile.length) ⟨.refl _ _, ⟨none, none, none, none, rfl⟩, rfl⟩ ?_ ?_⟩
  · rintro i σ H' hi ⟨k, ⟨v1, v2, v3, v4, rfl⟩, e⟩
    obtain ⟨j, hj⟩ : ∃ j, pile.length - i = j + 1 := ⟨pile.length - i - 1, by omega⟩
    have hjl : j < pile.length := by omega
    have ej : (xs.length : Int) - 1 + (i : Nat) * (-1) = (j : Int) := by omega
    rw [ej]
    rw [hj, closed_step hjl] at e
    obtain ⟨y, hy, hd⟩ := frame_at hds hjl
    have hd' := k.dp _ hd
    refine ⟨_, rfl, _, rfl, a, xs, _, y, rfl, rfl, k.sqT ht, atI_nat hy, ?_⟩
    cases hf : pile[j] with
    | call m =>
      rw [hf] at e hd'
      obtain ⟨b, rfl, hs⟩ := dp_fr hd'
      refine ⟨b, _, rfl, hs, (by show 2 ≤ 2; decide), fun p np => ?_⟩
      refine ⟨_, _, rfl, _, _, rfl, _, _, rfl, rfl, ?_⟩
      refine ⟨_, rfl, rfl, _, rfl, ?_⟩
      rw [decST]
      refine iteT ?_
      refine q _ _ (k.trans (.new np)) ?_
      rw [← e]
    | loop y' n b c =>
      rw [hf] at e hd'
      obtain ⟨b', rfl, hs⟩ := dp_fr hd'
      refine ⟨b', _, rfl, hs, (by show 2 ≤ 5; decide), fun p np => ?_⟩
      refine ⟨_, _, rfl, _, _, rfl, _, _, rfl, rfl, ?_⟩
      refine ⟨_, rfl, rfl, _, rfl, ?_⟩
      rw [decS (show ¬ ("loop" : Str) = "call" by decide +kernel)]
      refine iteF ?_
      refine ⟨_, rfl, _, rfl, rfl, _, rfl, ?_⟩
      have k2 : Kx [] H' (upd H' p (.lst (List.drop 2 [.str "loop", .str y', .int n, .int b, .int c]))) := .new np
      by_cases hc : y' = x
      · subst hc
        rw [decST]
        refine iteT ?_
        have e' : some j = closedAt pile y' pile.length := by rw [← e]; simp
        refine ⟨_, rfl, _, rfl, _, rfl, ?_⟩
        refine sl_take ((k.trans k2).dp _ hp) (by rw [List.length_map]; omega) fun H2 r k3 hr2 => ?_
        refine q _ _ ((k.trans k2).trans k3) ?_
        rw [← e']
        refine ⟨by omega, ?_⟩
        rw [← List.map_take] at hr2
        exact hr2
      · rw [decS hc]
        refine iteF ⟨k.trans k2, ⟨_, _, _, _, rfl⟩, ?_⟩
        rw [← e]
        simp only [hc, if_false]
        congr 1
        omega
  · rintro σ H' ⟨k, ⟨v1, v2, v3, v4, rfl⟩, e⟩
    refine q _ _ k ?_
    rw [← e, Nat.sub_self]
    rfl
def spGoBehind (K : PySem.W.Frag) : Sp := fun vs H Q _ => ∃ (v : V) (p : Pr) (d : Addr) (k : Kn) (s : Sx) (n : Int), vs = [v, .ref d, .int n] ∧ IsPr K H v p ∧ KnS K H d k s ∧
  ∀ H', Kx [d, k.bd] H H' → KnS K H' d k (goBehind p s n) → Q .non H'
theorem sc_go_behind : FnScope ["program", "known", "number"] ["program", "known", "number"] (defScope s_go_behind) :=
  ⟨rfl, rfl, rfl, by decide +kernel, rfl, by decide +kernel, by decide +kernel⟩
theorem gf_go_behind (T : Txt w K mg) : Gf P w K mg base 2 "go_behind" (spGoBehind K) := by
  have nd := sc_go_behind.nd
  refine gf_mk T.go_behind sc_go_behind (fun vs H Q E h => ?_) (fun _ _ _ _ _ _ us hl => match us, hl with | [_, _, _], _ => rfl) (fun f cdv A outer s H vs Q E hr h => ?_)
  · obtain ⟨v, p, d, k, s, n, rfl, hp, S, q⟩ := h
    rfl
  obtain ⟨v, p, d, k, s, n, rfl, hp, S, q⟩ := h
  have hu := hu_of hr
  have G_line_behind := (gf_line_behind (P := P) (base := base) T)
  refine ⟨_, (pss_cons (ps_dput hu (pv 1) pe_str (pe_callG G_line_behind (hr.mono (by decide)) (pa_cons (pv 0) (pa_cons (pv 2) pa_nil))) rfl)
    (pss_one (ps_if (pt_cmpR op_eq (pe_dget hu (pv 1) pe_str (fun _ _ => rfl)) pe_int (nomark _))
      (pss_one (ps_dput hu (pv 1) pe_str pe_str rfl))
      pss_nil))), ?_⟩
  refine ⟨_, rfl, _, rfl, v, p, n, rfl, hp, ?_⟩
  refine ⟨_, rfl, d, _, rfl, dput (k := Sum.inr "at") S.dk (kv_len _ _ _), ?_⟩
  have S1 := S.setAt (lineBehind p n)
  have k1 := S.kput (putK (kvOf s.stand s.at_ k) (Sum.inr "at") (.int (lineBehind p n)))
  refine ⟨_, rfl, d, _, rfl, dget (k := Sum.inr "at") S1.dk (kv_at _ _ _), rfl, _, rfl, ?_⟩
  rw [decI]
  by_cases hz : lineBehind p n = 0
  · rw [decide_eq_true hz]
    refine iteT ?_
    refine ⟨_, rfl, d, _, rfl, dput (k := Sum.inr "stand") S1.dk (kv_len _ _ _), ?_⟩
    have S2 := S1.setStand "ended"
    have k2 := S1.kput (putK (kvOf s.stand (lineBehind p n) k) (Sum.inr "stand") (.str "ended"))
    refine q _ (k1.trans k2) ?_
    have e : goBehind p s n = { s with at_ := lineBehind p n, stand := "ended" } := by unfold goBehind; rw [if_pos hz]
    rw [e]
    exact S2
  · rw [decide_eq_false hz]
    refine iteF ?_
    refine q _ k1 ?_
    have e : goBehind p s n = { s with at_ := lineBehind p n } := by unfold goBehind; rw [if_neg hz]
    rw [e]
    exact S1
end
end K31
/-! a loop begun, a loop again -/
namespace K31
open PySem PySem.Spec PyProof.Rows L2
section
variable {P : Program} {w : World} {K : PySem.W.Frag} {mg : Str → Option Value} {base : Heap}
theorem left_of_none {pile : List Fr} {x : Str} (h : closedAt pile x pile.length = none) : leftOf pile x = pile := by unfold leftOf; rw [h]
theorem left_of_some {pile : List Fr} {x : Str} {k : Nat} (h : closedAt pile x pile.length = some k) : leftOf pile x = pile.take k := by unfold leftOf; rw [h]
theorem left_len (pile : List Fr) (x : Str) : (leftOf pile x).length ≤ pile.length := by
  unfold leftOf
  split
  · rw [List.length_take]; exact Nat.min_le_right _ _
  · exact Nat.le_refl _
theorem pile_snoc {H : Hp} {v : V} {l : List Fr} {f : Fr} {u : V} (h : Dp K H v (pileD l)) : True := trivial
/-- what a def that does a line promises: sp' tells its arguments -/
def Did (K : PySem.W.Frag) (H : Hp) (d : Addr) (k : Kn) (s' : Sx) (r : Option Str) (Q : VK) : Prop := ∀ H' k', Kx [d, k.bd] H H' → k'.bd = k.bd → KnS K H' d k' s' → Q (optS r) H'
def spLoopBegun (K : PySem.W.Frag) : Sp := fun vs H Q _ => ∃ (v : V) (p : Pr) (d : Addr) (k : Kn) (s : Sx) (lv : V) (wa : Addr) (n : Int) (x : Str) (ea eb ec : Ex) (a b c : Int) (s' : Sx) (r : Option Str), vs = [v, .ref d, lv, .ref wa] ∧ IsPr K H v p ∧ KnS K H d k s ∧
  Dp K H lv (lineD (n, .loop x ea eb ec)) ∧ SqT K H wa [.int a, .int b, .int c] ∧ PyData.strOk x = true ∧ loopBegun p s n x a b c = some (s', r) ∧ Did K H d k s' r Q
theorem sc_loop_begun : FnScope ["program", "known", "line", "worths", "closed", "left", "closing", "number", "start", "end", "by", "word", "name", "expressions", "worth"] ["program", "known", "line", "worths"] (defScope s_loop_begun) :=
  ⟨rfl, rfl, rfl, by decide +kernel, rfl, by decide +kernel, by decide +kernel⟩
theorem gf_loop_begun (T : Txt w K mg) : Gf P w K mg base 3 "loop_begun" (spLoopBegun K) := by
  have nd := sc_loop_begun.nd
  refine gf_mk T.loop_begun sc_loop_begun (fun vs H Q E h => ?_) (fun _ _ _ _ _ _ us hl => match us, hl with | [_, _, _, _], _ => rfl) (fun f cdv A outer s H vs Q E hr h => ?_)
  · obtain ⟨v, p, d, k, s, lv, wa, n, x, ea, eb, ec, a, b, c, s1, r, rfl, hp, S, hl, hw, hx, hm, q⟩ := h
    rfl
  obtain ⟨v, p, d, k, s, lv, wa, n, x, ea, eb, ec, a, b, c, s1, r, rfl, hp, S, hl, hw, hx, hm, q⟩ := h
  have hu := hu_of hr
  have G_line_behind := (gf_line_behind (P := P) (base := base) T)
  have G_is_number_loops := (gf_is_number_loops (P := P) (base := base) T)
  have G_closed_by := (gf_closed_by (P := P) (base := base) T)
  have G_again_behind := (gf_again_behind (P := P) (base := base) T)
  have G_is_beyond := (gf_is_beyond (P := P) (base := base) T)
  have G_go_behind := (gf_go_behind (P := P) (base := base) T)
  obtain ⟨_, g_MOST_FRAMES⟩ := T.frames
  obtain ⟨_, g_MOST_NUMBER_loops⟩ := T.great1
  refine ⟨_, (pss_cons (ps_asg (pv 2) (pg_tup (n := 2) (by rfl) (pgs_cons (gN 7 nd) (pgs_cons (pg_star (i := 2) (by rfl) (pgs_cons (gN 11 nd) (pgs_cons (gN 12 nd) (pgs_star (gN 13 nd))))) pgs_nil))))
    (pss_cons (ps_if (pt_not (pt_val (pe_callB (cr_all rfl) (by rfl) T.all (by decide +kernel) (pa_cons (pe_lc (own := [("worth", 14)]) (g := (gName 14)) (by rfl) nd (pi_tup (pv 3)) (blkOk_by (own := [("worth", 14)]) (N := ["program", "known", "line", "worths", "closed", "left", "closing", "number", "start", "end", "by", "word", "name", "expressions", "worth"]) (sc := defScope s_loop_begun) (by decide +kernel)) (fun _ _ _ _ _ => (gN 14 nd)) (fun _ _ _ _ _ => pts_nil) (fun _ _ _ _ _ => (pe_callG G_is_number_loops (hr.mono (by decide)) (pa_cons (pv 14) pa_nil)))) pa_nil))))
      (pss_one (ps_ret pe_str))
      pss_nil)
    (pss_cons (ps_asg (pv 3) (pg_tup (n := 3) (by rfl) (pgs_cons (gN 8 nd) (pgs_cons (gN 9 nd) (pgs_cons (gN 10 nd) pgs_nil)))))
    (pss_cons (ps_if (pt_cmpR op_eq (pv 10) pe_int (nomark _))
      (pss_one (ps_ret pe_str))
      pss_nil)
    (pss_cons (sT 4 nd (pe_callG G_closed_by (hr.mono (by decide)) (pa_cons (pe_dget hu (pv 1) pe_str (fun _ _ => rfl)) (pa_cons (pv 12) pa_nil))))
    (pss_cons (sT 5 nd (pe_ifExp (pt_cmpR op_isN (pv 4) pe_non (nomark _)) (pe_dget hu (pv 1) pe_str (fun _ _ => rfl)) (pv 4)))
    (pss_cons (sT 6 nd (pe_callG G_again_behind (hr.mono (by decide)) (pa_cons (pv 0) (pa_cons (pv 7) (pa_cons (pv 12) pa_nil)))))
    (pss_cons (ps_if (pt_not (pt_val (pe_callG G_is_beyond (hr.mono (by decide)) (pa_cons (pv 8) (pa_cons (pv 9) (pa_cons (pv 10) pa_nil))))))
      (pss_cons (ps_if (pt_cmpR op_ge (pe_callB call_len_seq (by rfl) T.len boot_len (pa_cons (pv 5) pa_nil)) (pe_globI g_MOST_FRAMES) (nomark _))
        (pss_one (ps_ret pe_str))
        pss_nil)
      (pss_cons (ps_dput hu (pv 1) pe_str (pe_op op_catA (pv 5) (pe_tup (pa_cons (pe_tup (pa_cons pe_str (pa_cons (pv 12) (pa_cons (pv 7) (pa_cons (pv 9) (pa_cons (pv 10) pa_nil)))))) pa_nil))) rfl)
      (pss_one (ps_expr (pe_callG G_go_behind (hr.mono (by decide)) (pa_cons (pv 0) (pa_cons (pv 1) (pa_cons (pv 7) pa_nil))))))))
      (pss_one (ps_if (pt_cmpR op_isN (pv 6) pe_non (nomark _))
        (pss_one (ps_ret pe_str))
        (pss_cons (ps_dput hu (pv 1) pe_str (pv 5) rfl)
        (pss_one (ps_expr (pe_callG G_go_behind (hr.mono (by decide)) (pa_cons (pv 0) (pa_cons (pv 1) (pa_cons (pv 6) pa_nil))))))))))
    (pss_cons (ps_dput hu (pe_dget hu (pv 1) pe_str (fun _ _ => rfl)) (pv 12) (pv 8) rfl)
    (pss_one (ps_ret pe_non))))))))))), ?_⟩
  simp only [cxK, cxK2, L2.start, List.map, List.length, List.replicate, List.append, HAppend.hAppend, Append.append]
  obtain ⟨la, u, rfl, hs, hu2⟩ := dp_line hl
  obtain ⟨sa, v1, v2, v3, rfl, hss, _, _, _⟩ := dp_loop hu2
  refine ⟨_, rfl, la, _, rfl, hs, rfl, _, _, rfl, _, _, rfl, ?_⟩
  refine ⟨sa, _, rfl, hss, (by show 2 ≤ 5; decide), fun rp nrp => ?_⟩
  refine ⟨_, _, rfl, _, _, rfl, _, _, rfl, rfl, rfl, ?_⟩
  have k1 : Kx [] H (upd H rp (.lst (List.drop 2 [.str "loop", .str x, v1, v2, v3]))) := .new nrp
  generalize upd H rp (.lst (List.drop 2 [.str "loop", .str x, v1, v2, v3])) = H1 at k1 ⊢
  refine ⟨_, rfl, wa, rfl, ⟨_, k1.sqT hw⟩, fun D hD => lc_tup (K := K) (a := wa) (xs := [.int a, .int b, .int c]) (fun i H' => Kx [] H1 H' ∧ H' D = some (.lst (List.replicate i (.bl true)))) ⟨.new hD, upd_same⟩ (fun i H' _ h => h.1.sqT (k1.sqT hw)) ?_ ?_⟩
  · rintro i y H' hy ⟨k2, hd⟩
    have hi : i < 3 := (List.getElem?_eq_some_iff.mp hy).1
    obtain ⟨z, rfl⟩ : ∃ z, y = .int z := by
      match i, hi, hy with
      | 0, _, hy => exact ⟨a, (Option.some.inj hy).symm⟩
      | 1, _, hy => exact ⟨b, (Option.some.inj hy).symm⟩
      | 2, _, hy => exact ⟨c, (Option.some.inj hy).symm⟩
    refine ⟨rfl, _, rfl, z, rfl, _, hd, ?_, k2.grow hD, ?_⟩
    · rw [List.length_replicate]
      exact small1000 (by omega)
    · rw [upd_same, List.replicate_succ']
  · rintro H2 ⟨k2, hd⟩
    refine ⟨D, [true, true, true], rfl, .inl (.inl hd), _, rfl, ?_⟩
    refine iteF ?_
    simp only [List.set]
    have k12 : Kx [] H H2 := k1.trans k2
    refine ⟨_, rfl, wa, _, rfl, k12.sqT hw, rfl, _, _, rfl, _, _, rfl, _, _, rfl, rfl, ?_⟩
    refine ⟨_, rfl, rfl, _, rfl, ?_⟩
    rw [decI]
    unfold loopBegun at hm
    have hc : ¬ c = 0 := fun z => by rw [if_pos (.inl z)] at hm; cases hm
    have hb : s.boxes.length < 60 := by
      by_cases z : 60 ≤ s.boxes.length
      · rw [if_pos (.inr z)] at hm; cases hm
      · omega
    rw [if_neg (fun z => z.elim hc fun z => by omega)] at hm
    rw [decide_eq_false hc]
    refine iteF ?_
    have S2 := S.keep0 k12
    refine ⟨_, rfl, d, _, rfl, dget (k := Sum.inr "pile") S2.dk (kv_pile _ _ _), _, rfl, k.pile, s.pile, x, rfl, S2.pile, S2.small.p, fun H3 r1 k3 hr1 => ?_⟩
    have k13 := k12.trans k3
    have S3 := S2.keep0 k3
    have hleft : ∃ lv, Dp K H3 lv (pileD (leftOf s.pile x)) ∧ ((r1 = .non ∧ lv = k.pile) ∨ (¬ r1 = .non ∧ lv = r1)) := by
      cases hcl : closedAt s.pile x s.pile.length with
      | none =>
        rw [hcl] at hr1
        rw [left_of_none hcl]
        exact ⟨k.pile, S3.pile, .inl ⟨hr1, rfl⟩⟩
      | some j =>
        rw [hcl] at hr1
        rw [left_of_some hcl]
        refine ⟨r1, hr1.2, .inr ⟨?_, rfl⟩⟩
        obtain ⟨_, _, e, _⟩ := dp_tup hr1.2
        rw [e]
        exact fun z => nomatch z
    obtain ⟨lv, hlv, hor⟩ := hleft
    have hll : (leftOf s.pile x).length ≤ 50 := Nat.le_trans (left_len _ _) S.small.p
    refine ⟨_, rfl, rfl, _, rfl, ?_⟩
    simp only [List.set]
    refine ite_val lv (fun e Q2 q2 => ?_) (fun e Q2 q2 => ?_) ?_
    · rcases hor with ⟨_, e2⟩ | ⟨e1, _⟩
      · subst e2
        exact ⟨_, rfl, d, _, rfl, dget (k := Sum.inr "pile") S3.dk (kv_pile _ _ _), q2⟩
      · exact absurd (of_decide_eq_true e) e1
    · rcases hor with ⟨e1, _⟩ | ⟨_, e2⟩
      · exact absurd e1 (of_decide_eq_false e)
      · subst e2
        exact ⟨_, rfl, q2⟩
    refine ⟨_, rfl, _, rfl, _, rfl, v, p, n, x, rfl, k13.pr hp, hx, fun H4 k4 => ?_⟩
    have k14 := k13.trans k4
    have S4 := S3.keep0 k4
    simp only [List.set]
    refine ⟨_, rfl, _, rfl, _, rfl, a, b, c, rfl, _, rfl, ?_⟩
    cases hbe : beyond a b c with
    | false =>
      rw [hbe, if_pos rfl] at hm
      refine iteT ?_
      have h50 : (leftOf s.pile x).length < 50 := by
        by_cases z : (leftOf s.pile x).length < 50
        · exact z
        · rw [if_neg z] at hm; cases hm
      rw [if_pos h50] at hm
      obtain ⟨rfl, rfl⟩ : goBehind p { s with pile := leftOf s.pile x ++ [.loop x n b c], boxes := putB s.boxes x a } n = s1 ∧ (none : Option Str) = r := by
        have e := Option.some.inj hm
        exact ⟨congrArg Prod.fst e, congrArg Prod.snd e⟩
      obtain ⟨pa, pxs, rfl, hpt, hpd⟩ := dp_tup (k4.dp _ hlv)
      have hpl : pxs.length = (leftOf s.pile x).length := by rw [dpa_len hpd, List.length_map]
      refine ⟨_, rfl, pa, pxs, rfl, .inr hpt, _, _, rfl, rfl, _, rfl, ?_⟩
      rw [decide_eq_false (show ¬ (pxs.length : Int) ≥ 50 by omega)]
      refine iteF ?_
      refine ⟨_, rfl, _, rfl, _, rfl, _, rfl, _, rfl, (by show 5 ≤ sizeLine; decide), fun t nt => ?_⟩
      refine ⟨(by show 1 ≤ sizeLine; decide), fun t2 nt2 => ?_⟩
      have k5 : Kx [] H4 (upd H4 t (.tup [.str "loop", .str x, .int n, .int b, .int c])) := .new nt
      have D5 : Dp K (upd H4 t (.tup [.str "loop", .str x, .int n, .int b, .int c])) (.ref t) (frD (.loop x n b c)) := tup_new nt (.cons (.str _) (.cons (.str _) (.cons (.int _) (.cons (.int _) (.cons (.int _) .nil)))))
      generalize upd H4 t (.tup [.str "loop", .str x, .int n, .int b, .int c]) = H5 at k5 D5 nt2 ⊢
      have k6 : Kx [] H5 (upd H5 t2 (.tup [.ref t])) := .new nt2
      have D6 : Dp K (upd H5 t2 (.tup [.ref t])) (.ref t2) (pileD [.loop x n b c]) := tup_new nt2 (.cons D5 .nil)
      refine cat_dp (ds := (leftOf s.pile x).map frD) (es := [frD (.loop x n b c)]) ((k5.trans k6).dp _ (k4.dp _ hlv)) D6 ?_ fun H7 r7 k7 D7 => ?_
      · rw [List.length_map]
        show (leftOf s.pile x).length + 1 ≤ sizeLine
        rw [sizeLine_eq]
        omega
      have k47 := (k5.trans k6).trans k7
      have S7 := S4.keep0 k47
      have D7' : Dp K H7 r7 (pileD (leftOf s.pile x ++ [.loop x n b c])) := by
        unfold pileD
        rw [List.map_append]
        exact D7
      refine ⟨_, rfl, d, _, rfl, dput (k := Sum.inr "pile") S7.dk (kv_len _ _ _), ?_⟩
      have S8 := S7.setPile D7' (by rw [List.length_append]; show _ + 1 ≤ 50; omega)
      have k8 := (S7.kput (putK (kvOf s.stand s.at_ k) (Sum.inr "pile") r7))
      refine ⟨_, rfl, _, rfl, _, rfl, v, p, d, _, _, n, rfl, (((k14.trans k47).sub (fun _ z => nomatch z)).trans k8).pr hp, S8, fun H9 k9 S9 => ?_⟩
      refine ⟨_, rfl, ⟨_, rfl, d, _, rfl, dget (k := Sum.inr "boxes") S9.dk (kv_boxes _ _ _), _, rfl, _, _, rfl, dput (k := Sum.inr x) S9.bx (bxs_len S9.small.b), ?_⟩⟩
      have S10 := S9.setBox x a hb
      refine q _ { k with pile := r7 } ((((((k14.trans k47).sub (fun _ z => nomatch z)).trans k8).trans k9)).trans (S9.bput _)) rfl ?_
      exact S10
    | true =>
      rw [hbe, if_neg (fun z => nomatch z)] at hm
      refine iteF ?_
      cases hag : againBehind p n x with
      | none =>
        rw [hag] at hm
        obtain ⟨rfl, rfl⟩ : s = s1 ∧ some ("again" : Str) = r := by
          have e := Option.some.inj hm
          exact ⟨congrArg Prod.fst e, congrArg Prod.snd e⟩
        refine ⟨_, rfl, rfl, _, rfl, ?_⟩
        refine iteT ?_
        exact q _ k (k14.sub (fun _ z => nomatch z)) rfl S4
      | some m =>
        rw [hag] at hm
        obtain ⟨rfl, rfl⟩ : goBehind p { s with pile := leftOf s.pile x, boxes := putB s.boxes x a } m = s1 ∧ (none : Option Str) = r := by
          have e := Option.some.inj hm
          exact ⟨congrArg Prod.fst e, congrArg Prod.snd e⟩
        refine ⟨_, rfl, rfl, _, rfl, ?_⟩
        refine iteF ?_
        refine ⟨_, rfl, _, rfl, d, _, rfl, dput (k := Sum.inr "pile") S4.dk (kv_len _ _ _), ?_⟩
        have S8 := S4.setPile (k4.dp _ hlv) hll
        have k8 := (S4.kput (putK (kvOf s.stand s.at_ k) (Sum.inr "pile") lv))
        refine ⟨_, rfl, _, rfl, _, rfl, v, p, d, _, _, m, rfl, ((k14.sub (fun _ z => nomatch z)).trans k8).pr hp, S8, fun H9 k9 S9 => ?_⟩
        refine ⟨_, rfl, ⟨_, rfl, d, _, rfl, dget (k := Sum.inr "boxes") S9.dk (kv_boxes _ _ _), _, rfl, _, _, rfl, dput (k := Sum.inr x) S9.bx (bxs_len S9.small.b), ?_⟩⟩
        have S10 := S9.setBox x a hb
        refine q _ { k with pile := lv } ((((k14.sub (fun _ z => nomatch z)).trans k8).trans k9).trans (S9.bput _)) rfl ?_
        exact S10
end
end K31
/-! a loop again -/
namespace K31
open PySem PySem.Spec PyProof.Rows L2
section
variable {P : Program} {w : World} {K : PySem.W.Frag} {mg : Str → Option Value} {base : Heap}
theorem look_val {bs : List (Str × Int)} {x : Str} {v : Int} (h : look bs x = some v) : valV (bxs bs) (Sum.inr x) = some (.int v) := by rw [bxs_val, h]; rfl
theorem look_put : ∀ (bs : List (Str × Int)) (x : Str) (n : Int), look (putB bs x n) x = some n := by
  intro bs x n
  have gen : ∀ l : List (Str × Int), (look l x).isSome = true → look (l.map fun p => if p.1 = x then (p.1, n) else p) x = some n := by
    intro l
    induction l with
    | nil => intro h; cases h
    | cons p r ih =>
      intro h
      unfold look at h
      rw [List.map_cons]
      unfold look
      by_cases e : p.1 = x
      · simp [e]
      · rw [if_neg e] at h ⊢
        rw [if_neg e]
        exact ih h
  have app : ∀ l : List (Str × Int), look l x = none → look (l ++ [(x, n)]) x = some n := by
    intro l
    induction l with
    | nil => intro _; show (if x = x then some n else none) = some n; rw [if_pos rfl]
    | cons p r ih =>
      intro h
      unfold look at h
      rw [List.cons_append]
      unfold look
      by_cases e : p.1 = x
      · rw [if_pos e] at h; cases h
      · rw [if_neg e] at h ⊢
        exact ih h
  unfold putB
  cases h : look bs x with
  | none => exact app bs h
  | some m => exact gen bs (by rw [h]; rfl)
def spLoopAgain (K : PySem.W.Frag) : Sp := fun vs H Q _ => ∃ (v : V) (p : Pr) (d : Addr) (k : Kn) (s : Sx) (lv : V) (n : Int) (x : Str) (s' : Sx) (r : Option Str), vs = [v, .ref d, lv] ∧ IsPr K H v p ∧ KnS K H d k s ∧
  Dp K H lv (lineD (n, .again x)) ∧ loopAgain p s n x = some (s', r) ∧ Did K H d k s' r Q
theorem sc_loop_again : FnScope ["program", "known", "line", "left", "frame", "worth", "is_over", "number", "word", "same", "begun", "end", "by", "name"] ["program", "known", "line"] (defScope s_loop_again) :=
  ⟨rfl, rfl, rfl, by decide +kernel, rfl, by decide +kernel, by decide +kernel⟩
theorem gf_loop_again (T : Txt w K mg) : Gf P w K mg base 3 "loop_again" (spLoopAgain K) := by
  have nd := sc_loop_again.nd
  refine gf_mk T.loop_again sc_loop_again (fun vs H Q E h => ?_) (fun _ _ _ _ _ _ us hl => match us, hl with | [_, _, _], _ => rfl) (fun f cdv A outer s H vs Q E hr h => ?_)
  · obtain ⟨v, p, d, k, s, lv, n, x, s1, r, rfl, hp, S, hl, hm, q⟩ := h
    rfl
  obtain ⟨v, p, d, k, s, lv, n, x, s1, r, rfl, hp, S, hl, hm, q⟩ := h
  have hu := hu_of hr
  have G_line_behind := (gf_line_behind (P := P) (base := base) T)
  have G_is_number_loops := (gf_is_number_loops (P := P) (base := base) T)
  have G_closed_by := (gf_closed_by (P := P) (base := base) T)
  have G_again_behind := (gf_again_behind (P := P) (base := base) T)
  have G_is_beyond := (gf_is_beyond (P := P) (base := base) T)
  have G_go_behind := (gf_go_behind (P := P) (base := base) T)
  obtain ⟨_, g_MOST_FRAMES⟩ := T.frames
  obtain ⟨_, g_MOST_NUMBER_loops⟩ := T.great1
  refine ⟨_, (pss_cons (ps_asg (pv 2) (pg_tup (n := 2) (by rfl) (pgs_cons (gN 7 nd) (pgs_cons (pg_tup (n := 2) (by rfl) (pgs_cons (gN 8 nd) (pgs_cons (gN 13 nd) pgs_nil))) pgs_nil))))
    (pss_cons (sT 3 nd (pe_callG G_closed_by (hr.mono (by decide)) (pa_cons (pe_dget hu (pv 1) pe_str (fun _ _ => rfl)) (pa_cons (pv 13) pa_nil))))
    (pss_cons (ps_if (pt_cmpR op_isN (pv 3) pe_non (nomark _))
      (pss_one (ps_ret pe_str))
      pss_nil)
    (pss_cons (sT 4 nd (pe_ix (r := rIxT K) ix_tup (pe_dget hu (pv 1) pe_str (fun _ _ => rfl)) (pe_callB call_len_seq (by rfl) T.len boot_len (pa_cons (pv 3) pa_nil)) (fun _ _ => rfl)))
    (pss_cons (ps_asg (pv 4) (pg_tup (n := 5) (by rfl) (pgs_cons (gN 8 nd) (pgs_cons (gN 9 nd) (pgs_cons (gN 10 nd) (pgs_cons (gN 11 nd) (pgs_cons (gN 12 nd) pgs_nil)))))))
    (pss_cons (ps_if (pt_cmp (pc_dnotin hu (pv 13) (pe_dget hu (pv 1) pe_str (fun _ _ => rfl))))
      (pss_one (ps_ret pe_str))
      pss_nil)
    (pss_cons (sT 5 nd (pe_dget hu (pe_dget hu (pv 1) pe_str (fun _ _ => rfl)) (pv 13) (fun _ _ => rfl)))
    (pss_cons (ps_if (pt_not (pt_val (pe_callG G_is_number_loops (hr.mono (by decide)) (pa_cons (pv 5) pa_nil))))
      (pss_one (ps_ret pe_str))
      pss_nil)
    (pss_cons (ps_if (pt_cmpR op_gt (pe_callB call_abs (by rfl) T.abs (by decide +kernel) (pa_cons (pe_op op_add (pv 5) (pv 12)) pa_nil)) (pe_globI g_MOST_NUMBER_loops) (nomark _))
      (pss_one (ps_ret pe_str))
      pss_nil)
    (pss_cons (ps_dput hu (pe_dget hu (pv 1) pe_str (fun _ _ => rfl)) (pv 13) (pe_op op_add (pv 5) (pv 12)) rfl)
    (pss_cons (sT 6 nd (pe_callG G_is_beyond (hr.mono (by decide)) (pa_cons (pe_op op_add (pv 5) (pv 12)) (pa_cons (pv 11) (pa_cons (pv 12) pa_nil)))))
    (pss_cons (ps_dput hu (pv 1) pe_str (pe_ifExp (pt_val (pv 6)) (pv 3) (pe_op op_catA (pv 3) (pe_tup (pa_cons (pv 4) pa_nil)))) rfl)
    (pss_cons (ps_expr (pe_callG G_go_behind (hr.mono (by decide)) (pa_cons (pv 0) (pa_cons (pv 1) (pa_cons (pe_ifExp (pt_val (pv 6)) (pv 7) (pv 10)) pa_nil)))))
    (pss_one (ps_ret pe_non))))))))))))))), ?_⟩
  simp only [cxK, cxK2, L2.start, List.map, List.length, List.replicate, List.append, HAppend.hAppend, Append.append]
  obtain ⟨la, u, rfl, hs, hu2⟩ := dp_line hl
  obtain ⟨sa, rfl, hss⟩ := dp_again hu2
  refine ⟨_, rfl, la, _, rfl, hs, rfl, _, _, rfl, _, _, rfl, ?_⟩
  refine ⟨sa, _, rfl, hss, rfl, _, _, rfl, _, _, rfl, rfl, rfl, ?_⟩
  simp only [List.set]
  refine ⟨_, rfl, d, _, rfl, dget (k := Sum.inr "pile") S.dk (kv_pile _ _ _), _, rfl, k.pile, s.pile, x, rfl, S.pile, S.small.p, fun H1 r1 k1 hr1 => ?_⟩
  have S1 := S.keep0 k1
  simp only [List.set]
  unfold loopAgain at hm
  cases hcl : closedAt s.pile x s.pile.length with
  | none =>
    rw [hcl] at hr1 hm
    obtain ⟨rfl, rfl⟩ : s = s1 ∧ some ("again" : Str) = r := by
      have e := Option.some.inj hm
      exact ⟨congrArg Prod.fst e, congrArg Prod.snd e⟩
    have e1 : r1 = .non := hr1
    subst e1
    refine ⟨_, rfl, rfl, _, rfl, iteT ?_⟩
    exact q _ k (k1.sub (fun _ z => nomatch z)) rfl S1
  | some j =>
    rw [hcl] at hr1 hm
    obtain ⟨hj, hr1⟩ : j ≤ s.pile.length ∧ Dp K H1 r1 (pileD (s.pile.take j)) := hr1
    obtain ⟨pa, pxs, rfl, hpt, hpd⟩ := dp_tup hr1
    have hpl : pxs.length = j := by rw [dpa_len hpd, List.length_map, List.length_take]; omega
    refine ⟨_, rfl, rfl, _, rfl, iteF ?_⟩
    -- the frame
    cases hfr : s.pile[j]? with
    | none => simp only [hfr] at hm; cases hm
    | some fr =>
      cases fr with
      | call z => simp only [hfr] at hm; cases hm
      | loop y m b c =>
        cases hlk : look s.boxes x with
        | none => simp only [hfr, hlk] at hm; cases hm
        | some vv =>
          simp only [hfr, hlk] at hm
          obtain ⟨hjl, ejl⟩ := List.getElem?_eq_some_iff.mp hfr
          obtain ⟨qa, qxs, eq, hqt, hqd⟩ := dp_tup S1.pile
          obtain ⟨fv, hfv, hfd⟩ := frame_at hqd hjl
          rw [ejl] at hfd
          obtain ⟨fa, rfl, hft⟩ := dp_fr hfd
          refine ⟨_, rfl, d, _, rfl, dget (k := Sum.inr "pile") S1.dk (by rw [kv_pile, eq]), _, rfl, pa, pxs, rfl, .inr hpt, qa, qxs, _, .ref fa, rfl, rfl, hqt, ?_, ?_⟩
          · rw [hpl]; exact atI_nat hfv
          simp only [List.set]
          refine ⟨_, rfl, fa, _, rfl, hft, rfl, _, _, rfl, _, _, rfl, _, _, rfl, _, _, rfl, _, _, rfl, rfl, ?_⟩
          simp only [List.set]
          refine ⟨_, rfl, _, rfl, d, _, rfl, dget (k := Sum.inr "boxes") S1.dk (kv_boxes _ _ _), k.bd, _, rfl, dget (k := Sum.inr x) S1.bx (look_val hlk), _, rfl, iteF ?_⟩
          refine ⟨_, rfl, d, _, rfl, dget (k := Sum.inr "boxes") S1.dk (kv_boxes _ _ _), _, rfl, k.bd, _, rfl, dget (k := Sum.inr x) S1.bx (look_val hlk), ?_⟩
          simp only [List.set]
          refine ⟨_, rfl, vv, rfl, _, rfl, iteF ?_⟩
          have hbd : (vv + c).natAbs ≤ 1000000000000 ∧ s.boxes.length < 60 := by
            by_cases z : (vv + c).natAbs ≤ 1000000000000 ∧ s.boxes.length < 60
            · exact z
            · rw [if_neg z] at hm; cases hm
          rw [if_pos hbd] at hm
          refine ⟨_, rfl, _, rfl, _, _, rfl, rfl, _, rfl, _, _, rfl, rfl, _, rfl, ?_⟩
          rw [decide_eq_false (show ¬ (if vv + c < 0 then -(vv + c) else vv + c) > 1000000000000 by split <;> omega)]
          refine iteF ?_
          refine ⟨_, rfl, _, rfl, _, _, rfl, rfl, _, rfl, d, _, rfl, dget (k := Sum.inr "boxes") S1.dk (kv_boxes _ _ _), _, rfl, k.bd, _, rfl, dput (k := Sum.inr x) S1.bx (bxs_len S1.small.b), ?_⟩
          have k2 := S1.bput (putK (bxs s.boxes) (Sum.inr x) (.int (vv + c)))
          have S2 := S1.setBox x (vv + c) hbd.2
          have k02 : Kx [d, k.bd] H _ := (k1.sub (fun _ z => nomatch z)).trans k2
          have hr2 := k2.dp _ hr1
          have hfd2 := k2.dp _ hfd
          generalize upd H1 k.bd (.dK (putK (bxs s.boxes) (Sum.inr x) (.int (vv + c)))) = H2 at S2 k02 hr2 hfd2 ⊢
          refine ⟨_, rfl, _, rfl, _, _, rfl, rfl, _, rfl, _, rfl, vv + c, b, c, rfl, ?_⟩
          simp only [List.set]
          cases hbe : beyond (vv + c) b c with
          | true =>
            rw [if_pos hbe] at hm
            obtain ⟨rfl, rfl⟩ : goBehind p { s with pile := s.pile.take j, boxes := putB s.boxes x (vv + c) } n = s1 ∧ (none : Option Str) = r := by
              have e := Option.some.inj hm
              exact ⟨congrArg Prod.fst e, congrArg Prod.snd e⟩
            refine ⟨_, rfl, true, rfl, iteT ?_⟩
            refine ⟨_, rfl, _, rfl, d, _, rfl, dput (k := Sum.inr "pile") S2.dk (kv_len _ _ _), ?_⟩
            have S3 := S2.setPile hr2 (by rw [List.length_take]; have := S.small.p; omega)
            have k3 := S2.kput (putK (kvOf s.stand s.at_ k) (Sum.inr "pile") (.ref pa))
            refine ⟨_, rfl, _, rfl, _, rfl, true, rfl, iteT ?_⟩
            refine ⟨_, rfl, v, p, d, _, _, n, rfl, (k02.trans k3).pr hp, S3, fun H9 k9 S9 => ?_⟩
            exact q _ { k with pile := .ref pa } ((k02.trans k3).trans k9) rfl S9
          | false =>
            rw [if_neg (by rw [hbe]; exact fun z => nomatch z)] at hm
            obtain ⟨rfl, rfl⟩ : goBehind p { s with pile := s.pile.take j ++ [.loop x m b c], boxes := putB s.boxes x (vv + c) } m = s1 ∧ (none : Option Str) = r := by
              have e := Option.some.inj hm
              exact ⟨congrArg Prod.fst e, congrArg Prod.snd e⟩
            have eyx : y = x := by
              have gen : ∀ n, closedAt s.pile x n = some j → y = x := by
                intro n
                induction n with
                | zero => intro h; cases h
                | succ n ih =>
                  intro h
                  unfold closedAt at h
                  cases hn : s.pile[n]? with
                  | none => rw [hn] at h; cases h
                  | some f =>
                    rw [hn] at h
                    cases f with
                    | call _ => cases h
                    | loop y2 m2 b2 c2 =>
                      by_cases z : y2 = x
                      · simp only [z, if_true] at h
                        cases h
                        rw [hfr] at hn
                        cases hn
                        exact z
                      · simp only [z, if_false] at h
                        exact ih h
              exact gen _ hcl
            subst eyx
            refine ⟨_, rfl, false, rfl, iteF ?_⟩
            refine ⟨_, rfl, _, rfl, (by show 1 ≤ sizeLine; decide), fun t nt => ?_⟩
            have D4 : Dp K (upd H2 t (.tup [.ref fa])) (.ref t) (pileD [.loop y m b c]) := tup_new nt (.cons hfd2 .nil)
            have k4 : Kx [] H2 (upd H2 t (.tup [.ref fa])) := .new nt
            refine cat_dp (ds := (s.pile.take j).map frD) (es := [frD (.loop y m b c)]) (k4.dp _ hr2) D4 ?_ fun H5 r5 k5 D5 => ?_
            · rw [List.length_map, List.length_take]
              show min _ _ + 1 ≤ sizeLine
              have := S.small.p
              rw [sizeLine_eq]
              omega
            have k45 := k4.trans k5
            have S5 := S2.keep0 k45
            have D5' : Dp K H5 r5 (pileD (s.pile.take j ++ [.loop y m b c])) := by
              unfold pileD
              rw [List.map_append]
              exact D5
            refine ⟨_, rfl, d, _, rfl, dput (k := Sum.inr "pile") S5.dk (kv_len _ _ _), ?_⟩
            have S6 := S5.setPile D5' (by rw [List.length_append, List.length_take]; have := S.small.p; show _ + 1 ≤ 50; omega)
            have k6 := S5.kput (putK (kvOf s.stand s.at_ k) (Sum.inr "pile") r5)
            have k06 := (k02.trans (k45.sub (fun _ z => nomatch z))).trans k6
            refine ⟨_, rfl, _, rfl, _, rfl, false, rfl, iteF ?_⟩
            refine ⟨_, rfl, v, p, d, _, _, m, rfl, k06.pr hp, S6, fun H9 k9 S9 => ?_⟩
            exact q _ { k with pile := r5 } (k06.trans k9) rfl S9
end
end K31
/-! reckoning -/
namespace K31
open PySem PySem.Spec PyProof.Rows L2
section
variable {P : Program} {w : World} {K : PySem.W.Frag} {mg : Str → Option Value} {base : Heap}
def spNeed : Sp := fun vs H Q _ => ∃ (b : Bool) (x : Str), vs = [.bl b, .str x] ∧ b = true ∧ Q .non H
theorem sc_need : FnScope ["is_so", "word"] ["is_so", "word"] (defScope s_need) :=
  ⟨rfl, rfl, rfl, by decide +kernel, rfl, by decide +kernel, by decide +kernel⟩
theorem gf_need (T : Txt w K mg) : Gf P w K mg base 1 "need" spNeed := by
  have nd := sc_need.nd
  refine gf_mk T.need sc_need (fun vs H Q E h => ?_) (fun _ _ _ _ _ _ us hl => match us, hl with | [_, _], _ => rfl) (fun f cdv A outer s H vs Q E hr h => ?_)
  · obtain ⟨b, x, rfl, rfl, q⟩ := h
    rfl
  obtain ⟨b, x, rfl, rfl, q⟩ := h
  have hu := hu_of hr
  refine ⟨_, (pss_one (ps_if (pt_not (pt_val (pv 0)))
      (pss_one ps_never)
      pss_nil)), ?_⟩
  simp only [cxK, cxK2, L2.start, List.map, List.length, List.replicate, List.append, HAppend.hAppend, Append.append]
  exact ⟨_, rfl, true, rfl, iteF q⟩
def spBounded : Sp := fun vs H Q _ => ∃ n : Int, vs = [.int n] ∧ n.natAbs ≤ 1000000000000 ∧ Q (.int n) H
theorem sc_bounded : FnScope ["worth"] ["worth"] (defScope s_bounded) :=
  ⟨rfl, rfl, rfl, by decide +kernel, rfl, by decide +kernel, by decide +kernel⟩
theorem gf_bounded (T : Txt w K mg) : Gf P w K mg base 2 "bounded" spBounded := by
  have nd := sc_bounded.nd
  refine gf_mk T.bounded sc_bounded (fun vs H Q E h => ?_) (fun _ _ _ _ _ _ us hl => match us, hl with | [_], _ => rfl) (fun f cdv A outer s H vs Q E hr h => ?_)
  · obtain ⟨n, rfl, hn, q⟩ := h
    rfl
  obtain ⟨n, rfl, hn, q⟩ := h
  have hu := hu_of hr
  have G_need := (gf_need (P := P) (base := base) T)
  have G_is_number_reckon := (gf_is_number_reckon (P := P) (base := base) T)
  obtain ⟨_, g_MOST_NUMBER_reckon⟩ := T.great2
  obtain ⟨_, g_BOTH_KINDS, hBoth⟩ := T.both
  obtain ⟨_, g_PLAIN_reckon, hPlain⟩ := T.plain
  refine ⟨_, (pss_cons (ps_if (pt_val (pe_callG G_is_number_reckon (hr.mono (by decide)) (pa_cons (pv 0) pa_nil)))
      (pss_one (ps_expr (pe_callG G_need (hr.mono (by decide)) (pa_cons (pe_cmpR op_le (pe_callB call_abs (by rfl) T.abs (by decide +kernel) (pa_cons (pv 0) pa_nil)) (pe_globI g_MOST_NUMBER_reckon) (nomark _)) (pa_cons pe_str pa_nil)))))
      (pss_one ps_never))
    (pss_one (ps_ret (pv 0)))), ?_⟩
  simp only [cxK, cxK2, L2.start, List.map, List.length, List.replicate, List.append, HAppend.hAppend, Append.append]
  refine ⟨_, rfl, n, rfl, true, rfl, iteT ?_⟩
  refine ⟨_, rfl, _, rfl, _, _, rfl, rfl, _, _, rfl, decide_eq_true (by split <;> omega), _, rfl, q⟩
def spBySign : Sp := fun vs H Q _ => ∃ (sg : Str) (a b r : Int), vs = [.str sg, .int a, .int b] ∧ ((sg = "-" ∧ r = a - b) ∨ (sg = "+" ∧ r = a + b) ∨ (sg = "=" ∧ r = if a = b then 1 else 0)) ∧ ∀ H', Kx [] H H' → Q (.int r) H'
theorem sc_by_sign : FnScope ["sign", "one", "other"] ["sign", "one", "other"] (defScope s_by_sign) :=
  ⟨rfl, rfl, rfl, by decide +kernel, rfl, by decide +kernel, by decide +kernel⟩
theorem gf_by_sign (T : Txt w K mg) : Gf P w K mg base 2 "by_sign" spBySign := by
  have nd := sc_by_sign.nd
  refine gf_mk T.by_sign sc_by_sign (fun vs H Q E h => ?_) (fun _ _ _ _ _ _ us hl => match us, hl with | [_, _, _], _ => rfl) (fun f cdv A outer s H vs Q E hr h => ?_)
  · obtain ⟨sg, a, b, r, rfl, hsg, q⟩ := h
    rfl
  obtain ⟨sg, a, b, r, rfl, hsg, q⟩ := h
  have hu := hu_of hr
  have G_need := (gf_need (P := P) (base := base) T)
  have G_is_number_reckon := (gf_is_number_reckon (P := P) (base := base) T)
  obtain ⟨_, g_MOST_NUMBER_reckon⟩ := T.great2
  obtain ⟨_, g_BOTH_KINDS, hBoth⟩ := T.both
  obtain ⟨_, g_PLAIN_reckon, hPlain⟩ := T.plain
  refine ⟨_, (pss_cons (ps_expr (pe_callG G_need (hr.mono (by decide)) (pa_cons (pe_cmpR op_eq (pe_callG G_is_number_reckon (hr.mono (by decide)) (pa_cons (pv 1) pa_nil)) (pe_callG G_is_number_reckon (hr.mono (by decide)) (pa_cons (pv 2) pa_nil)) (nomark _)) (pa_cons pe_str pa_nil))))
    (pss_cons (ps_expr (pe_callG G_need (hr.mono (by decide)) (pa_cons (pe_or (pe_callG G_is_number_reckon (hr.mono (by decide)) (pa_cons (pv 1) pa_nil)) (pe_one (pe_cmpR op_in_seq (pv 0) (pe_globR g_BOTH_KINDS) (by rfl)))) (pa_cons pe_str pa_nil))))
    (pss_cons (ps_if (pt_cmpR op_in_seq (pv 0) (pe_tup (pa_cons pe_str (pa_cons pe_str pa_nil))) (by rfl))
      pss_never
      pss_nil)
    (pss_cons (ps_if (pt_cmpR op_eq (pv 0) pe_str (nomark _))
      (pss_one (ps_ret (pe_op op_add (pv 1) (pv 2))))
      pss_nil)
    (pss_cons (ps_if (pt_cmpR op_eq (pv 0) pe_str (nomark _))
      (pss_one (ps_ret (pe_op op_sub (pv 1) (pv 2))))
      pss_nil)
    (pss_cons (ps_if (pt_cmpR op_eq (pv 0) pe_str (nomark _))
      pss_never
      pss_nil)
    (pss_cons (ps_if (pt_cmpR op_eq (pv 0) pe_str (nomark _))
      pss_never
      pss_nil)
    (pss_cons (ps_if (pt_cmpR op_eq (pv 0) pe_str (nomark _))
      pss_never
      pss_nil)
    (pss_cons (ps_if (pt_cmpR op_eq (pv 0) pe_str (nomark _))
      (pss_one (ps_ret (pe_callTy call_int1 (by rfl) T.int (by decide +kernel) (pa_cons (pe_cmpR op_eq (pv 1) (pv 2) (nomark _)) pa_nil))))
      pss_nil)
    (pss_one ps_never)))))))))), ?_⟩
  simp only [cxK, cxK2, L2.start, List.map, List.length, List.replicate, List.append, HAppend.hAppend, Append.append]
  refine ⟨_, rfl, a, rfl, _, rfl, b, rfl, rfl, _, _, rfl, decide_eq_true rfl, ?_⟩
  refine ⟨_, rfl, a, rfl, true, rfl, iteT ?_⟩
  refine ⟨_, _, rfl, rfl, ?_⟩
  refine ⟨_, rfl, (by show 2 ≤ sizeLine; decide), fun t nt => ?_⟩
  have k1 : Kx [] H (upd H t (.tup [.str "/", .str "rest"])) := .new nt
  refine ⟨t, _, rfl, .inr (.inl (.inl upd_same)), rfl, rfl, _, rfl, ?_⟩
  have q1 := q _ k1
  generalize upd H t (.tup [.str "/", .str "rest"]) = H1 at q1 ⊢
  rcases hsg with ⟨rfl, rfl⟩ | ⟨rfl, rfl⟩ | ⟨rfl, rfl⟩
  · rw [show inV (.str "-") [.str "/", .str "rest"] = false by decide +kernel]
    refine iteF ⟨_, rfl, rfl, _, rfl, ?_⟩
    rw [decS (show ¬ ("-" : Str) = "+" by decide +kernel)]
    refine iteF ⟨_, rfl, rfl, _, rfl, ?_⟩
    rw [decST]
    exact iteT ⟨_, rfl, _, rfl, _, _, rfl, rfl, q1⟩
  · rw [show inV (.str "+") [.str "/", .str "rest"] = false by decide +kernel]
    refine iteF ⟨_, rfl, rfl, _, rfl, ?_⟩
    rw [decST]
    exact iteT ⟨_, rfl, _, rfl, _, _, rfl, rfl, q1⟩
  · rw [show inV (.str "=") [.str "/", .str "rest"] = false by decide +kernel]
    refine iteF ⟨_, rfl, rfl, _, rfl, ?_⟩
    rw [decS (show ¬ ("=" : Str) = "+" by decide +kernel)]
    refine iteF ⟨_, rfl, rfl, _, rfl, ?_⟩
    rw [decS (show ¬ ("=" : Str) = "-" by decide +kernel)]
    refine iteF ⟨_, rfl, rfl, _, rfl, ?_⟩
    rw [decS (show ¬ ("=" : Str) = "*" by decide +kernel)]
    refine iteF ⟨_, rfl, rfl, _, rfl, ?_⟩
    rw [decS (show ¬ ("=" : Str) = "and" by decide +kernel)]
    refine iteF ⟨_, rfl, rfl, _, rfl, ?_⟩
    rw [decS (show ¬ ("=" : Str) = "or" by decide +kernel)]
    refine iteF ⟨_, rfl, rfl, _, rfl, ?_⟩
    rw [decST]
    refine iteT ⟨_, rfl, _, rfl, rfl, .inr ⟨_, rfl, ?_⟩⟩
    rw [decI]
    by_cases h : a = b
    · rw [if_pos h] at q1
      rw [decide_eq_true h]
      exact q1
    · rw [if_neg h] at q1
      rw [decide_eq_false h]
      exact q1
def spOfWorths (K : PySem.W.Frag) : Sp := fun vs H Q _ => ∃ (sg : Str) (wa : Addr) (a b r : Int), vs = [.str sg, .ref wa] ∧ SqL K H wa [.int a, .int b] ∧ ((sg = "-" ∧ r = a - b) ∨ (sg = "+" ∧ r = a + b) ∨ (sg = "=" ∧ r = if a = b then 1 else 0)) ∧ ∀ H', Kx [] H H' → Q (.int r) H'
theorem sc_of_worths : FnScope ["word", "worths", "one", "other", "text", "begin", "many"] ["word", "worths"] (defScope s_of_worths) :=
  ⟨rfl, rfl, rfl, by decide +kernel, rfl, by decide +kernel, by decide +kernel⟩
theorem gf_of_worths (T : Txt w K mg) : Gf P w K mg base 3 "of_worths" (spOfWorths K) := by
  have nd := sc_of_worths.nd
  refine gf_mk T.of_worths sc_of_worths (fun vs H Q E h => ?_) (fun _ _ _ _ _ _ us hl => match us, hl with | [_, _], _ => rfl) (fun f cdv A outer s H vs Q E hr h => ?_)
  · obtain ⟨sg, wa, a, b, r, rfl, hw, hsg, q⟩ := h
    rfl
  obtain ⟨sg, wa, a, b, r, rfl, hw, hsg, q⟩ := h
  have hu := hu_of hr
  have G_need := (gf_need (P := P) (base := base) T)
  have G_is_number_reckon := (gf_is_number_reckon (P := P) (base := base) T)
  obtain ⟨_, g_MOST_NUMBER_reckon⟩ := T.great2
  obtain ⟨_, g_BOTH_KINDS, hBoth⟩ := T.both
  obtain ⟨_, g_PLAIN_reckon, hPlain⟩ := T.plain
  have G_by_sign := (gf_by_sign (P := P) (base := base) T)
  refine ⟨_, (pss_cons (ps_if (pt_cmpR op_eq (pv 0) pe_str (nomark _))
      pss_never
      pss_nil)
    (pss_cons (ps_if (pt_cmpR op_eq (pv 0) pe_str (nomark _))
      pss_never
      pss_nil)
    (pss_cons (ps_if (pt_cmpR op_eq (pv 0) pe_str (nomark _))
      pss_never
      pss_nil)
    (pss_cons (ps_asg (pv 1) (pg_unl (n := 2) (by rfl) (pgs_cons (gN 2 nd) (pgs_cons (gN 3 nd) pgs_nil))))
    (pss_one (ps_ret (pe_callG G_by_sign (hr.mono (by decide)) (pa_cons (pv 0) (pa_cons (pv 2) (pa_cons (pv 3) pa_nil)))))))))), ?_⟩
  simp only [cxK, cxK2, L2.start, List.map, List.length, List.replicate, List.append, HAppend.hAppend, Append.append]
  have n1 : ¬ sg = "not" := by rcases hsg with ⟨rfl, _⟩ | ⟨rfl, _⟩ | ⟨rfl, _⟩ <;> decide +kernel
  have n2 : ¬ sg = "size" := by rcases hsg with ⟨rfl, _⟩ | ⟨rfl, _⟩ | ⟨rfl, _⟩ <;> decide +kernel
  have n3 : ¬ sg = "part" := by rcases hsg with ⟨rfl, _⟩ | ⟨rfl, _⟩ | ⟨rfl, _⟩ <;> decide +kernel
  refine ⟨_, rfl, rfl, _, rfl, ?_⟩
  rw [decS n1]
  refine iteF ⟨_, rfl, rfl, _, rfl, ?_⟩
  rw [decS n2]
  refine iteF ⟨_, rfl, rfl, _, rfl, ?_⟩
  rw [decS n3]
  refine iteF ?_
  refine ⟨_, rfl, wa, _, rfl, hw, rfl, _, _, rfl, _, _, rfl, rfl, ?_⟩
  exact ⟨_, rfl, _, rfl, _, rfl, sg, a, b, r, rfl, hsg, q⟩
/-! ### what stands around -/
def arF (b r f v : V) : List (Str × V) := putF "deep" (.int 0) (putF "fault_met" v (putF "fit_bodies" f (putF "row_worths" r (putF "box_worths" b []))))
theorem arF_eq (b r f v : V) : arF b r f v = ([("box_worths", b), ("row_worths", r), ("fit_bodies", f), ("fault_met", v), ("deep", .int 0)] : List (Str × V)) := by kernel_rfl
theorem arF_box (b r f v : V) : (arF b r f v).lookup ("box_worths" : Str) = some b := by rw [arF_eq]; kernel_rfl
/-- an Around stands at p, its boxes are bs -/
def ArdS (mg : Str → Option Value) (H : Hp) (p : Addr) (bs : List (Str × Int)) : Prop := ∃ (C dx bd : Addr) (r f v : V), mg "Around" = some (.ref C) ∧ H p = some (.ins C dx (arF (.ref bd) r f v)) ∧ H bd = some (.dK (bxs bs))
theorem Kx.ard {ks : List Addr} {H H' : Hp} (k : Kx [] H H') {p : Addr} {bs : List (Str × Int)} (h : ArdS mg H p bs) : ArdS mg H' p bs := by
  obtain ⟨C, dx, bd, r, f, v, h1, h2, h3⟩ := h
  exact ⟨C, dx, bd, r, f, v, h1, k.same _ _ h2, k.same _ _ h3⟩
def spComeL (K : PySem.W.Frag) (mg : Str → Option Value) : Sp := fun vs H Q _ => ∃ (v : V) (p : Addr) (l : Lf) (bs : List (Str × Int)) (n : Int), vs = [v, .ref p] ∧ Dp K H v (lfD l) ∧ ArdS mg H p bs ∧ lfM bs l = some n ∧ ∀ H', Kx [] H H' → Q (.int n) H'
theorem dp_num {H : Hp} {v : V} {n : Int} (h : Dp K H v (lfD (.num n))) : ∃ a, v = .ref a ∧ SqT K H a [.str "number", .int n] := by
  obtain ⟨a, xs, rfl, hs, h⟩ := dp_tup h
  obtain ⟨v1, r, rfl, h1, h⟩ := dpa_cons h
  obtain ⟨v2, r, rfl, h2, h⟩ := dpa_cons h
  cases dpa_nil h
  cases dp_str h1
  cases dp_int h2
  exact ⟨a, rfl, hs⟩
theorem dp_box {H : Hp} {v : V} {x : Str} (h : Dp K H v (lfD (.box x))) : ∃ a, v = .ref a ∧ SqT K H a [.str "box", .str x] := by
  obtain ⟨a, xs, rfl, hs, h⟩ := dp_tup h
  obtain ⟨v1, r, rfl, h1, h⟩ := dpa_cons h
  obtain ⟨v2, r, rfl, h2, h⟩ := dpa_cons h
  cases dpa_nil h
  cases dp_str h1
  cases dp_str h2
  exact ⟨a, rfl, hs⟩
theorem sc_come : FnScope ["expression", "around", "word", "parts", "name", "place", "part"] ["expression", "around"] (defScope s_come) :=
  ⟨rfl, rfl, rfl, by decide +kernel, rfl, by decide +kernel, by decide +kernel⟩
theorem gf_comeL (T : Txt w K mg) : Gf P w K mg base 2 "come" (spComeL K mg) := by
  have nd := sc_come.nd
  refine gf_mk T.come sc_come (fun vs H Q E h => ?_) (fun _ _ _ _ _ _ us hl => match us, hl with | [_, _], _ => rfl) (fun f cdv A outer s H vs Q E hr h => ?_)
  · obtain ⟨v, p, l, bs, n, rfl, he, ha, hm, q⟩ := h
    rfl
  obtain ⟨v, p, l, bs, n, rfl, he, ha, hm, q⟩ := h
  have hu := hu_of hr
  have G_need := (gf_need (P := P) (base := base) T)
  have G_is_number_reckon := (gf_is_number_reckon (P := P) (base := base) T)
  obtain ⟨_, g_MOST_NUMBER_reckon⟩ := T.great2
  obtain ⟨_, g_BOTH_KINDS, hBoth⟩ := T.both
  obtain ⟨_, g_PLAIN_reckon, hPlain⟩ := T.plain
  refine ⟨_, (pss_cons (ps_asg (pv 0) (pg_star (i := 1) (by rfl) (pgs_cons (gN 2 nd) (pgs_star (gN 3 nd)))))
    (pss_cons (ps_if (pt_cmpR op_in_seq (pv 2) (pe_globR g_PLAIN_reckon) (by rfl))
      (pss_one (ps_ret (pe_ix (r := rIxL K) ix_list (pv 3) pe_int (fun _ _ => rfl))))
      pss_nil)
    (pss_cons (ps_if (pt_cmpR op_in_seq (pv 2) (pe_tup (pa_cons pe_str (pa_cons pe_str pa_nil))) (by rfl))
      pss_never
      pss_nil)
    (pss_cons (ps_if (pt_cmpR op_eq (pv 2) pe_str (nomark _))
      (pss_cons (ps_expr (pe_callG G_need (hr.mono (by decide)) (pa_cons (pe_cmp (pc_din hu (pe_ix (r := rIxL K) ix_list (pv 3) pe_int (fun _ _ => rfl)) (pe_fld (pv 1) rfl)) rfl) (pa_cons pe_str pa_nil))))
      (pss_one (ps_ret (pe_dget hu (pe_fld (pv 1) rfl) (pe_ix (r := rIxL K) ix_list (pv 3) pe_int (fun _ _ => rfl)) (fun _ _ => rfl)))))
      pss_nil)
    (pss_cons (ps_if (pt_cmpR op_eq (pv 2) pe_str (nomark _))
      pss_never
      pss_nil)
    (pss_cons (ps_if (pt_cmpR op_eq (pv 2) pe_str (nomark _))
      pss_never
      pss_nil)
    (pss_one ps_never))))))), ?_⟩
  simp only [cxK, cxK2, L2.start, List.map, List.length, List.replicate, List.append, HAppend.hAppend, Append.append]
  cases l with
  | num m =>
    obtain ⟨ea, rfl, hs⟩ := dp_num he
    refine ⟨_, rfl, ea, _, rfl, hs, (by show 1 ≤ 2; decide), fun rp nrp => ?_⟩
    refine ⟨_, _, rfl, _, _, rfl, rfl, ?_⟩
    simp only [List.set]
    refine ⟨_, rfl, _, _, rfl, .inr (hPlain _), rfl, rfl, _, rfl, ?_⟩
    rw [show inV (.str "number") [.str "number", .str "text"] = true by decide +kernel]
    refine iteT ⟨_, rfl, rp, _, _, _, rfl, rfl, .inl (.inl upd_same), atI_nat (j := 0) rfl, ?_⟩
    cases hm
    exact q _ (.new nrp)
  | box x =>
    obtain ⟨ea, rfl, hs⟩ := dp_box he
    refine ⟨_, rfl, ea, _, rfl, hs, (by show 1 ≤ 2; decide), fun rp nrp => ?_⟩
    have k1 : Kx [] H (upd H rp (.lst (List.drop 1 [.str "box", .str x]))) := .new nrp
    have hl1 : SqL K (upd H rp (.lst (List.drop 1 [.str "box", .str x]))) rp [.str x] := .inl (.inl upd_same)
    generalize upd H rp (.lst (List.drop 1 [.str "box", .str x])) = H1 at k1 hl1 ⊢
    refine ⟨_, _, rfl, _, _, rfl, rfl, ?_⟩
    simp only [List.set]
    refine ⟨_, rfl, _, _, rfl, .inr (hPlain _), rfl, rfl, _, rfl, ?_⟩
    rw [show inV (.str "box") [.str "number", .str "text"] = false by decide +kernel]
    refine iteF ⟨_, rfl, (by show 2 ≤ sizeLine; decide), fun t nt => ?_⟩
    have k2 : Kx [] H1 (upd H1 t (.tup [.str "why", .str "where"])) := .new nt
    refine ⟨t, _, rfl, .inr (.inl (.inl upd_same)), rfl, rfl, _, rfl, ?_⟩
    have hl2 := k2.sqL hl1
    generalize upd H1 t (.tup [.str "why", .str "where"]) = H2 at k2 hl2 ⊢
    rw [show inV (.str "box") [.str "why", .str "where"] = false by decide +kernel]
    refine iteF ⟨_, rfl, rfl, _, rfl, ?_⟩
    rw [decST]
    obtain ⟨C, dx, bd, r, f, fv, e1, e2, e3⟩ := (k1.trans k2).ard (ks := []) ha
    obtain ⟨C', f', fd', f1, f2, f3, f4, _⟩ := T.around
    rw [f1] at e1
    cases e1
    have hlk : look bs x = some n := hm
    refine iteT ⟨_, rfl, rp, _, _, _, rfl, rfl, hl2, atI_nat (j := 0) rfl, ?_⟩
    refine ⟨_, rfl, p, _, dx, _, _, rfl, e2, f3, f4, arF_box _ _ _ _, bd, _, rfl, dget (k := Sum.inr x) e3 (look_val hlk), ?_⟩
    refine ⟨_, _, rfl, rfl, ?_⟩
    refine ⟨_, rfl, p, _, dx, _, _, rfl, e2, f3, f4, arF_box _ _ _ _, _, rfl, rp, _, _, _, rfl, rfl, hl2, atI_nat (j := 0) rfl, bd, _, rfl, dget (k := Sum.inr x) e3 (look_val hlk), ?_⟩
    exact q _ (k1.trans k2)
def spCome (K : PySem.W.Frag) (mg : Str → Option Value) : Sp := fun vs H Q _ => ∃ (v : V) (p : Addr) (l : Ex) (bs : List (Str × Int)) (n : Int), vs = [v, .ref p] ∧ Dp K H v (exD l) ∧ ArdS mg H p bs ∧ exM bs l = some n ∧ ∀ H', Kx [] H H' → Q (.int n) H'
theorem dp_bin {H : Hp} {v : V} {sg : Str} {a b : Lf} (h : Dp K H v (.tuple [.str sg, lfD a, lfD b])) : ∃ p u1 u2, v = .ref p ∧ SqT K H p [.str sg, u1, u2] ∧ Dp K H u1 (lfD a) ∧ Dp K H u2 (lfD b) := by
  obtain ⟨p, xs, rfl, hs, h⟩ := dp_tup h
  obtain ⟨v1, r, rfl, h1, h⟩ := dpa_cons h
  obtain ⟨v2, r, rfl, h2, h⟩ := dpa_cons h
  obtain ⟨v3, r, rfl, h3, h⟩ := dpa_cons h
  cases dpa_nil h
  cases dp_str h1
  exact ⟨p, v2, v3, rfl, hs, h2, h3⟩
theorem within_ok {n m : Int} (h : within n = some m) : n = m ∧ n.natAbs ≤ 1000000000000 := by
  unfold within at h
  by_cases z : n.natAbs ≤ 1000000000000
  · rw [if_pos z] at h
    exact ⟨Option.some.inj h, z⟩
  · rw [if_neg z] at h
    cases h
theorem gf_come (T : Txt w K mg) : Gf P w K mg base 4 "come" (spCome K mg) := by
  have nd := sc_come.nd
  refine gf_mk T.come sc_come (fun vs H Q E h => ?_) (fun _ _ _ _ _ _ us hl => match us, hl with | [_, _], _ => rfl) (fun f cdv A outer s H vs Q E hr h => ?_)
  · obtain ⟨v, p, l, bs, n, rfl, he, ha, hm, q⟩ := h
    rfl
  obtain ⟨v, p, l, bs, n, rfl, he, ha, hm, q⟩ := h
  have hu := hu_of hr
  have G_need := (gf_need (P := P) (base := base) T)
  have G_is_number_reckon := (gf_is_number_reckon (P := P) (base := base) T)
  obtain ⟨_, g_MOST_NUMBER_reckon⟩ := T.great2
  obtain ⟨_, g_BOTH_KINDS, hBoth⟩ := T.both
  obtain ⟨_, g_PLAIN_reckon, hPlain⟩ := T.plain
  have G_bounded := (gf_bounded (P := P) (base := base) T)
  have G_of_worths := (gf_of_worths (P := P) (base := base) T)
  have G_come := (gf_comeL (P := P) (base := base) T)
  refine ⟨_, (pss_cons (ps_asg (pv 0) (pg_star (i := 1) (by rfl) (pgs_cons (gN 2 nd) (pgs_star (gN 3 nd)))))
    (pss_cons (ps_if (pt_cmpR op_in_seq (pv 2) (pe_globR g_PLAIN_reckon) (by rfl))
      (pss_one (ps_ret (pe_ix (r := rIxL K) ix_list (pv 3) pe_int (fun _ _ => rfl))))
      pss_nil)
    (pss_cons (ps_if (pt_cmpR op_in_seq (pv 2) (pe_tup (pa_cons pe_str (pa_cons pe_str pa_nil))) (by rfl))
      pss_never
      pss_nil)
    (pss_cons (ps_if (pt_cmpR op_eq (pv 2) pe_str (nomark _))
      (pss_cons (ps_expr (pe_callG G_need (hr.mono (by decide)) (pa_cons (pe_cmp (pc_din hu (pe_ix (r := rIxL K) ix_list (pv 3) pe_int (fun _ _ => rfl)) (pe_fld (pv 1) rfl)) rfl) (pa_cons pe_str pa_nil))))
      (pss_one (ps_ret (pe_dget hu (pe_fld (pv 1) rfl) (pe_ix (r := rIxL K) ix_list (pv 3) pe_int (fun _ _ => rfl)) (fun _ _ => rfl)))))
      pss_nil)
    (pss_cons (ps_if (pt_cmpR op_eq (pv 2) pe_str (nomark _))
      pss_never
      pss_nil)
    (pss_cons (ps_if (pt_cmpR op_eq (pv 2) pe_str (nomark _))
      pss_never
      pss_nil)
    (pss_one (ps_ret (pe_callG G_bounded (hr.mono (by decide)) (pa_cons (pe_callG G_of_worths (hr.mono (by decide)) (pa_cons (pv 2) (pa_cons (pe_lc (own := [("part", 6)]) (g := (gName 6)) (by rfl) nd (pi_list (pv 3)) (blkOk_by (own := [("part", 6)]) (N := ["expression", "around", "word", "parts", "name", "place", "part"]) (sc := defScope s_come) (by decide +kernel)) (fun _ _ _ _ _ => (gN 6 nd)) (fun _ _ _ _ _ => pts_nil) (fun _ _ _ _ _ => (pe_callG G_come (hr.mono (by decide)) (pa_cons (pv 6) (pa_cons (pv 1) pa_nil))))) pa_nil))) pa_nil)))))))))), ?_⟩
  simp only [cxK, cxK2, L2.start, List.map, List.length, List.replicate, List.append, HAppend.hAppend, Append.append]
  by_cases hleaf : ∃ lf, l = .lf lf
  · obtain ⟨l', rfl⟩ := hleaf
    replace he : Dp K H v (lfD l') := he
    replace hm : lfM bs l' = some n := hm
    clear hu
    have hu := hu_of hr
    revert he hm
    generalize l' = l
    intro he hm
    cases l with
    | num m =>
      obtain ⟨ea, rfl, hs⟩ := dp_num he
      refine ⟨_, rfl, ea, _, rfl, hs, (by show 1 ≤ 2; decide), fun rp nrp => ?_⟩
      refine ⟨_, _, rfl, _, _, rfl, rfl, ?_⟩
      simp only [List.set]
      refine ⟨_, rfl, _, _, rfl, .inr (hPlain _), rfl, rfl, _, rfl, ?_⟩
      rw [show inV (.str "number") [.str "number", .str "text"] = true by decide +kernel]
      refine iteT ⟨_, rfl, rp, _, _, _, rfl, rfl, .inl (.inl upd_same), atI_nat (j := 0) rfl, ?_⟩
      cases hm
      exact q _ (.new nrp)
    | box x =>
      obtain ⟨ea, rfl, hs⟩ := dp_box he
      refine ⟨_, rfl, ea, _, rfl, hs, (by show 1 ≤ 2; decide), fun rp nrp => ?_⟩
      have k1 : Kx [] H (upd H rp (.lst (List.drop 1 [.str "box", .str x]))) := .new nrp
      have hl1 : SqL K (upd H rp (.lst (List.drop 1 [.str "box", .str x]))) rp [.str x] := .inl (.inl upd_same)
      generalize upd H rp (.lst (List.drop 1 [.str "box", .str x])) = H1 at k1 hl1 ⊢
      refine ⟨_, _, rfl, _, _, rfl, rfl, ?_⟩
      simp only [List.set]
      refine ⟨_, rfl, _, _, rfl, .inr (hPlain _), rfl, rfl, _, rfl, ?_⟩
      rw [show inV (.str "box") [.str "number", .str "text"] = false by decide +kernel]
      refine iteF ⟨_, rfl, (by show 2 ≤ sizeLine; decide), fun t nt => ?_⟩
      have k2 : Kx [] H1 (upd H1 t (.tup [.str "why", .str "where"])) := .new nt
      refine ⟨t, _, rfl, .inr (.inl (.inl upd_same)), rfl, rfl, _, rfl, ?_⟩
      have hl2 := k2.sqL hl1
      generalize upd H1 t (.tup [.str "why", .str "where"]) = H2 at k2 hl2 ⊢
      rw [show inV (.str "box") [.str "why", .str "where"] = false by decide +kernel]
      refine iteF ⟨_, rfl, rfl, _, rfl, ?_⟩
      rw [decST]
      obtain ⟨C, dx, bd, r, f, fv, e1, e2, e3⟩ := (k1.trans k2).ard (ks := []) ha
      obtain ⟨C', f', fd', f1, f2, f3, f4, _⟩ := T.around
      rw [f1] at e1
      cases e1
      have hlk : look bs x = some n := hm
      refine iteT ⟨_, rfl, rp, _, _, _, rfl, rfl, hl2, atI_nat (j := 0) rfl, ?_⟩
      refine ⟨_, rfl, p, _, dx, _, _, rfl, e2, f3, f4, arF_box _ _ _ _, bd, _, rfl, dget (k := Sum.inr x) e3 (look_val hlk), ?_⟩
      refine ⟨_, _, rfl, rfl, ?_⟩
      refine ⟨_, rfl, p, _, dx, _, _, rfl, e2, f3, f4, arF_box _ _ _ _, _, rfl, rp, _, _, _, rfl, rfl, hl2, atI_nat (j := 0) rfl, bd, _, rfl, dget (k := Sum.inr x) e3 (look_val hlk), ?_⟩
      exact q _ (k1.trans k2)
  · obtain ⟨sg, a, b, i, j, rr, eD, hi, hj, hsg, en, hbig⟩ : ∃ sg a b i j rr, exD l = .tuple [.str sg, lfD a, lfD b] ∧ lfM bs a = some i ∧ lfM bs b = some j ∧ ((sg = "-" ∧ rr = i - j) ∨ (sg = "+" ∧ rr = i + j) ∨ (sg = "=" ∧ rr = if i = j then 1 else 0)) ∧ rr = n ∧ rr.natAbs ≤ 1000000000000 := by
      cases l with
      | lf l' => exact absurd ⟨l', rfl⟩ hleaf
      | sub a b =>
        cases h1 : lfM bs a with
        | none => simp only [exM, h1] at hm; cases hm
        | some i =>
          cases h2 : lfM bs b with
          | none => simp only [exM, h1, h2] at hm; cases hm
          | some j =>
            simp only [exM, h1, h2] at hm
            obtain ⟨e1, e2⟩ := within_ok hm
            exact ⟨"-", a, b, i, j, i - j, rfl, h1, h2, .inl ⟨rfl, rfl⟩, e1, e2⟩
      | add a b =>
        cases h1 : lfM bs a with
        | none => simp only [exM, h1] at hm; cases hm
        | some i =>
          cases h2 : lfM bs b with
          | none => simp only [exM, h1, h2] at hm; cases hm
          | some j =>
            simp only [exM, h1, h2] at hm
            obtain ⟨e1, e2⟩ := within_ok hm
            exact ⟨"+", a, b, i, j, i + j, rfl, h1, h2, .inr (.inl ⟨rfl, rfl⟩), e1, e2⟩
      | eq a b =>
        cases h1 : lfM bs a with
        | none => simp only [exM, h1] at hm; cases hm
        | some i =>
          cases h2 : lfM bs b with
          | none => simp only [exM, h1, h2] at hm; cases hm
          | some j =>
            simp only [exM, h1, h2] at hm
            refine ⟨"=", a, b, i, j, if i = j then 1 else 0, rfl, h1, h2, .inr (.inr ⟨rfl, rfl⟩), Option.some.inj hm, ?_⟩
            by_cases z : i = j
            · rw [if_pos z]; decide
            · rw [if_neg z]; decide
    rw [eD] at he
    obtain ⟨ea, u1, u2, rfl, hs, hd1, hd2⟩ := dp_bin he
    have n1 : inV (.str sg) [.str "number", .str "text"] = false := by rcases hsg with ⟨rfl, _⟩ | ⟨rfl, _⟩ | ⟨rfl, _⟩ <;> decide +kernel
    have n2 : inV (.str sg) [.str "why", .str "where"] = false := by rcases hsg with ⟨rfl, _⟩ | ⟨rfl, _⟩ | ⟨rfl, _⟩ <;> decide +kernel
    have n3 : ¬ sg = "box" := by rcases hsg with ⟨rfl, _⟩ | ⟨rfl, _⟩ | ⟨rfl, _⟩ <;> decide +kernel
    have n4 : ¬ sg = "fit" := by rcases hsg with ⟨rfl, _⟩ | ⟨rfl, _⟩ | ⟨rfl, _⟩ <;> decide +kernel
    have n5 : ¬ sg = "cell" := by rcases hsg with ⟨rfl, _⟩ | ⟨rfl, _⟩ | ⟨rfl, _⟩ <;> decide +kernel
    refine ⟨_, rfl, ea, _, rfl, hs, (by show 1 ≤ 3; decide), fun rp nrp => ?_⟩
    have k1 : Kx [] H (upd H rp (.lst (List.drop 1 [.str sg, u1, u2]))) := .new nrp
    have hl1 : SqL K (upd H rp (.lst (List.drop 1 [.str sg, u1, u2]))) rp [u1, u2] := .inl (.inl upd_same)
    generalize upd H rp (.lst (List.drop 1 [.str sg, u1, u2])) = H1 at k1 hl1 ⊢
    refine ⟨_, _, rfl, _, _, rfl, rfl, ?_⟩
    simp only [List.set]
    refine ⟨_, rfl, _, _, rfl, .inr (hPlain _), rfl, rfl, _, rfl, ?_⟩
    rw [n1]
    refine iteF ⟨_, rfl, (by show 2 ≤ sizeLine; decide), fun t nt => ?_⟩
    have k2 : Kx [] H1 (upd H1 t (.tup [.str "why", .str "where"])) := .new nt
    refine ⟨t, _, rfl, .inr (.inl (.inl upd_same)), rfl, rfl, _, rfl, ?_⟩
    have hl2 := k2.sqL hl1
    generalize upd H1 t (.tup [.str "why", .str "where"]) = H2 at k2 hl2 ⊢
    rw [n2]
    refine iteF ⟨_, rfl, rfl, _, rfl, ?_⟩
    rw [decS n3]
    refine iteF ⟨_, rfl, rfl, _, rfl, ?_⟩
    rw [decS n4]
    refine iteF ⟨_, rfl, rfl, _, rfl, ?_⟩
    rw [decS n5]
    have k12 := k1.trans k2
    refine iteF ⟨_, rfl, _, rfl, rp, rfl, ⟨_, hl2⟩, fun D hD => lc_list (K := K) (a := rp) (xs := [u1, u2]) (fun m H' => Kx [] H2 H' ∧ H' D = some (.lst (([i, j].take m).map .int))) ⟨.new hD, upd_same⟩ (fun m H' _ h => h.1.sqL hl2) ?_ ?_⟩
    · rintro m y H' hy ⟨k3, hD3⟩
      have k13 := k12.trans k3
      have hA := k13.ard (ks := []) ha
      match m, hy with
      | 0, hy =>
        obtain rfl : u1 = y := Option.some.inj hy
        refine ⟨rfl, _, rfl, _, rfl, u1, p, a, bs, i, rfl, k13.dp _ hd1, hA, hi, fun H4 k4 => ?_⟩
        have hD4 : H4 D = some (.lst []) := k4.same _ _ hD3
        exact ⟨_, hD4, small1000 (by show _ ≤ 1000; simp), (k3.trans k4).grow hD, upd_same⟩
      | 1, hy =>
        obtain rfl : u2 = y := Option.some.inj hy
        refine ⟨rfl, _, rfl, _, rfl, u2, p, b, bs, j, rfl, k13.dp _ hd2, hA, hj, fun H4 k4 => ?_⟩
        have hD4 : H4 D = some (.lst [.int i]) := k4.same _ _ hD3
        exact ⟨_, hD4, small1000 (by show _ ≤ 1000; simp), (k3.trans k4).grow hD, upd_same⟩
      | m + 2, hy => cases hy
    · rintro H3 ⟨k3, hD3⟩
      subst en
      refine ⟨sg, D, i, j, rr, rfl, .inl (.inl hD3), hsg, fun H4 k4 => ?_⟩
      exact ⟨rr, rfl, hbig, q _ ((k12.trans k3).trans k4)⟩
end
end K31
/-! Around, reckon, the worths of a statement -/
namespace K31
open PySem PySem.Spec PyProof.Rows L2
section
variable {P : Program} {w : World} {K : PySem.W.Frag} {mg : Str → Option Value} {base : Heap}
theorem putF_len (f : Str) (v : V) : ∀ fs : List (Str × V), (putF f v fs).length ≤ fs.length + 1
  | [] => Nat.le_refl _
  | (g, x) :: r => by
    show (if g = f then (g, v) :: r else (g, x) :: putF f v r).length ≤ _
    split
    · simp
    · have h := putF_len f v r
      simp only [List.length_cons]
      omega
theorem putF_few {f : Str} {v : V} {fs : List (Str × V)} {n : Nat} (h : fs.length ≤ n) : (putF f v fs).length ≤ n + 1 := Nat.le_trans (putF_len f v fs) (Nat.succ_le_succ h)
def spAround (mg : Str → Option Value) : Sp := fun vs H Q _ => ∃ (p dx C : Addr) (b r f v : V), vs = [.ref p, b, r, f, v, .int 0] ∧ mg "Around" = some (.ref C) ∧ H p = some (.ins C dx []) ∧
  ∀ H', (∀ a, a ≠ p → H' a = H a) → H' p = some (.ins C dx (arF b r f v)) → Q .non H'
theorem sc_around_init : FnScope ["self", "boxes", "rows", "fits", "fault", "deep"] ["self", "boxes", "rows", "fits", "fault", "deep"] (defScope s_around_init) :=
  ⟨rfl, rfl, rfl, by decide +kernel, rfl, by decide +kernel, by decide +kernel⟩
theorem mk_around (T : Txt w K mg) : ∃ C f fd, mg "Around" = some (.ref C) ∧ Mk K C f ∧ FnOk P w K mg base CX0 1 f fd ["self", "boxes", "rows", "fits", "fault", "deep"] (spAround mg) ∧ Binds K fd ["self", "boxes", "rows", "fits", "fault", "deep"] [] := by
  obtain ⟨C, f, fd, hC, hM, cl, n1, n2, n3, n4, n5, F⟩ := T.around
  refine ⟨C, f, fd, hC, hM, ?_, F.bindsN (fun _ _ _ _ _ _ us hl => match us, hl with | [_, _, _, _, _, _], _ => rfl)⟩
  refine F.ok sc_around_init (fun vs H Q E h => ?_) (fun cdv A outer s H vs Q E hr h => ?_)
  · obtain ⟨_, _, _, _, _, _, _, rfl, _⟩ := h
    rfl
  obtain ⟨p, dx, C', b, r, f', v, rfl, hC', hp, q⟩ := h
  rw [hC] at hC'
  cases hC'
  refine ⟨_, PSs.nox (pss_cons (ps_fld (pv 0) (pv 1) rfl)
    (pss_cons (ps_fld (pv 0) (pv 2) rfl)
    (pss_cons (ps_fld (pv 0) (pv 3) rfl)
    (pss_cons (ps_fld (pv 0) (pv 4) rfl)
    (pss_one (ps_fld (pv 0) (pv 5) rfl)))))), ?_⟩
  simp only [cxK, cxK2, L2.start, List.map, List.length, List.replicate, List.append, HAppend.hAppend, Append.append]
  have l1 : (putF "box_worths" b []).length ≤ 1 := putF_few (Nat.le_refl 0)
  have l2 := putF_few (f := "row_worths") (v := r) l1
  have l3 := putF_few (f := "fit_bodies") (v := f') l2
  have l4 := putF_few (f := "fault_met") (v := v) l3
  refine ⟨_, rfl, _, rfl, p, _, dx, _, rfl, hp, cl, n1, (by decide), ?_⟩
  refine ⟨_, rfl, _, rfl, p, _, dx, _, rfl, upd_same, cl, n2, (by omega), ?_⟩
  refine ⟨_, rfl, _, rfl, p, _, dx, _, rfl, upd_same, cl, n3, (by omega), ?_⟩
  refine ⟨_, rfl, _, rfl, p, _, dx, _, rfl, upd_same, cl, n4, (by omega), ?_⟩
  refine ⟨_, rfl, _, rfl, p, _, dx, _, rfl, upd_same, cl, n5, (by omega), ?_⟩
  refine q _ (fun a e => ?_) upd_same
  rw [upd_ne e, upd_ne e, upd_ne e, upd_ne e, upd_ne e]
theorem or_read {b : Addr} {kvs : List (Key × V)} {σ : L2.St} {H : Hp} {Q : VK} {i : Nat} (hσ : σ[i]? = some (some (.ref b))) (hb : H b = some (.dK kvs)) (q : ∀ b' H', Kx [] H H' → H' b' = some (.dK kvs) → Q (.ref b') H') : tOrT K (tVar i) tDNewK σ H Q := by
  refine ⟨_, hσ, _, .inr (.inr ⟨kvs, hb, rfl⟩), ?_⟩
  cases kvs with
  | nil => exact iteF fun d hd => q d _ (.new hd) upd_same
  | cons p r => exact iteT (q b H (.refl _ _) hb)
def spReckon (K : PySem.W.Frag) : Sp := fun vs H Q _ => ∃ (v : V) (b r f : Addr) (fv : V) (e : Ex) (bs : List (Str × Int)) (n : Int), vs = [v, .ref b, .ref r, .ref f, fv] ∧ Dp K H v (exD e) ∧ H b = some (.dK (bxs bs)) ∧ H r = some (.dK []) ∧ H f = some (.dK []) ∧
  exM bs e = some n ∧ ∀ H' t, Kx [] H H' → SqT K H' t [.str "worth", .int n] → Q (.ref t) H'
theorem sc_reckon : FnScope ["expression", "boxes", "rows", "fits", "fault", "around"] ["expression", "boxes", "rows", "fits", "fault"] (defScope s_reckon) :=
  ⟨rfl, rfl, rfl, by decide +kernel, rfl, by decide +kernel, by decide +kernel⟩
theorem ok_reckon (T : Txt w K mg) : ∃ f fd, FunD K "reckon" "reckon" (defArgs s_reckon) (defBody s_reckon) (defScope s_reckon) [] [("boxes", .non), ("rows", .non), ("fits", .non), ("fault", .non)] f fd ∧ mg "reckon" = some (.ref f) ∧
    FnOk P w K mg base CX0 5 f fd ["expression", "boxes", "rows", "fits", "fault"] (spReckon K) ∧ KBn K fd ["expression", "boxes", "rows", "fits", "fault"] 1 ["boxes", "rows", "fits", "fault"] (fun us ws => us ++ ws) (fun vs zs => vs ++ zs) := by
  obtain ⟨C, fA, fdA, hC, hM, FA, BA⟩ := mk_around (P := P) (base := base) T
  have G_come := (gf_come (P := P) (base := base) T)
  obtain ⟨fR, fdR, F, hm⟩ := T.reckon
  have nd := sc_reckon.nd
  refine ⟨fR, fdR, F, hm, ?_, ?_⟩
  · refine F.ok sc_reckon (fun vs H Q E h => ?_) (fun cdv A outer s H vs Q E hr h => ?_)
    · obtain ⟨_, _, _, _, _, _, _, _, rfl, _⟩ := h
      rfl
    obtain ⟨v, b, r, f, fv, e, bs, n, rfl, he, hb, hrw, hf, hm, q⟩ := h
    have hu := hu_of hr
    refine ⟨_, PSs.nox (pss_cons (sT 5 nd (pe_make hM FA (hr.mono (by decide)) rfl hC BA .nil pass0 (pa_cons (pe_orT (pv 1) (pe_one pe_dnewK)) (pa_cons (pe_orT (pv 2) (pe_one pe_dnewK)) (pa_cons (pe_orT (pv 3) (pe_one pe_dnewK)) (pa_cons (pv 4) (pa_cons pe_int pa_nil)))))))
    (pss_one (ps_try_never (fun _ _ h => h) (pss_one (ps_ret (pe_tup (pa_cons pe_str (pa_cons (pe_callG G_come (hr.mono (by decide)) (pa_cons (pv 0) (pa_cons (pv 5) pa_nil))) pa_nil))))) pss_nil))), ?_⟩
    simp only [cxK, cxK2, L2.start, List.map, List.length, List.replicate, List.append, HAppend.hAppend, Append.append]
    refine or_read rfl hb fun b1 H1 k1 hb1 => ?_
    refine or_read rfl (k1.same _ _ hrw) fun r1 H2 k2 hr1 => ?_
    refine or_read rfl ((k1.trans k2).same _ _ hf) fun f1 H3 k3 hf1 => ?_
    have k03 := (k1.trans k2).trans k3
    have hb3 := (k2.trans k3).same _ _ hb1
    refine ⟨_, rfl, fun x dx nx ndx hne => ?_⟩
    refine ⟨x, dx, C, _, _, _, _, rfl, hC, upd_same, fun H4 k4 hx4 => ⟨rfl, ?_⟩⟩
    have k34 : Kx [] H3 H4 := by
      refine ⟨fun a o e _ => ?_, fun a e => ?_⟩
      · have na : a ≠ x := ne_of_none e nx
        rw [k4 a na, upd_ne na, upd_ne (ne_of_none e ndx)]
        exact e
      · by_cases z : a = x
        · subst z; exact nx
        · rw [k4 a z, upd_ne z] at e
          by_cases z2 : a = dx
          · subst z2; exact ndx
          · rw [upd_ne z2] at e
            exact e
    have k04 := k03.trans k34
    simp only [List.set]
    refine ⟨_, rfl, _, rfl, v, x, e, bs, n, rfl, k04.dp _ he, ⟨C, dx, b1, _, _, _, hC, hx4, k34.same _ _ hb3⟩, hm, fun H5 k5 => ?_⟩
    refine ⟨(by show 2 ≤ sizeLine; decide), fun t nt => ?_⟩
    exact q _ t ((k04.trans k5).trans (.new nt)) (.inl (.inl upd_same))
  · obtain ⟨oc, od, dV, kV, doc, pm, an, cdv, ct, osl, rfl, lk, hcd, hD, hK⟩ := F.ex
    rcases hD with ⟨_, rfl⟩ | ⟨e, _⟩
    · refine ⟨fun s us ws X h1 h2 => ?_, fun r1 r2 => r1.append r2⟩
      match us, h1, ws, h2 with
      | [u], _, [w1, w2, w3, w4], _ => exact .of_eq rfl
    · exact absurd rfl e
end
end K31
/-! the worths of a statement -/
namespace K31
open PySem PySem.Spec PyProof.Rows L2
section
variable {P : Program} {w : World} {K : PySem.W.Frag} {mg : Str → Option Value} {base : Heap}
def recIx : Sm → List Nat
  | .set _ _ => [2]
  | .iff _ _ => [1]
  | .loop _ _ _ _ => [2, 3, 4]
  | _ => []
def ixV (l : List Nat) : List V := l.map fun (i : Nat) => V.int (i : Int)
theorem rec_ix (st : Sm) : recV st = if recIx st = [] then none else some (ixV (recIx st)) := by cases st <;> rfl
theorem sm_parts {H : Hp} {v : V} {st : Sm} (hn : notSay st) (h : Dp K H v (smD st)) : ∃ (a : Addr) (xs vals : List V), v = .ref a ∧ SqT K H a (V.str (wordOf st) :: xs) ∧ vals.length = (recIx st).length ∧
    (∀ (i j : Nat), (recIx st)[i]? = some j → ∃ y, (V.str (wordOf st) :: xs)[j]? = some y ∧ vals[i]? = some y) ∧ DpAll K H vals ((exsOf st).map exD) := by
  cases st with
  | say es => exact hn.elim
  | set x e =>
    obtain ⟨a, v1, rfl, hs, h1⟩ := dp_set h
    refine ⟨a, _, [v1], rfl, hs, rfl, fun i j hij => ?_, .cons h1 .nil⟩
    match i, hij with
    | 0, hij => cases hij; exact ⟨v1, rfl, rfl⟩
  | iff e n =>
    obtain ⟨a, v1, rfl, hs, h1⟩ := dp_iff h
    refine ⟨a, _, [v1], rfl, hs, rfl, fun i j hij => ?_, .cons h1 .nil⟩
    match i, hij with
    | 0, hij => cases hij; exact ⟨v1, rfl, rfl⟩
  | loop x e1 e2 e3 =>
    obtain ⟨a, v1, v2, v3, rfl, hs, h1, h2, h3⟩ := dp_loop h
    refine ⟨a, _, [v1, v2, v3], rfl, hs, rfl, fun i j hij => ?_, .cons h1 (.cons h2 (.cons h3 .nil))⟩
    match i, hij with
    | 0, hij => cases hij; exact ⟨v1, rfl, rfl⟩
    | 1, hij => cases hij; exact ⟨v2, rfl, rfl⟩
    | 2, hij => cases hij; exact ⟨v3, rfl, rfl⟩
  | call n => obtain ⟨a, xs, rfl, hs⟩ := dp_sm h; exact ⟨a, xs, [], rfl, hs, rfl, (fun i j hij => by cases hij), .nil⟩
  | back => obtain ⟨a, xs, rfl, hs⟩ := dp_sm h; exact ⟨a, xs, [], rfl, hs, rfl, (fun i j hij => by cases hij), .nil⟩
  | again x => obtain ⟨a, xs, rfl, hs⟩ := dp_sm h; exact ⟨a, xs, [], rfl, hs, rfl, (fun i j hij => by cases hij), .nil⟩
  | stop => obtain ⟨a, xs, rfl, hs⟩ := dp_sm h; exact ⟨a, xs, [], rfl, hs, rfl, (fun i j hij => by cases hij), .nil⟩
  | fin => obtain ⟨a, xs, rfl, hs⟩ := dp_sm h; exact ⟨a, xs, [], rfl, hs, rfl, (fun i j hij => by cases hij), .nil⟩
theorem say_or (st : Sm) : (∃ es, st = .say es) ∨ notSay st := by
  cases st <;> first | exact .inl ⟨_, rfl⟩ | exact .inr trivial
theorem word_say {st : Sm} (h : notSay st) : ¬ wordOf st = "say" := by
  cases st <;> first | exact h.elim | (simp only [wordOf]; decide +kernel)
def spExprs (K : PySem.W.Frag) : Sp := fun vs H Q _ => ∃ (v : V) (st : Sm), vs = [v] ∧ Dp K H v (smD st) ∧ ∀ H' l xs, Kx [] H H' → H' l = some (.lst xs) → DpAll K H' xs ((exsOf st).map exD) → Q (.ref l) H'
theorem sc_expressions_of : FnScope ["statement", "at"] ["statement"] (defScope s_expressions_of) :=
  ⟨rfl, rfl, rfl, by decide +kernel, rfl, by decide +kernel, by decide +kernel⟩
theorem gf_expressions_of (T : Txt w K mg) : Gf P w K mg base 1 "expressions_of" (spExprs K) := by
  have nd := sc_expressions_of.nd
  refine gf_mk T.expressions_of sc_expressions_of (fun vs H Q E h => ?_) (fun _ _ _ _ _ _ us hl => match us, hl with | [_], _ => rfl) (fun f cdv A outer s H vs Q E hr h => ?_)
  · obtain ⟨v, st, rfl, h, q⟩ := h
    rfl
  obtain ⟨v, st, rfl, h, q⟩ := h
  have hu := hu_of hr
  obtain ⟨dR, esR, nR, g_RECKONED, hR, hT⟩ := T.reck
  refine ⟨_, (pss_cons (ps_if (pt_cmpR op_eq (pe_ix (r := rIxT K) ix_tup (pv 0) pe_int (fun _ _ => rfl)) pe_str (nomark _))
      (pss_one (ps_ret (pe_callTy call_list_of (by rfl) T.list (by decide +kernel) (pa_cons (pe_ix (r := rIxT K) ix_tup (pv 0) pe_int (fun _ _ => rfl)) pa_nil))))
      pss_nil)
    (pss_one (ps_ret (pe_lc (own := [("at", 1)]) (g := (gName 1)) (by rfl) nd (pi_tup (pe_kget2 (pe_globR g_RECKONED) (pe_ix ix_tup (pv 0) pe_int (fun _ _ => rfl)) (pe_tup pa_nil) ⟨rfl, rfl, rfl, rfl⟩)) (blkOk_by (own := [("at", 1)]) (N := ["statement", "at"]) (sc := defScope s_expressions_of) (by decide +kernel)) (fun _ _ _ _ _ => (gN 1 nd)) (fun _ _ _ _ _ => pts_nil) (fun _ _ _ _ _ => (pe_ix (r := rIxT K) ix_tup (pv 0) (pv 1) (fun _ _ => rfl))))))), ?_⟩
  simp only [cxK, cxK2, L2.start, List.map, List.length, List.replicate, List.append, HAppend.hAppend, Append.append]
  rcases say_or st with ⟨es, rfl⟩ | hn
  · obtain ⟨a, v1, rfl, hs, h1⟩ := dp_say h
    obtain ⟨b, ys, rfl, hb, hd⟩ := dp_tup h1
    refine ⟨_, rfl, a, _, _, _, rfl, rfl, hs, atI_nat (j := 0) rfl, rfl, _, rfl, ?_⟩
    rw [decST]
    refine iteT ⟨_, rfl, a, _, _, _, rfl, rfl, hs, atI_nat (j := 1) rfl, b, _, rfl, .inr hb, fun l hl => ?_⟩
    exact q _ l _ (.new hl) upd_same ((Kx.new (ks := []) hl).dpAll _ hd)
  · obtain ⟨a, xs, vals, rfl, hs, hvl, hix, hd⟩ := sm_parts hn h
    refine ⟨_, rfl, a, _, _, _, rfl, rfl, hs, atI_nat (j := 0) rfl, rfl, _, rfl, ?_⟩
    rw [decS (word_say hn)]
    refine iteF ?_
    have hrec := hT st hn
    have hri := rec_ix st
    -- the tuple of the places
    obtain ⟨r, hns, hcase⟩ : ∃ r, PySem.W.nsIn K dR (wordOf st) = some r ∧ ((r = none ∧ recIx st = []) ∨ ∃ ta, r = some (.ref ta) ∧ ∀ H, SqT K H ta (ixV (recIx st))) := by
      by_cases e : recIx st = []
      · rw [if_pos e] at hri
        rw [hri] at hrec
        exact ⟨none, hrec, .inl ⟨rfl, e⟩⟩
      · rw [if_neg e] at hri
        rw [hri] at hrec
        obtain ⟨ta, h1, h2⟩ := hrec
        exact ⟨_, h1, .inr ⟨ta, rfl, h2⟩⟩
    refine ⟨dR, esR, nR, hR, rfl, _, rfl, a, _, _, _, rfl, rfl, hs, atI_nat (j := 0) rfl, (by show 0 ≤ sizeLine; decide), fun p0 np0 => ?_⟩
    have k0 : Kx [] H (upd H p0 (.tup [])) := .new np0
    have t0 : SqT K (upd H p0 (.tup [])) p0 [] := .inl (.inl upd_same)
    generalize upd H p0 (.tup []) = H0 at k0 t0 ⊢
    have hs0 := k0.sqT hs
    have hd0 := k0.dpAll _ hd
    obtain ⟨ta, hta, hrel⟩ : ∃ ta, SqT K H0 ta (ixV (recIx st)) ∧ (∀ u, r = some u → L2.RelV (.ref ta) u) ∧ (r = none → V.ref ta = .ref p0) := by
      rcases hcase with ⟨e1, e2⟩ | ⟨ta, e1, h1⟩
      · rw [e2]
        exact ⟨p0, t0, fun u z => (by rw [e1] at z; cases z), fun _ => rfl⟩
      · exact ⟨ta, h1 H0, fun u z => (by rw [e1] at z; cases z; rfl), fun z => (by rw [e1] at z; cases z)⟩
    refine ⟨_, r, .ref ta, rfl, hns, hrel.1, hrel.2, ta, rfl, ⟨_, hta⟩, fun D hD => lc_tup (K := K) (a := ta) (xs := ixV (recIx st)) (fun i H' => Kx [] H0 H' ∧ H' D = some (.lst (vals.take i))) ⟨.new hD, upd_same⟩ (fun i H' _ h => h.1.sqT hta) ?_ ?_⟩
    · rintro i y H' hy ⟨k2, hD2⟩
      unfold ixV at hy
      rw [List.getElem?_map] at hy
      cases ej : (recIx st)[i]? with
      | none => rw [ej] at hy; cases hy
      | some j =>
        rw [ej] at hy
        cases hy
        obtain ⟨y, hy1, hy2⟩ := hix i j ej
        refine ⟨rfl, _, rfl, _, rfl, a, _, _, _, rfl, rfl, k2.sqT hs0, atI_nat hy1, _, hD2, ?_, k2.grow hD, ?_⟩
        · have l1 : vals.length ≤ 3 := by rw [hvl]; cases st <;> simp [recIx]
          refine small1000 ?_
          rw [List.length_take]
          omega
        · rw [upd_same]
          obtain ⟨hi, e⟩ := List.getElem?_eq_some_iff.mp hy2
          rw [List.take_succ_eq_append_getElem hi, e]
    · rintro H' ⟨k2, hD2⟩
      have e : vals.take (ixV (recIx st)).length = vals := by
        unfold ixV
        rw [List.length_map, ← hvl, List.take_length]
      rw [e] at hD2
      exact q _ D vals (k0.trans k2) hD2 (k2.dpAll _ hd0)
theorem exs_get {bs : List (Str × Int)} : ∀ {es : List Ex} {ws : List Int}, exsM bs es = some ws → ws.length = es.length ∧ ∀ (i : Nat) (e : Ex), es[i]? = some e → ∃ n : Int, exM bs e = some n ∧ ws[i]? = some n
  | [], ws, h => by
    cases h
    exact ⟨rfl, fun i e z => by cases z⟩
  | e :: r, ws, h => by
    unfold exsM at h
    cases h1 : exM bs e with
    | none => simp only [h1] at h; cases h
    | some n =>
      cases h2 : exsM bs r with
      | none => simp only [h1, h2] at h; cases h
      | some l =>
        simp only [h1, h2] at h
        cases h
        obtain ⟨l1, l2⟩ := exs_get h2
        refine ⟨congrArg Nat.succ l1, fun i e' z => ?_⟩
        cases i with
        | zero => cases z; exact ⟨n, h1, rfl⟩
        | succ i => exact l2 i e' z
def spWorths (K : PySem.W.Frag) : Sp := fun vs H Q _ => ∃ (d : Addr) (k : Kn) (s : Sx) (v : V) (st : Sm) (ws : List Int), vs = [.ref d, v] ∧ KnS K H d k s ∧ Dp K H v (smD st) ∧ (exsOf st).length ≤ 100 ∧ exsM s.boxes (exsOf st) = some ws ∧
  ∀ H' t u, Kx [] H H' → SqT K H' t [u, .non] → Dp K H' u (rowD ws) → Q (.ref t) H'
theorem sc_worths_of : FnScope ["known", "statement", "found", "one", "word", "more"] ["known", "statement"] (defScope s_worths_of) :=
  ⟨rfl, rfl, rfl, by decide +kernel, rfl, by decide +kernel, by decide +kernel⟩
theorem gf_worths_of (T : Txt w K mg) : Gf P w K mg base 6 "worths_of" (spWorths K) := by
  have nd := sc_worths_of.nd
  refine gf_mk T.worths_of sc_worths_of (fun vs H Q E h => ?_) (fun _ _ _ _ _ _ us hl => match us, hl with | [_, _], _ => rfl) (fun f cdv A outer s H vs Q E hr h => ?_)
  · obtain ⟨d, k, s, v, st, ws, rfl, S, hst, hlen, hm, q⟩ := h
    rfl
  obtain ⟨d, k, s, v, st, ws, rfl, S, hst, hlen, hm, q⟩ := h
  have hu := hu_of hr
  have G_expressions_of := (gf_expressions_of (P := P) (base := base) T)
  obtain ⟨fR, fdR, FR0, hR, FR, KB⟩ := ok_reckon (P := P) (base := base) T
  refine ⟨_, (pss_cons (sT 2 nd (pe_tup pa_nil))
    (pss_cons (ps_for PassesOwn.never rfl (pi_list (pe_callG G_expressions_of (hr.mono (by decide)) (pa_cons (pv 1) pa_nil))) (gN 3 nd)
      (pss_cons (ps_asg (pe_callN FR (hr.mono (by decide)) rfl hR FR0.kp KB pass0 (pa_cons (pv 3) pa_nil) (pk_cons (pe_dget hu (pv 0) pe_str (fun _ _ => rfl)) (pk_cons (pe_dget hu (pv 0) pe_str (fun _ _ => rfl)) (pk_cons (pe_dget hu (pv 0) pe_str (fun _ _ => rfl)) (pk_cons (pe_dget hu (pv 0) pe_str (fun _ _ => rfl)) pk_nil))))) (pg_tup (n := 2) (by rfl) (pgs_cons (gN 4 nd) (pgs_cons (gN 5 nd) pgs_nil))))
      (pss_cons (ps_if (pt_cmpR op_eq (pv 4) pe_str (nomark _))
        pss_never
        pss_nil)
      (pss_one (ps_aug (i := 2) nd rfl (by first | exact Or.inl rfl | exact Or.inr rfl) (pe_tup (pa_cons (pv 5) pa_nil)) ip_catA)))))
    (pss_one (ps_ret (pe_tup (pa_cons (pv 2) (pa_cons pe_non pa_nil))))))), ?_⟩
  simp only [cxK, cxK2, L2.start, List.map, List.length, List.replicate, List.append, HAppend.hAppend, Append.append]
  obtain ⟨hwl, hget⟩ := exs_get hm
  refine ⟨(by show 0 ≤ sizeLine; decide), fun p0 np0 => ?_⟩
  have k0 : Kx [] H (upd H p0 (.tup [])) := .new np0
  have t0 : Dp K (upd H p0 (.tup [])) (.ref p0) (rowD []) := tup_new np0 .nil
  generalize upd H p0 (.tup []) = H0 at k0 t0 ⊢
  simp only [List.set]
  refine ⟨_, rfl, v, st, rfl, k0.dp _ hst, fun H1 l xs k1 hl hds => ?_⟩
  have k01 := k0.trans k1
  have hxl : xs.length = (exsOf st).length := by rw [dpa_len hds, List.length_map]
  refine ⟨l, rfl, ⟨xs, .inl (.inl hl)⟩, for_list (K := K) (a := l) (xs := xs) (fun i σ H' => Kx [] H1 H' ∧ ∃ fv v3 v4 v5, σ = [some (.ref d), some v, some fv, v3, v4, v5] ∧ Dp K H' fv (rowD (ws.take i))) ⟨.refl _ _, _, none, none, none, rfl, k1.dp _ t0⟩ (fun i σ H' _ h => h.1.sqL (.inl (.inl hl))) ?_ ?_⟩
  · rintro i y σ H' hy ⟨k2, fv, v3, v4, v5, rfl, hf⟩
    obtain ⟨dd, ed, hyd⟩ := dpa_get hds i y hy
    rw [List.getElem?_map] at ed
    cases ee : (exsOf st)[i]? with
    | none => rw [ee] at ed; cases ed
    | some e =>
      rw [ee] at ed
      cases ed
      obtain ⟨n, hn, hwi⟩ := hget i e ee
      have k02 := k01.trans k2
      have S2 := S.keep0 k02
      have hyd2 := k2.dp _ hyd
      simp only [List.set]
      refine ⟨_, rfl, _, rfl, d, _, rfl, dget (k := Sum.inr "boxes") S2.dk (kv_boxes _ _ _), _, rfl, d, _, rfl, dget (k := Sum.inr "rows") S2.dk (kv_rows _ _ _), _, rfl, d, _, rfl, dget (k := Sum.inr "fits") S2.dk (kv_fits _ _ _), _, rfl, d, _, rfl, dget (k := Sum.inr "fault") S2.dk (kv_fault _ _ _), rfl, rfl, ?_⟩
      refine ⟨y, k.bd, k.rd, k.fd, k.fault, e, s.boxes, n, rfl, hyd2, S2.bx, S2.rw_, S2.ft, hn, fun H3 t k3 ht => ?_⟩
      refine ⟨t, _, rfl, ht, rfl, _, _, rfl, _, _, rfl, rfl, ?_⟩
      simp only [List.set]
      refine ⟨_, rfl, rfl, _, rfl, ?_⟩
      rw [decS (show ¬ ("worth" : Str) = "fault" by decide +kernel)]
      refine iteF ⟨_, rfl, _, rfl, (by show 1 ≤ sizeLine; decide), fun t2 nt2 => ?_⟩
      have k4 : Kx [] H3 (upd H3 t2 (.tup [.int n])) := .new nt2
      have D4 : Dp K (upd H3 t2 (.tup [.int n])) (.ref t2) (rowD [n]) := tup_new nt2 (.cons (.int n) .nil)
      have hf4 := (k3.trans k4).dp _ hf
      refine cat_dp (ds := (ws.take i).map .int) (es := [.int n]) hf4 D4 ?_ fun H5 r5 k5 D5 => ?_
      · rw [List.length_map, List.length_take]
        show min _ _ + 1 ≤ sizeLine
        rw [sizeLine_eq]
        omega
      refine ⟨((k2.trans k3).trans k4).trans k5, r5, _, _, _, rfl, ?_⟩
      obtain ⟨hi, e2⟩ := List.getElem?_eq_some_iff.mp hwi
      unfold rowD
      rw [List.take_succ_eq_append_getElem hi, List.map_append, e2]
      exact D5
  · rintro σ H' ⟨k2, fv, v3, v4, v5, rfl, hf⟩
    rw [hxl, ← hwl, List.take_length] at hf
    refine ⟨_, rfl, (by show 2 ≤ sizeLine; decide), fun t nt => ?_⟩
    exact q _ t fv ((k01.trans k2).trans (.new nt)) (.inl (.inl upd_same)) ((Kx.new (ks := []) nt).dp _ hf)
end
end K31
/-! what lines do -/
namespace K31
open PySem PySem.Spec PyProof.Rows L2
section
variable {P : Program} {w : World} {K : PySem.W.Frag} {mg : Str → Option Value} {base : Heap}
theorem dp_row {H : Hp} {u : V} {ws : List Int} (h : Dp K H u (rowD ws)) : ∃ a, u = .ref a ∧ SqT K H a (ws.map V.int) := by
  obtain ⟨a, xs, rfl, hs, hd⟩ := dp_tup h
  have gen : ∀ (l : List Int) (xs : List V), DpAll K H xs (l.map .int) → xs = l.map V.int := by
    intro l
    induction l with
    | nil => intro xs h; exact dpa_nil h
    | cons n r ih =>
      intro xs h
      obtain ⟨v, r', rfl, h1, h2⟩ := dpa_cons h
      cases dp_int h1
      rw [ih _ h2]
      rfl
  rw [gen ws xs hd] at hs
  exact ⟨a, rfl, hs⟩
def spPutInBox (K : PySem.W.Frag) : Sp := fun vs H Q _ => ∃ (d : Addr) (k : Kn) (s : Sx) (v u : V) (x : Str) (e : Ex) (n : Int), vs = [.ref d, v, u] ∧ KnS K H d k s ∧ Dp K H v (smD (.set x e)) ∧ Dp K H u (rowD [n]) ∧ s.boxes.length < 60 ∧ Did K H d k { s with boxes := putB s.boxes x n } none Q
theorem sc_put_in_box : FnScope ["known", "statement", "worths"] ["known", "statement", "worths"] (defScope s_put_in_box) :=
  ⟨rfl, rfl, rfl, by decide +kernel, rfl, by decide +kernel, by decide +kernel⟩
theorem gf_put_in_box (T : Txt w K mg) : Gf P w K mg base 1 "put_in_box" (spPutInBox K) := by
  have nd := sc_put_in_box.nd
  refine gf_mk T.put_in_box sc_put_in_box (fun vs H Q E h => ?_) (fun _ _ _ _ _ _ us hl => match us, hl with | [_, _, _], _ => rfl) (fun f cdv A outer s H vs Q E hr h => ?_)
  · obtain ⟨d, k, s, v, u, x, e, n, rfl, S, hst, hw, hb, q⟩ := h
    rfl
  obtain ⟨d, k, s, v, u, x, e, n, rfl, S, hst, hw, hb, q⟩ := h
  have hu := hu_of hr
  refine ⟨_, (pss_one (ps_dput hu (pe_dget hu (pv 0) pe_str (fun _ _ => rfl)) (pe_ix (r := rIxT K) ix_tup (pv 1) pe_int (fun _ _ => rfl)) (pe_ix (r := rIxT K) ix_tup (pv 2) pe_int (fun _ _ => rfl)) rfl)), ?_⟩
  simp only [cxK, cxK2, L2.start, List.map, List.length, List.replicate, List.append, HAppend.hAppend, Append.append]
  obtain ⟨a, v1, rfl, hs, _⟩ := dp_set hst
  obtain ⟨wa, rfl, hwt⟩ := dp_row hw
  refine ⟨_, rfl, wa, _, _, _, rfl, rfl, hwt, atI_nat (j := 0) rfl, _, rfl, d, _, rfl, dget (k := Sum.inr "boxes") S.dk (kv_boxes _ _ _), _, rfl, a, _, _, _, rfl, rfl, hs, atI_nat (j := 1) rfl, k.bd, _, rfl, dput (k := Sum.inr x) S.bx (bxs_len S.small.b), ?_⟩
  exact q _ k (S.bput _) rfl (S.setBox x n hb)
def spSayDone (K : PySem.W.Frag) : Sp := fun vs H Q _ => ∃ (d : Addr) (k : Kn) (s : Sx) (v u : V) (ws : List Int), vs = [.ref d, v, u] ∧ KnS K H d k s ∧ Dp K H u (rowD ws) ∧ s.said.length < 5000 ∧ Did K H d k { s with said := s.said ++ [ws] } none Q
theorem sc_say_done : FnScope ["known", "statement", "worths"] ["known", "statement", "worths"] (defScope s_say_done) :=
  ⟨rfl, rfl, rfl, by decide +kernel, rfl, by decide +kernel, by decide +kernel⟩
theorem gf_say_done (T : Txt w K mg) : Gf P w K mg base 1 "say_done" (spSayDone K) := by
  have nd := sc_say_done.nd
  refine gf_mk T.say_done sc_say_done (fun vs H Q E h => ?_) (fun _ _ _ _ _ _ us hl => match us, hl with | [_, _, _], _ => rfl) (fun f cdv A outer s H vs Q E hr h => ?_)
  · obtain ⟨d, k, s, v, u, ws, rfl, S, hw, hb, q⟩ := h
    rfl
  obtain ⟨d, k, s, v, u, ws, rfl, S, hw, hb, q⟩ := h
  have hu := hu_of hr
  refine ⟨_, (pss_one (ps_daug hu (pv 0) pe_str (pe_tup (pa_cons (pv 2) pa_nil)) in_catA (fun _ _ _ => rfl))), ?_⟩
  simp only [cxK, cxK2, L2.start, List.map, List.length, List.replicate, List.append, HAppend.hAppend, Append.append]
  refine ⟨_, rfl, d, _, rfl, dget (k := Sum.inr "said") S.dk (kv_said _ _ _), _, rfl, (by show 1 ≤ sizeLine; decide), fun t nt => ?_⟩
  have k1 : Kx [] H (upd H t (.tup [u])) := .new nt
  have D1 : Dp K (upd H t (.tup [u])) (.ref t) (saidD [ws]) := tup_new nt (.cons hw .nil)
  have S1 := S.keep0 k1
  refine cat_dp (ds := s.said.map rowD) (es := [rowD ws]) S1.said D1 ?_ fun H2 r k2 D2 => ?_
  · rw [List.length_map]
    show s.said.length + 1 ≤ sizeLine
    rw [sizeLine_eq]
    omega
  have S2 := S1.keep0 k2
  have D2' : Dp K H2 r (saidD (s.said ++ [ws])) := by
    unfold saidD
    rw [List.map_append]
    exact D2
  refine ⟨_, dput (k := Sum.inr "said") S2.dk (kv_len _ _ _), ?_⟩
  refine q _ { k with said := r } (((k1.trans k2).sub (fun _ z => nomatch z)).trans (S2.kput _)) rfl ?_
  exact S2.setSaid D2' (by rw [List.length_append]; show _ + 1 ≤ 5000; omega)
def spJumpDone (K : PySem.W.Frag) : Sp := fun vs H Q _ => ∃ (v : V) (p : Pr) (d : Addr) (k : Kn) (s : Sx) (t : Int), vs = [v, .ref d, .int t] ∧ IsPr K H v p ∧ KnS K H d k s ∧ hasLine p t = true ∧ Did K H d k { s with at_ := t } none Q
theorem sc_jump_done : FnScope ["program", "known", "target"] ["program", "known", "target"] (defScope s_jump_done) :=
  ⟨rfl, rfl, rfl, by decide +kernel, rfl, by decide +kernel, by decide +kernel⟩
theorem gf_jump_done (T : Txt w K mg) : Gf P w K mg base 2 "jump_done" (spJumpDone K) := by
  have nd := sc_jump_done.nd
  refine gf_mk T.jump_done sc_jump_done (fun vs H Q E h => ?_) (fun _ _ _ _ _ _ us hl => match us, hl with | [_, _, _], _ => rfl) (fun f cdv A outer s H vs Q E hr h => ?_)
  · obtain ⟨v, p, d, k, s, t, rfl, hp, S, ht, q⟩ := h
    rfl
  obtain ⟨v, p, d, k, s, t, rfl, hp, S, ht, q⟩ := h
  have hu := hu_of hr
  have G_has_line := (gf_has_line (P := P) (base := base) T)
  have G_go_behind := (gf_go_behind (P := P) (base := base) T)
  have G_is_number_loops := (gf_is_number_loops (P := P) (base := base) T)
  obtain ⟨_, g_MOST_FRAMES⟩ := T.frames
  refine ⟨_, (pss_cons (ps_if (pt_not (pt_val (pe_callG G_has_line (hr.mono (by decide)) (pa_cons (pv 0) (pa_cons (pv 2) pa_nil)))))
      (pss_one (ps_ret pe_str))
      pss_nil)
    (pss_cons (ps_dput hu (pv 1) pe_str (pv 2) rfl)
    (pss_one (ps_ret pe_non)))), ?_⟩
  simp only [cxK, cxK2, L2.start, List.map, List.length, List.replicate, List.append, HAppend.hAppend, Append.append]
  refine ⟨_, rfl, _, rfl, v, p, t, rfl, hp, fun H1 k1 => ⟨_, rfl, ?_⟩⟩
  rw [ht]
  refine iteF ?_
  have S1 := S.keep0 k1
  refine ⟨_, rfl, _, rfl, d, _, rfl, dput (k := Sum.inr "at") S1.dk (kv_len _ _ _), ?_⟩
  exact q _ k ((k1.sub (fun _ z => nomatch z)).trans (S1.kput _)) rfl (S1.setAt t)
def spCallDone (K : PySem.W.Frag) : Sp := fun vs H Q _ => ∃ (v : V) (p : Pr) (d : Addr) (k : Kn) (s : Sx) (n t : Int), vs = [v, .ref d, .int n, .int t] ∧ IsPr K H v p ∧ KnS K H d k s ∧ hasLine p t = true ∧ s.pile.length < 50 ∧ Did K H d k { s with pile := s.pile ++ [.call n], at_ := t } none Q
theorem sc_call_done : FnScope ["program", "known", "number", "target"] ["program", "known", "number", "target"] (defScope s_call_done) :=
  ⟨rfl, rfl, rfl, by decide +kernel, rfl, by decide +kernel, by decide +kernel⟩
theorem gf_call_done (T : Txt w K mg) : Gf P w K mg base 2 "call_done" (spCallDone K) := by
  have nd := sc_call_done.nd
  refine gf_mk T.call_done sc_call_done (fun vs H Q E h => ?_) (fun _ _ _ _ _ _ us hl => match us, hl with | [_, _, _, _], _ => rfl) (fun f cdv A outer s H vs Q E hr h => ?_)
  · obtain ⟨v, p, d, k, s, n, t, rfl, hp, S, ht, hl, q⟩ := h
    rfl
  obtain ⟨v, p, d, k, s, n, t, rfl, hp, S, ht, hl, q⟩ := h
  have hu := hu_of hr
  have G_has_line := (gf_has_line (P := P) (base := base) T)
  have G_go_behind := (gf_go_behind (P := P) (base := base) T)
  have G_is_number_loops := (gf_is_number_loops (P := P) (base := base) T)
  obtain ⟨_, g_MOST_FRAMES⟩ := T.frames
  refine ⟨_, (pss_cons (ps_if (pt_not (pt_val (pe_callG G_has_line (hr.mono (by decide)) (pa_cons (pv 0) (pa_cons (pv 3) pa_nil)))))
      (pss_one (ps_ret pe_str))
      pss_nil)
    (pss_cons (ps_if (pt_cmpR op_ge (pe_callB call_len_seq (by rfl) T.len boot_len (pa_cons (pe_dget hu (pv 1) pe_str (fun _ _ => rfl)) pa_nil)) (pe_globI g_MOST_FRAMES) (nomark _))
      (pss_one (ps_ret pe_str))
      pss_nil)
    (pss_cons (ps_daug hu (pv 1) pe_str (pe_tup (pa_cons (pe_tup (pa_cons pe_str (pa_cons (pv 2) pa_nil))) pa_nil)) in_catA (fun _ _ _ => rfl))
    (pss_cons (ps_dput hu (pv 1) pe_str (pv 3) rfl)
    (pss_one (ps_ret pe_non)))))), ?_⟩
  simp only [cxK, cxK2, L2.start, List.map, List.length, List.replicate, List.append, HAppend.hAppend, Append.append]
  refine ⟨_, rfl, _, rfl, v, p, t, rfl, hp, fun H1 k1 => ⟨_, rfl, ?_⟩⟩
  rw [ht]
  refine iteF ?_
  have S1 := S.keep0 k1
  obtain ⟨pa, pxs, ep, hpt, hpd⟩ := dp_tup S1.pile
  have hpl : pxs.length = s.pile.length := by rw [dpa_len hpd, List.length_map]
  refine ⟨_, rfl, d, _, rfl, dget (k := Sum.inr "pile") S1.dk (by rw [kv_pile, ep]), pa, pxs, rfl, .inr hpt, _, _, rfl, rfl, _, rfl, ?_⟩
  rw [decide_eq_false (show ¬ (pxs.length : Int) ≥ 50 by omega)]
  refine iteF ?_
  refine ⟨_, rfl, d, _, rfl, dget (k := Sum.inr "pile") S1.dk (kv_pile _ _ _), _, rfl, (by show 2 ≤ sizeLine; decide), fun t1 nt1 => ?_⟩
  refine ⟨(by show 1 ≤ sizeLine; decide), fun t2 nt2 => ?_⟩
  have k2 : Kx [] H1 (upd H1 t1 (.tup [.str "call", .int n])) := .new nt1
  have D2 : Dp K (upd H1 t1 (.tup [.str "call", .int n])) (.ref t1) (frD (.call n)) := tup_new nt1 (.cons (.str _) (.cons (.int _) .nil))
  generalize upd H1 t1 (.tup [.str "call", .int n]) = H2 at k2 D2 nt2 ⊢
  have k3 : Kx [] H2 (upd H2 t2 (.tup [.ref t1])) := .new nt2
  have D3 : Dp K (upd H2 t2 (.tup [.ref t1])) (.ref t2) (pileD [.call n]) := tup_new nt2 (.cons D2 .nil)
  refine cat_dp (ds := s.pile.map frD) (es := [frD (.call n)]) ((k2.trans k3).dp _ S1.pile) D3 ?_ fun H4 r k4 D4 => ?_
  · rw [List.length_map]
    show s.pile.length + 1 ≤ sizeLine
    rw [sizeLine_eq]
    omega
  have k24 := (k2.trans k3).trans k4
  have S4 := S1.keep0 k24
  have D4' : Dp K H4 r (pileD (s.pile ++ [.call n])) := by
    unfold pileD
    rw [List.map_append]
    exact D4
  refine ⟨_, dput (k := Sum.inr "pile") S4.dk (kv_len _ _ _), ?_⟩
  have S5 := S4.setPile D4' (by rw [List.length_append]; show _ + 1 ≤ 50; omega)
  have k5 := S4.kput (putK (kvOf s.stand s.at_ k) (Sum.inr "pile") r)
  refine ⟨_, rfl, _, rfl, d, _, rfl, dput (k := Sum.inr "at") S5.dk (kv_len _ _ _), ?_⟩
  exact q _ { k with pile := r } ((((k1.trans k24).sub (fun _ z => nomatch z)).trans k5).trans (S5.kput _)) rfl (S5.setAt t)
theorem walk_enumT {a : Addr} {xs : List V} : Walk (IteT K a) xs.length (fun H => SqT K H a xs) (YPair (fun i => some (.int (i : Nat))) (fun i => xs[i]?)) := by
  refine ⟨fun i _ hi q => ⟨xs, xs[i], q, by simp [hi]⟩, fun _ q => ⟨xs, q, Nat.le_refl _⟩, fun i H v H' _ q y => ?_⟩
  obtain ⟨T, x, h1, h2, h3, h4⟩ := y
  exact ⟨T, .int (i : Nat), x, h1, h2, h3, rfl, h4 xs q⟩
def isCall : Fr → Bool
  | .call _ => true
  | _ => false
/-- the places of the calls below k -/
def callIx (pile : List Fr) : Nat → List Nat
  | 0 => []
  | k + 1 => match pile[k]? with
    | some (.call _) => callIx pile k ++ [k]
    | _ => callIx pile k
theorem call_last (pile : List Fr) : ∀ k, callAt pile k = (callIx pile k).getLast?
  | 0 => rfl
  | k + 1 => by
    have ih := call_last pile k
    unfold callAt callIx
    cases h : pile[k]? with
    | none => exact ih
    | some f =>
      cases f with
      | call n => simp
      | loop x n b c => exact ih
theorem callIx_len (pile : List Fr) : ∀ k, (callIx pile k).length ≤ k
  | 0 => Nat.le_refl _
  | k + 1 => by
    have ih := callIx_len pile k
    unfold callIx
    split
    · rw [List.length_append]; show _ + 1 ≤ k + 1; omega
    · omega
theorem ints_lay : ∀ l : List Int, PyData.canLayAll0 (l.map .int) = true
  | [] => by simp [PyData.canLayAll0]
  | n :: r => by simp [PyData.canLayAll0, PyData.canLay0, ints_lay r]
theorem ints_deep : ∀ l : List Int, PyData.depthAll (l.map .int) = 0
  | [] => by simp [PyData.depthAll]
  | n :: r => by simp [PyData.depthAll, PyData.depth, ints_deep r]
theorem ints_shaped (l : List Int) : SeqAt.shaped (.list (l.map .int)) = true := by
  show (PyData.canLay0 (.list (l.map .int)) && decide (PyData.depth (.list (l.map .int)) ≤ 64)) = true
  have h1 : PyData.canLay0 (.list (l.map .int)) = true := by simp only [PyData.canLay0]; exact ints_lay l
  have h2 : PyData.depth (.list (l.map .int)) ≤ 64 := by simp only [PyData.depth, ints_deep]; omega
  rw [h1, decide_eq_true h2]
  rfl
def spBackDone (K : PySem.W.Frag) : Sp := fun vs H Q _ => ∃ (v : V) (p : Pr) (d : Addr) (k : Kn) (s : Sx) (j : Nat) (m : Int), vs = [v, .ref d] ∧ IsPr K H v p ∧ KnS K H d k s ∧ callAt s.pile s.pile.length = some j ∧ s.pile[j]? = some (.call m) ∧ Did K H d k (goBehind p { s with pile := s.pile.take j } m) none Q
theorem sc_back_done : FnScope ["program", "known", "calls", "word", "number", "at", "frame"] ["program", "known"] (defScope s_back_done) :=
  ⟨rfl, rfl, rfl, by decide +kernel, rfl, by decide +kernel, by decide +kernel⟩
theorem gf_back_done (T : Txt w K mg) : Gf P w K mg base 3 "back_done" (spBackDone K) := by
  have nd := sc_back_done.nd
  refine gf_mk T.back_done sc_back_done (fun vs H Q E h => ?_) (fun _ _ _ _ _ _ us hl => match us, hl with | [_, _], _ => rfl) (fun f cdv A outer s H vs Q E hr h => ?_)
  · obtain ⟨v, p, d, k, s, j, m, rfl, hp, S, hj, hjm, q⟩ := h
    rfl
  obtain ⟨v, p, d, k, s, j, m, rfl, hp, S, hj, hjm, q⟩ := h
  have hu := hu_of hr
  have G_has_line := (gf_has_line (P := P) (base := base) T)
  have G_go_behind := (gf_go_behind (P := P) (base := base) T)
  have G_is_number_loops := (gf_is_number_loops (P := P) (base := base) T)
  obtain ⟨_, g_MOST_FRAMES⟩ := T.frames
  refine ⟨_, (pss_cons (ps_setLc (i := 2) (own := [("at", 5), ("frame", 6)]) (g := (gTup K 2 (gCons (gName 5) (gCons (gName 6) gNil)))) (by rfl) nd rfl rfl (sw_true rfl rfl rfl (by decide +kernel)) (pi_enumT (by rfl) T.enumerate (pa_cons (pe_dget hu (pv 1) pe_str (fun _ _ => rfl)) pa_nil)) (blkOk_by (own := [("at", 5), ("frame", 6)]) (N := ["program", "known", "calls", "word", "number", "at", "frame"]) (sc := defScope s_back_done) (by decide +kernel)) (fun _ _ _ _ _ => (pg_tup (n := 2) (by rfl) (pgs_cons (gN 5 nd) (pgs_cons (gN 6 nd) pgs_nil)))) (fun _ _ _ _ _ => (pts_one (pt_cmpR op_eq (pe_ix (r := rIxT K) ix_tup (pv 6) pe_int (fun _ _ => rfl)) pe_str (nomark _)))) (fun _ _ _ _ _ => (pv 5)))
    (pss_cons (ps_if (pt_cmpR (op_eqD hr.units) (pv 2) (pe_lst pa_nil) (nomark _))
      (pss_one (ps_ret pe_str))
      pss_nil)
    (pss_cons (ps_asg (pe_ix (r := rIxT K) ix_tup (pe_dget hu (pv 1) pe_str (fun _ _ => rfl)) (pe_ix (r := rIxL K) ix_list (pv 2) (pe_un un_neg pe_int) (fun _ _ => rfl)) (fun _ _ => rfl)) (pg_tup (n := 2) (by rfl) (pgs_cons (gN 3 nd) (pgs_cons (gN 4 nd) pgs_nil))))
    (pss_cons (ps_dput hu (pv 1) pe_str (pe_slice sl_tupA (pe_dget hu (pv 1) pe_str (fun _ _ => rfl)) po_none (po_some (pe_ix (r := rIxL K) ix_list (pv 2) (pe_un un_neg pe_int) (fun _ _ => rfl)))) rfl)
    (pss_cons (ps_expr (pe_callG G_go_behind (hr.mono (by decide)) (pa_cons (pv 0) (pa_cons (pv 1) (pa_cons (pv 4) pa_nil)))))
    (pss_one (ps_ret pe_non))))))), ?_⟩
  simp only [cxK, cxK2, L2.start, List.map, List.length, List.replicate, List.append, HAppend.hAppend, Append.append]
  obtain ⟨pa, pxs, ep, hpt, hpd⟩ := dp_tup S.pile
  have hpl : pxs.length = s.pile.length := by rw [dpa_len hpd, List.length_map]
  refine ⟨_, rfl, d, _, rfl, dget (k := Sum.inr "pile") S.dk (by rw [kv_pile, ep]), pa, pxs, rfl, hpt, fun D hD => ?_⟩
  refine lc_it (walk_enumT (K := K) (a := pa) (xs := pxs)) (fun i H' => Kx [] H H' ∧ H' D = some (.lst ((callIx s.pile i).map fun (z : Nat) => V.int (z : Int)))) ⟨.new hD, upd_same⟩ (fun i H' _ h => h.1.sqT hpt) ?_ ?_
  · rintro i y H' H'' _ ⟨k1, hD1⟩ ⟨T, n1, x, rfl, hT, rfl, e1, hi⟩
    cases e1
    have hil : i < s.pile.length := by rw [← hpl]; exact (List.getElem?_eq_some_iff.mp hi).1
    obtain ⟨x', hx', hfd⟩ := frame_at hpd hil
    replace hi : pxs[i]? = some x := hi
    rw [hi] at hx'
    cases hx'
    have k2 : Kx [] H' (upd H' T (.tup [.int (i : Nat), x])) := .new hT
    have hD2 : upd H' T (.tup [.int (i : Nat), x]) D = some (.lst ((callIx s.pile i).map fun (z : Nat) => V.int (z : Int))) := k2.same _ _ hD1
    have hfd2 := (k1.trans k2).dp _ hfd
    refine ⟨T, _, rfl, .inl (.inl upd_same), rfl, _, _, rfl, _, _, rfl, rfl, rfl, ?_⟩
    have hpi : s.pile[i]? = some s.pile[i] := List.getElem?_eq_getElem hil
    cases hf : s.pile[i] with
    | call n =>
      rw [hf] at hfd2 hpi
      obtain ⟨fa, rfl, hft⟩ := dp_fr hfd2
      refine ⟨_, rfl, fa, _, _, _, rfl, rfl, hft, atI_nat (j := 0) rfl, rfl, _, rfl, ?_⟩
      rw [decST]
      refine ⟨_, rfl, _, hD2, ?_, (k1.trans k2).grow hD, ?_⟩
      · rw [List.length_map]
        have := callIx_len s.pile i
        have := S.small.p
        exact small1000 (by omega)
      · rw [upd_same]
        have e : callIx s.pile (i + 1) = callIx s.pile i ++ [i] := by
          show (match s.pile[i]? with
            | some (.call _) => callIx s.pile i ++ [i]
            | _ => callIx s.pile i) = _
          rw [hpi]
        rw [e, List.map_append]
        rfl
    | loop y n b c =>
      rw [hf] at hfd2 hpi
      obtain ⟨fa, rfl, hft⟩ := dp_fr hfd2
      refine ⟨_, rfl, fa, _, _, _, rfl, rfl, hft, atI_nat (j := 0) rfl, rfl, _, rfl, ?_⟩
      rw [decS (show ¬ ("loop" : Str) = "call" by decide +kernel)]
      refine ⟨k1.trans k2, ?_⟩
      have e : callIx s.pile (i + 1) = callIx s.pile i := by
        show (match s.pile[i]? with
          | some (.call _) => callIx s.pile i ++ [i]
          | _ => callIx s.pile i) = _
        rw [hpi]
      rw [e]
      exact hD2
  · rintro H1 ⟨k1, hD1⟩
    rw [hpl] at hD1
    have S1 := S.keep0 k1
    rw [call_last] at hj
    obtain ⟨pre, epre⟩ : ∃ pre, callIx s.pile s.pile.length = pre ++ [j] := by
      obtain ⟨l, hl⟩ := List.getLast?_eq_some_iff.mp hj
      exact ⟨l, hl⟩
    rw [epre, List.map_append] at hD1
    have hjl := (List.getElem?_eq_some_iff.mp hjm).1
    -- calls == []
    have dcalls : Dp K H1 (.ref D) (.list ((((pre ++ [j]).map fun (z : Nat) => (z : Int)).map .int))) := by
      refine .lst (.inl (.inl hD1)) ?_
      have e : (List.map (fun (z : Nat) => V.int (z : Int)) pre ++ List.map (fun (z : Nat) => V.int (z : Int)) [j]) = ((pre ++ [j]).map fun (z : Nat) => (z : Int)).map V.int := by
        rw [← List.map_append, List.map_map]
        rfl
      rw [e]
      exact dpa_ints _
    simp only [List.set]
    refine ⟨_, rfl, (by show 0 ≤ sizeLine; decide), fun l0 nl0 => ?_⟩
    have k2 : Kx [] H1 (upd H1 l0 (.lst [])) := .new nl0
    refine ⟨_, .list ([].map .int), k2.dp _ dcalls, .lst (.inl (.inl upd_same)) .nil, ints_shaped _, ints_shaped [], _, rfl, ?_⟩
    have ee : PyData.eqv (.list (((pre ++ [j]).map fun (z : Nat) => (z : Int)).map .int)) (.list (([] : List Int).map .int)) = false := by
      cases pre <;> simp [PyData.eqv, PyData.eqvAll]
    rw [ee]
    refine iteF ?_
    have hD2 := k2.same _ _ hD1
    have S2 := S1.keep0 k2
    have k12 := k1.trans k2
    generalize upd H1 l0 (.lst []) = H2 at hD2 S2 k2 k12 ⊢
    obtain ⟨fv, hfv, hfd⟩ := frame_at (k12.dpAll _ hpd) hjl
    rw [(List.getElem?_eq_some_iff.mp hjm).2] at hfd
    obtain ⟨fa, rfl, hft⟩ := dp_fr hfd
    refine ⟨_, rfl, d, _, rfl, dget (k := Sum.inr "pile") S2.dk (by rw [kv_pile, ep]), _, rfl, _, rfl, D, _, _, _, rfl, rfl, .inl (.inl hD2), atI_last _ _, pa, _, _, _, rfl, rfl, k12.sqT hpt, atI_nat hfv, ?_⟩
    refine ⟨fa, _, rfl, hft, rfl, _, _, rfl, _, _, rfl, rfl, ?_⟩
    simp only [List.set]
    refine ⟨_, rfl, d, _, rfl, dget (k := Sum.inr "pile") S2.dk (kv_pile _ _ _), _, rfl, _, rfl, D, _, _, _, rfl, rfl, .inl (.inl hD2), atI_last _ _, _, rfl, ?_⟩
    refine sl_take S2.pile (by rw [List.length_map]; omega) fun H3 r k3 hr3 => ?_
    have hr3' : Dp K H3 r (pileD (s.pile.take j)) := by
      unfold pileD
      rw [List.map_take]
      exact hr3
    have S3 := S2.keep0 k3
    refine ⟨_, rfl, d, _, rfl, dput (k := Sum.inr "pile") S3.dk (kv_len _ _ _), ?_⟩
    have S4 := S3.setPile hr3' (by rw [List.length_take]; have := S.small.p; omega)
    have k4 := ((k12.trans k3).sub (fun _ z => nomatch z)).trans (S3.kput (putK (kvOf s.stand s.at_ k) (Sum.inr "pile") r))
    refine ⟨_, rfl, _, rfl, _, rfl, v, p, d, _, _, m, rfl, k4.pr hp, S4, fun H9 k9 S9 => ?_⟩
    exact q _ { k with pile := r } (k4.trans k9) rfl S9
end
end K31
/-! what lines do, their choice -/
namespace K31
open PySem PySem.Spec PyProof.Rows L2
section
variable {P : Program} {w : World} {K : PySem.W.Frag} {mg : Str → Option Value} {base : Heap}
theorem Did.pre {H H1 : Hp} {d : Addr} {k : Kn} {s' : Sx} {r : Option Str} {Q : VK} (q : Did K H d k s' r Q) (x : Kx [] H H1) : Did K H1 d k s' r Q :=
  fun H' k' h1 h2 h3 => q H' k' ((x.sub (fun _ z => nomatch z)).trans h1) h2 h3
def spChoice (K : PySem.W.Frag) : Sp := fun vs H Q _ => ∃ (v : V) (p : Pr) (d : Addr) (k : Kn) (s : Sx) (lv : V) (n : Int) (e : Ex) (t x : Int) (s' : Sx), vs = [v, .ref d, lv, .int x] ∧ IsPr K H v p ∧ KnS K H d k s ∧ Dp K H lv (lineD (n, .iff e t)) ∧
  ((x = 0 ∧ s' = goBehind p s n) ∨ (x ≠ 0 ∧ hasLine p t = true ∧ s' = { s with at_ := t })) ∧ Did K H d k s' none Q
theorem sc_choice_done : FnScope ["program", "known", "line", "worth", "number", "statement"] ["program", "known", "line", "worth"] (defScope s_choice_done) :=
  ⟨rfl, rfl, rfl, by decide +kernel, rfl, by decide +kernel, by decide +kernel⟩
theorem gf_choice_done (T : Txt w K mg) : Gf P w K mg base 3 "choice_done" (spChoice K) := by
  have nd := sc_choice_done.nd
  refine gf_mk T.choice_done sc_choice_done (fun vs H Q E h => ?_) (fun _ _ _ _ _ _ us hl => match us, hl with | [_, _, _, _], _ => rfl) (fun f cdv A outer s H vs Q E hr h => ?_)
  · obtain ⟨v, p, d, k, s, lv, n, e, t, x, s1, rfl, hp, S, hl, hc, q⟩ := h
    rfl
  obtain ⟨v, p, d, k, s, lv, n, e, t, x, s1, rfl, hp, S, hl, hc, q⟩ := h
  have hu := hu_of hr
  have G_has_line := (gf_has_line (P := P) (base := base) T)
  have G_go_behind := (gf_go_behind (P := P) (base := base) T)
  have G_is_number_loops := (gf_is_number_loops (P := P) (base := base) T)
  obtain ⟨_, g_MOST_FRAMES⟩ := T.frames
  have G_jump_done := (gf_jump_done (P := P) (base := base) T)
  refine ⟨_, (pss_cons (ps_asg (pv 2) (pg_tup (n := 2) (by rfl) (pgs_cons (gN 4 nd) (pgs_cons (gN 5 nd) pgs_nil))))
    (pss_cons (ps_if (pt_not (pt_val (pe_callG G_is_number_loops (hr.mono (by decide)) (pa_cons (pv 3) pa_nil))))
      (pss_one (ps_ret pe_str))
      pss_nil)
    (pss_cons (ps_if (pt_cmpR op_eq (pe_ix (r := rIxT K) ix_tup (pv 5) pe_int (fun _ _ => rfl)) pe_str (nomark _))
      pss_never
      pss_nil)
    (pss_cons (ps_if (pt_cmpR op_eq (pe_ix (r := rIxT K) ix_tup (pv 5) pe_int (fun _ _ => rfl)) pe_str (nomark _))
      pss_never
      pss_nil)
    (pss_cons (ps_if (pt_cmpR op_ne (pv 3) pe_int (nomark _))
      (pss_one (ps_ret (pe_callG G_jump_done (hr.mono (by decide)) (pa_cons (pv 0) (pa_cons (pv 1) (pa_cons (pe_ix (r := rIxT K) ix_tup (pv 5) pe_int (fun _ _ => rfl)) pa_nil))))))
      pss_nil)
    (pss_cons (ps_expr (pe_callG G_go_behind (hr.mono (by decide)) (pa_cons (pv 0) (pa_cons (pv 1) (pa_cons (pv 4) pa_nil)))))
    (pss_one (ps_ret pe_non)))))))), ?_⟩
  simp only [cxK, cxK2, L2.start, List.map, List.length, List.replicate, List.append, HAppend.hAppend, Append.append]
  obtain ⟨la, u, rfl, hs, hu2⟩ := dp_line hl
  obtain ⟨sa, v1, rfl, hss, _⟩ := dp_iff hu2
  refine ⟨_, rfl, la, _, rfl, hs, rfl, _, _, rfl, _, _, rfl, rfl, ?_⟩
  simp only [List.set]
  refine ⟨_, rfl, x, rfl, _, rfl, iteF ?_⟩
  refine ⟨_, rfl, sa, _, _, _, rfl, rfl, hss, atI_nat (j := 0) rfl, rfl, _, rfl, ?_⟩
  rw [decS (by decide +kernel)]
  refine iteF ⟨_, rfl, sa, _, _, _, rfl, rfl, hss, atI_nat (j := 0) rfl, rfl, _, rfl, ?_⟩
  rw [decS (by decide +kernel)]
  refine iteF ⟨_, rfl, rfl, _, rfl, ?_⟩
  rw [decI]
  rcases hc with ⟨rfl, rfl⟩ | ⟨hx, ht, rfl⟩
  · refine iteF ?_
    refine ⟨_, rfl, _, rfl, _, rfl, v, p, d, k, s, n, rfl, hp, S, fun H1 k1 S1 => ?_⟩
    exact q _ k k1 rfl S1
  · rw [decide_eq_false hx]
    refine iteT ?_
    refine ⟨_, rfl, _, rfl, _, rfl, sa, _, _, _, rfl, rfl, hss, atI_nat (j := 2) rfl, v, p, d, k, s, t, rfl, hp, S, ht, q⟩
def spHalt (K : PySem.W.Frag) : Sp := fun vs H Q _ => ∃ (v : V) (p : Pr) (d : Addr) (k : Kn) (s : Sx) (lv : V) (n : Int) (st : Sm) (s' : Sx), vs = [v, .ref d, lv] ∧ IsPr K H v p ∧ KnS K H d k s ∧ Dp K H lv (lineD (n, st)) ∧
  ((st = .stop ∧ s' = goBehind p { s with stand := "stopped" } n) ∨ (st = .fin ∧ s' = { s with stand := "ended", at_ := 0 })) ∧ Did K H d k s' none Q
theorem merge_end (st : Str) (a : Int) (k : Kn) : mergeK (kvOf st a k) (mergeK [] [(Sum.inr "stand", .str "ended"), (Sum.inr "at", .int 0)]) = kvOf "ended" 0 k := by kernel_rfl
theorem sc_halt_done : FnScope ["program", "known", "line", "number", "statement"] ["program", "known", "line"] (defScope s_halt_done) :=
  ⟨rfl, rfl, rfl, by decide +kernel, rfl, by decide +kernel, by decide +kernel⟩
theorem gf_halt_done (T : Txt w K mg) : Gf P w K mg base 3 "halt_done" (spHalt K) := by
  have nd := sc_halt_done.nd
  refine gf_mk T.halt_done sc_halt_done (fun vs H Q E h => ?_) (fun _ _ _ _ _ _ us hl => match us, hl with | [_, _, _], _ => rfl) (fun f cdv A outer s H vs Q E hr h => ?_)
  · obtain ⟨v, p, d, k, s, lv, n, st, s1, rfl, hp, S, hl, hc, q⟩ := h
    rfl
  obtain ⟨v, p, d, k, s, lv, n, st, s1, rfl, hp, S, hl, hc, q⟩ := h
  have hu := hu_of hr
  have G_has_line := (gf_has_line (P := P) (base := base) T)
  have G_go_behind := (gf_go_behind (P := P) (base := base) T)
  have G_is_number_loops := (gf_is_number_loops (P := P) (base := base) T)
  obtain ⟨_, g_MOST_FRAMES⟩ := T.frames
  refine ⟨_, (pss_cons (ps_asg (pv 2) (pg_tup (n := 2) (by rfl) (pgs_cons (gN 3 nd) (pgs_cons (gN 4 nd) pgs_nil))))
    (pss_cons (ps_dput hu (pv 1) pe_str pe_str rfl)
    (pss_one (ps_if (pt_cmpR (op_eqD hr.units) (pv 4) (pe_tup (pa_cons pe_str pa_nil)) (nomark _))
      (pss_one (ps_expr (pe_callG G_go_behind (hr.mono (by decide)) (pa_cons (pv 0) (pa_cons (pv 1) (pa_cons (pv 3) pa_nil))))))
      (pss_one (ps_expr (pe_bm PySem.F.plainAttrs_dict PySem.F.slot_dict_update PySem.F.type_dict_update mtd_update (pv 1) (pa_cons (pe_disp (pps_cons pe_str pe_str (pps_cons pe_str pe_int pps_nil)) (by rfl) (by rfl) (fun z => by cases z) (by decide)) pa_nil)))))))), ?_⟩
  simp only [cxK, cxK2, L2.start, List.map, List.length, List.replicate, List.append, HAppend.hAppend, Append.append]
  obtain ⟨la, u, rfl, hs, hu2⟩ := dp_line hl
  refine ⟨_, rfl, la, _, rfl, hs, rfl, _, _, rfl, _, _, rfl, rfl, ?_⟩
  simp only [List.set]
  refine ⟨_, rfl, d, _, rfl, dput (k := Sum.inr "stand") S.dk (kv_len _ _ _), ?_⟩
  have S1 := S.setStand "stopped"
  have k1 := S.kput (putK (kvOf s.stand s.at_ k) (Sum.inr "stand") (.str "stopped"))
  have hu3 := k1.dp _ hu2
  have hp1 := k1.pr hp
  generalize upd H d (.dK (putK (kvOf s.stand s.at_ k) (Sum.inr "stand") (.str "stopped"))) = H1 at S1 k1 hu3 hp1 ⊢
  refine ⟨_, rfl, (by show 1 ≤ sizeLine; decide), fun t nt => ?_⟩
  have k2 : Kx [] H1 (upd H1 t (.tup [.str "stop"])) := .new nt
  have hsh : SeqAt.shaped (smD st) = true := by rcases hc with ⟨rfl, _⟩ | ⟨rfl, _⟩ <;> exact sm_shaped rfl
  refine ⟨smD st, _, k2.dp _ hu3, .tup (.inl (.inl upd_same)) (.cons (.str _) .nil), hsh, stop_shaped, _, rfl, ?_⟩
  rw [eqv_stop]
  have S2 := S1.keep0 k2
  have k12 := k1.trans (k2.sub (ls := [d, k.bd]) (fun _ z => nomatch z))
  have hp2 := k2.pr hp1
  generalize upd H1 t (.tup [.str "stop"]) = H2 at S2 k2 k12 hp2 ⊢
  rcases hc with ⟨rfl, rfl⟩ | ⟨rfl, rfl⟩
  · rw [decide_eq_true rfl]
    refine iteT ?_
    refine ⟨_, rfl, _, rfl, _, rfl, v, p, d, k, _, n, rfl, hp2, S2, fun H3 k3 S3 => ?_⟩
    exact q _ k (k12.trans k3) rfl S3
  · rw [decide_eq_false (by exact fun z => nomatch z)]
    refine iteF ?_
    refine ⟨_, rfl, .inr (.inr (.inl ⟨rfl, .inl ⟨_, S2.dk⟩⟩)), fun e ne => ?_⟩
    refine ⟨upd_same, [(Sum.inr "stand", .str "ended"), (Sum.inr "at", .int 0)], rfl, (by decide), ?_⟩
    have k3 : Kx [] H2 (upd (upd H2 e (.dK [])) e (.dK (mergeK [] [(Sum.inr "stand", .str "ended"), (Sum.inr "at", .int 0)]))) := (Kx.new (ks := []) ne).grow ne
    have hde : d ≠ e := ne_of_none S2.dk ne
    have S3 := S2.keep0 k3
    generalize hE : upd (upd H2 e (.dK [])) e (.dK (mergeK [] [(Sum.inr "stand", .str "ended"), (Sum.inr "at", .int 0)])) = H3 at k3 S3 ⊢
    have he : H3 e = some (.dK (mergeK [] [(Sum.inr "stand", .str "ended"), (Sum.inr "at", .int 0)])) := by rw [← hE, upd_same]
    refine ⟨d, e, _, _, rfl, rfl, hde, S3.dk, he, (by show 12 + 2 ≤ sizeLine; decide), ?_⟩
    rw [merge_end]
    have S4 := (S3.setStand "ended").setAt 0
    refine q _ k ((k12.trans (k3.sub (fun _ z => nomatch z))).trans (S3.kput _)) rfl ?_
    have e4 : upd H3 d (.dK (kvOf "ended" 0 k)) = upd (upd H3 d (.dK (putK (kvOf "stopped" s.at_ k) (Sum.inr "stand") (.str "ended")))) d (.dK (putK (kvOf "ended" s.at_ k) (Sum.inr "at") (.int 0))) := by
      funext a
      by_cases z : a = d
      · subst z; rw [upd_same, upd_same, put_at]
      · rw [upd_ne z, upd_ne z, upd_ne z]
    rw [e4]
    exact S4
def spGone (K : PySem.W.Frag) : Sp := fun vs H Q _ => ∃ (v : V) (p : Pr) (d : Addr) (k : Kn) (s : Sx) (n : Int), vs = [v, .ref d, .int n, .non] ∧ IsPr K H v p ∧ KnS K H d k s ∧ Did K H d k (goBehind p s n) none Q
theorem sc_gone_behind : FnScope ["program", "known", "number", "fault"] ["program", "known", "number", "fault"] (defScope s_gone_behind) :=
  ⟨rfl, rfl, rfl, by decide +kernel, rfl, by decide +kernel, by decide +kernel⟩
theorem gf_gone_behind (T : Txt w K mg) : Gf P w K mg base 3 "gone_behind" (spGone K) := by
  have nd := sc_gone_behind.nd
  refine gf_mk T.gone_behind sc_gone_behind (fun vs H Q E h => ?_) (fun _ _ _ _ _ _ us hl => match us, hl with | [_, _, _, _], _ => rfl) (fun f cdv A outer s H vs Q E hr h => ?_)
  · obtain ⟨v, p, d, k, s, n, rfl, hp, S, q⟩ := h
    rfl
  obtain ⟨v, p, d, k, s, n, rfl, hp, S, q⟩ := h
  have hu := hu_of hr
  have G_has_line := (gf_has_line (P := P) (base := base) T)
  have G_go_behind := (gf_go_behind (P := P) (base := base) T)
  have G_is_number_loops := (gf_is_number_loops (P := P) (base := base) T)
  obtain ⟨_, g_MOST_FRAMES⟩ := T.frames
  refine ⟨_, (pss_cons (ps_if (pt_cmpR op_isN (pv 3) pe_non (nomark _))
      (pss_one (ps_expr (pe_callG G_go_behind (hr.mono (by decide)) (pa_cons (pv 0) (pa_cons (pv 1) (pa_cons (pv 2) pa_nil))))))
      pss_nil)
    (pss_one (ps_ret (pv 3)))), ?_⟩
  simp only [cxK, cxK2, L2.start, List.map, List.length, List.replicate, List.append, HAppend.hAppend, Append.append]
  refine ⟨_, rfl, rfl, _, rfl, iteT ?_⟩
  refine ⟨_, rfl, _, rfl, _, rfl, v, p, d, k, s, n, rfl, hp, S, fun H1 k1 S1 => ?_⟩
  exact ⟨_, rfl, q _ k k1 rfl S1⟩
def notPlain : Sm → Prop
  | .set _ _ => False
  | .say _ => False
  | _ => True
def spMove (K : PySem.W.Frag) : Sp := fun vs H Q _ => ∃ (v : V) (p : Pr) (d : Addr) (k : Kn) (s : Sx) (lv u : V) (n : Int) (st : Sm) (ws : List Int) (s' : Sx) (r : Option Str), vs = [v, .ref d, lv, u] ∧ IsPr K H v p ∧ KnS K H d k s ∧ Dp K H lv (lineD (n, st)) ∧
  notPlain st ∧ nmS st = true ∧ Dp K H u (rowD ws) ∧ lineM p s n st ws = some (s', r) ∧ Did K H d k s' r Q
theorem sc_move_done : FnScope ["program", "known", "line", "worths", "word", "number", "statement"] ["program", "known", "line", "worths"] (defScope s_move_done) :=
  ⟨rfl, rfl, rfl, by decide +kernel, rfl, by decide +kernel, by decide +kernel⟩
theorem gf_move_done (T : Txt w K mg) : Gf P w K mg base 4 "move_done" (spMove K) := by
  have nd := sc_move_done.nd
  refine gf_mk T.move_done sc_move_done (fun vs H Q E h => ?_) (fun _ _ _ _ _ _ us hl => match us, hl with | [_, _, _, _], _ => rfl) (fun f cdv A outer s H vs Q E hr h => ?_)
  · obtain ⟨v, p, d, k, s, lv, u, n, st, ws, s1, r, rfl, hp, S, hl, hn, hnm, hw, hm, q⟩ := h
    rfl
  obtain ⟨v, p, d, k, s, lv, u, n, st, ws, s1, r, rfl, hp, S, hl, hn, hnm, hw, hm, q⟩ := h
  have hu := hu_of hr
  have G_has_line := (gf_has_line (P := P) (base := base) T)
  have G_go_behind := (gf_go_behind (P := P) (base := base) T)
  have G_is_number_loops := (gf_is_number_loops (P := P) (base := base) T)
  obtain ⟨_, g_MOST_FRAMES⟩ := T.frames
  have G_call_done := (gf_call_done (P := P) (base := base) T)
  have G_back_done := (gf_back_done (P := P) (base := base) T)
  have G_choice_done := (gf_choice_done (P := P) (base := base) T)
  have G_loop_begun := (gf_loop_begun (P := P) (base := base) T)
  have G_loop_again := (gf_loop_again (P := P) (base := base) T)
  have G_halt_done := (gf_halt_done (P := P) (base := base) T)
  refine ⟨_, (pss_cons (ps_asg (pv 2) (pg_tup (n := 2) (by rfl) (pgs_cons (gN 5 nd) (pgs_cons (gN 6 nd) pgs_nil))))
    (pss_cons (sT 4 nd (pe_ix (r := rIxT K) ix_tup (pv 6) pe_int (fun _ _ => rfl)))
    (pss_cons (ps_if (pt_cmpR op_eq (pv 4) pe_str (nomark _))
      pss_never
      pss_nil)
    (pss_cons (ps_if (pt_cmpR op_eq (pv 4) pe_str (nomark _))
      (pss_one (ps_ret (pe_callG G_call_done (hr.mono (by decide)) (pa_cons (pv 0) (pa_cons (pv 1) (pa_cons (pv 5) (pa_cons (pe_ix (r := rIxT K) ix_tup (pv 6) pe_int (fun _ _ => rfl)) pa_nil)))))))
      pss_nil)
    (pss_cons (ps_if (pt_cmpR op_eq (pv 4) pe_str (nomark _))
      (pss_one (ps_ret (pe_callG G_back_done (hr.mono (by decide)) (pa_cons (pv 0) (pa_cons (pv 1) pa_nil)))))
      pss_nil)
    (pss_cons (ps_if (pt_cmpR op_in_seq (pv 4) (pe_tup (pa_cons pe_str (pa_cons pe_str (pa_cons pe_str pa_nil)))) (by rfl))
      (pss_one (ps_ret (pe_callG G_choice_done (hr.mono (by decide)) (pa_cons (pv 0) (pa_cons (pv 1) (pa_cons (pv 2) (pa_cons (pe_ix (r := rIxT K) ix_tup (pv 3) pe_int (fun _ _ => rfl)) pa_nil)))))))
      pss_nil)
    (pss_cons (ps_if (pt_cmpR op_eq (pv 4) pe_str (nomark _))
      (pss_one (ps_ret (pe_callG G_loop_begun (hr.mono (by decide)) (pa_cons (pv 0) (pa_cons (pv 1) (pa_cons (pv 2) (pa_cons (pv 3) pa_nil)))))))
      pss_nil)
    (pss_cons (ps_if (pt_cmpR op_eq (pv 4) pe_str (nomark _))
      (pss_one (ps_ret (pe_callG G_loop_again (hr.mono (by decide)) (pa_cons (pv 0) (pa_cons (pv 1) (pa_cons (pv 2) pa_nil))))))
      pss_nil)
    (pss_cons (ps_if (pt_cmpR op_in_seq (pv 4) (pe_tup (pa_cons pe_str (pa_cons pe_str pa_nil))) (by rfl))
      pss_never
      pss_nil)
    (pss_one (ps_ret (pe_callG G_halt_done (hr.mono (by decide)) (pa_cons (pv 0) (pa_cons (pv 1) (pa_cons (pv 2) pa_nil))))))))))))))), ?_⟩
  simp only [cxK, cxK2, L2.start, List.map, List.length, List.replicate, List.append, HAppend.hAppend, Append.append]
  obtain ⟨la, su, rfl, hs, hu2⟩ := dp_line hl
  refine ⟨_, rfl, la, _, rfl, hs, rfl, _, _, rfl, _, _, rfl, rfl, ?_⟩
  simp only [List.set]
  cases st with
  | set x e => exact hn.elim
  | say es => exact hn.elim
  | call t =>
    obtain ⟨sa, rfl, hss⟩ := dp_call hu2
    refine ⟨_, rfl, sa, _, _, _, rfl, rfl, hss, atI_nat (j := 0) rfl, ?_⟩
    simp only [List.set]
    refine ⟨_, rfl, rfl, _, rfl, ?_⟩
    rw [decS (by decide +kernel)]
    refine iteF ⟨_, rfl, rfl, _, rfl, ?_⟩
    rw [decST]
    refine iteT ?_
    have hc : hasLine p t = true ∧ s.pile.length < 50 := by
      by_cases z : hasLine p t = true ∧ s.pile.length < 50
      · exact z
      · simp only [lineM, if_neg z] at hm; cases hm
    simp only [lineM, if_pos hc] at hm
    cases hm
    exact ⟨_, rfl, _, rfl, _, rfl, _, rfl, sa, _, _, _, rfl, rfl, hss, atI_nat (j := 1) rfl, v, p, d, k, s, n, t, rfl, hp, S, hc.1, hc.2, q⟩
  | back =>
    obtain ⟨sa, xs, rfl, hss⟩ := dp_sm hu2
    replace hss : SqT K H sa (V.str "back" :: xs) := hss
    refine ⟨_, rfl, sa, _, _, _, rfl, rfl, hss, atI_nat (j := 0) rfl, ?_⟩
    simp only [List.set]
    refine ⟨_, rfl, rfl, _, rfl, ?_⟩
    rw [decS (by decide +kernel)]
    refine iteF ⟨_, rfl, rfl, _, rfl, ?_⟩
    rw [decS (by decide +kernel)]
    refine iteF ⟨_, rfl, rfl, _, rfl, ?_⟩
    rw [decST]
    refine iteT ?_
    simp only [lineM] at hm
    cases hj : callAt s.pile s.pile.length with
    | none => rw [hj] at hm; cases hm
    | some j =>
      rw [hj] at hm
      cases hf : s.pile[j]? with
      | none => simp only [hf] at hm; cases hm
      | some f =>
        cases f with
        | loop x m b c => simp only [hf] at hm; cases hm
        | call m =>
          simp only [hf] at hm
          cases hm
          exact ⟨_, rfl, _, rfl, v, p, d, k, s, j, m, rfl, hp, S, hj, hf, q⟩
  | iff e t =>
    obtain ⟨sa, v1, rfl, hss, _⟩ := dp_iff hu2
    clear hs hu2
    have S0 := S
    have q0 := q
    have hp0 := hp
    have hl0 := hl
    have hw0 := hw
    have hss0 := hss
    revert S0 q0 hp0 hl0 hw0 hss0
    generalize H = H0
    intro S0 q0 hp0 hl0 hw0 hss0
    refine ⟨_, rfl, sa, _, _, _, rfl, rfl, hss0, atI_nat (j := 0) rfl, ?_⟩
    simp only [List.set]
    refine ⟨_, rfl, rfl, _, rfl, ?_⟩
    rw [decS (by decide +kernel)]
    refine iteF ⟨_, rfl, rfl, _, rfl, ?_⟩
    rw [decS (by decide +kernel)]
    refine iteF ⟨_, rfl, rfl, _, rfl, ?_⟩
    rw [decS (by decide +kernel)]
    refine iteF ⟨_, rfl, (by show 3 ≤ sizeLine; decide), fun t0 nt0 => ?_⟩
    have k0 : Kx [] H0 (upd H0 t0 (.tup [.str "goby", .str "when", .str "pick"])) := .new nt0
    have S0' := S0.keep0 k0
    have q0' := q0.pre k0
    have hp0' := k0.pr hp0
    have hl0' := k0.dp _ hl0
    have hw0' := k0.dp _ hw0
    refine ⟨t0, _, rfl, .inr (.inl (.inl upd_same)), rfl, rfl, _, rfl, ?_⟩
    rw [show inV (.str "when") [.str "goby", .str "when", .str "pick"] = true by decide +kernel]
    have hss0' := k0.sqT hss0
    generalize upd H0 t0 (.tup [.str "goby", .str "when", .str "pick"]) = H0' at k0 S0' q0' hp0' hl0' hw0' hss0' ⊢
    refine iteT ?_
    obtain ⟨wa, rfl, hwt⟩ := dp_row hw0'
    match ws, hm, hwt with
    | [x], hm, hwt =>
      refine ⟨_, rfl, _, rfl, _, rfl, _, rfl, wa, _, _, _, rfl, rfl, hwt, atI_nat (j := 0) rfl, v, p, d, k, s, _, n, e, t, x, s1, rfl, hp0', S0', hl0', ?_, ?_⟩
      · simp only [lineM] at hm
        by_cases z : x = 0
        · rw [if_pos z] at hm
          cases hm
          exact .inl ⟨z, rfl⟩
        · rw [if_neg z] at hm
          by_cases z2 : hasLine p t = true
          · rw [if_pos z2] at hm
            cases hm
            exact .inr ⟨z, z2, rfl⟩
          · rw [if_neg z2] at hm
            cases hm
      · have e : r = none := by
          simp only [lineM] at hm
          by_cases z : x = 0
          · rw [if_pos z] at hm
            cases hm
            rfl
          · rw [if_neg z] at hm
            by_cases z2 : hasLine p t = true
            · rw [if_pos z2] at hm
              cases hm
              rfl
            · rw [if_neg z2] at hm
              cases hm
        subst e
        exact q0'
  | loop x ea eb ec =>
    obtain ⟨sa, v1, v2, v3, rfl, hss, _, _, _⟩ := dp_loop hu2
    clear hs hu2
    have S0 := S
    have q0 := q
    have hp0 := hp
    have hl0 := hl
    have hw0 := hw
    have hss0 := hss
    revert S0 q0 hp0 hl0 hw0 hss0
    generalize H = H0
    intro S0 q0 hp0 hl0 hw0 hss0
    refine ⟨_, rfl, sa, _, _, _, rfl, rfl, hss0, atI_nat (j := 0) rfl, ?_⟩
    simp only [List.set]
    refine ⟨_, rfl, rfl, _, rfl, ?_⟩
    rw [decS (by decide +kernel)]
    refine iteF ⟨_, rfl, rfl, _, rfl, ?_⟩
    rw [decS (by decide +kernel)]
    refine iteF ⟨_, rfl, rfl, _, rfl, ?_⟩
    rw [decS (by decide +kernel)]
    refine iteF ⟨_, rfl, (by show 3 ≤ sizeLine; decide), fun t0 nt0 => ?_⟩
    have k0 : Kx [] H0 (upd H0 t0 (.tup [.str "goby", .str "when", .str "pick"])) := .new nt0
    have S0' := S0.keep0 k0
    have q0' := q0.pre k0
    have hp0' := k0.pr hp0
    have hl0' := k0.dp _ hl0
    have hw0' := k0.dp _ hw0
    refine ⟨t0, _, rfl, .inr (.inl (.inl upd_same)), rfl, rfl, _, rfl, ?_⟩
    rw [show inV (.str "loop") [.str "goby", .str "when", .str "pick"] = false by decide +kernel]
    have hss0' := k0.sqT hss0
    generalize upd H0 t0 (.tup [.str "goby", .str "when", .str "pick"]) = H0' at k0 S0' q0' hp0' hl0' hw0' hss0' ⊢
    refine iteF ⟨_, rfl, rfl, _, rfl, ?_⟩
    rw [decST]
    refine iteT ?_
    obtain ⟨wa, rfl, hwt⟩ := dp_row hw0'
    match ws, hm, hwt with
    | [a, b, c], hm, hwt =>
      exact ⟨_, rfl, _, rfl, _, rfl, _, rfl, v, p, d, k, s, _, wa, n, x, ea, eb, ec, a, b, c, s1, r, rfl, hp0', S0', hl0', hwt, (Bool.and_eq_true_iff.mp hnm).1, hm, q0'⟩
  | again x =>
    obtain ⟨sa, rfl, hss⟩ := dp_again hu2
    clear hs hu2
    have S0 := S
    have q0 := q
    have hp0 := hp
    have hl0 := hl
    have hw0 := hw
    have hss0 := hss
    revert S0 q0 hp0 hl0 hw0 hss0
    generalize H = H0
    intro S0 q0 hp0 hl0 hw0 hss0
    refine ⟨_, rfl, sa, _, _, _, rfl, rfl, hss0, atI_nat (j := 0) rfl, ?_⟩
    simp only [List.set]
    refine ⟨_, rfl, rfl, _, rfl, ?_⟩
    rw [decS (by decide +kernel)]
    refine iteF ⟨_, rfl, rfl, _, rfl, ?_⟩
    rw [decS (by decide +kernel)]
    refine iteF ⟨_, rfl, rfl, _, rfl, ?_⟩
    rw [decS (by decide +kernel)]
    refine iteF ⟨_, rfl, (by show 3 ≤ sizeLine; decide), fun t0 nt0 => ?_⟩
    have k0 : Kx [] H0 (upd H0 t0 (.tup [.str "goby", .str "when", .str "pick"])) := .new nt0
    have S0' := S0.keep0 k0
    have q0' := q0.pre k0
    have hp0' := k0.pr hp0
    have hl0' := k0.dp _ hl0
    have hw0' := k0.dp _ hw0
    refine ⟨t0, _, rfl, .inr (.inl (.inl upd_same)), rfl, rfl, _, rfl, ?_⟩
    rw [show inV (.str "again") [.str "goby", .str "when", .str "pick"] = false by decide +kernel]
    have hss0' := k0.sqT hss0
    generalize upd H0 t0 (.tup [.str "goby", .str "when", .str "pick"]) = H0' at k0 S0' q0' hp0' hl0' hw0' hss0' ⊢
    refine iteF ⟨_, rfl, rfl, _, rfl, ?_⟩
    rw [decS (by decide +kernel)]
    refine iteF ⟨_, rfl, rfl, _, rfl, ?_⟩
    rw [decST]
    refine iteT ?_
    exact ⟨_, rfl, _, rfl, _, rfl, v, p, d, k, s, _, n, x, s1, r, rfl, hp0', S0', hl0', hm, q0'⟩
  | stop =>
    obtain ⟨sa, xs, rfl, hss⟩ := dp_sm hu2
    replace hss : SqT K H sa (V.str "stop" :: xs) := hss
    clear hs hu2
    have S0 := S
    have q0 := q
    have hp0 := hp
    have hl0 := hl
    have hw0 := hw
    have hss0 := hss
    revert S0 q0 hp0 hl0 hw0 hss0
    generalize H = H0
    intro S0 q0 hp0 hl0 hw0 hss0
    refine ⟨_, rfl, sa, _, _, _, rfl, rfl, hss0, atI_nat (j := 0) rfl, ?_⟩
    simp only [List.set]
    refine ⟨_, rfl, rfl, _, rfl, ?_⟩
    rw [decS (by decide +kernel)]
    refine iteF ⟨_, rfl, rfl, _, rfl, ?_⟩
    rw [decS (by decide +kernel)]
    refine iteF ⟨_, rfl, rfl, _, rfl, ?_⟩
    rw [decS (by decide +kernel)]
    refine iteF ⟨_, rfl, (by show 3 ≤ sizeLine; decide), fun t0 nt0 => ?_⟩
    have k0 : Kx [] H0 (upd H0 t0 (.tup [.str "goby", .str "when", .str "pick"])) := .new nt0
    have S0' := S0.keep0 k0
    have q0' := q0.pre k0
    have hp0' := k0.pr hp0
    have hl0' := k0.dp _ hl0
    have hw0' := k0.dp _ hw0
    refine ⟨t0, _, rfl, .inr (.inl (.inl upd_same)), rfl, rfl, _, rfl, ?_⟩
    rw [show inV (.str "stop") [.str "goby", .str "when", .str "pick"] = false by decide +kernel]
    have hss0' := k0.sqT hss0
    generalize upd H0 t0 (.tup [.str "goby", .str "when", .str "pick"]) = H0' at k0 S0' q0' hp0' hl0' hw0' hss0' ⊢
    refine iteF ⟨_, rfl, rfl, _, rfl, ?_⟩
    rw [decS (by decide +kernel)]
    refine iteF ⟨_, rfl, rfl, _, rfl, ?_⟩
    rw [decS (by decide +kernel)]
    refine iteF ⟨_, rfl, (by show 2 ≤ sizeLine; decide), fun t0' nt0' => ?_⟩
    have k0' : Kx [] H0' (upd H0' t0' (.tup [.str "retry", .str "pass"])) := .new nt0'
    have S1 := S0'.keep0 k0'
    have q1 := q0'.pre k0'
    have hp1 := k0'.pr hp0'
    have hl1 := k0'.dp _ hl0'
    have hw1 := k0'.dp _ hw0'
    refine ⟨t0', _, rfl, .inr (.inl (.inl upd_same)), rfl, rfl, _, rfl, ?_⟩
    rw [show inV (.str "stop") [.str "retry", .str "pass"] = false by decide +kernel]
    have hss1 := k0'.sqT hss0'
    generalize upd H0' t0' (.tup [.str "retry", .str "pass"]) = H1 at k0' S1 q1 hp1 hl1 hw1 hss1 ⊢
    refine iteF ?_
    simp only [lineM] at hm
    cases hm
    exact ⟨_, rfl, _, rfl, _, rfl, v, p, d, k, s, _, n, _, _, rfl, hp1, S1, hl1, .inl ⟨rfl, rfl⟩, q1⟩
  | fin =>
    obtain ⟨sa, xs, rfl, hss⟩ := dp_sm hu2
    replace hss : SqT K H sa (V.str "end" :: xs) := hss
    clear hs hu2
    have S0 := S
    have q0 := q
    have hp0 := hp
    have hl0 := hl
    have hw0 := hw
    have hss0 := hss
    revert S0 q0 hp0 hl0 hw0 hss0
    generalize H = H0
    intro S0 q0 hp0 hl0 hw0 hss0
    refine ⟨_, rfl, sa, _, _, _, rfl, rfl, hss0, atI_nat (j := 0) rfl, ?_⟩
    simp only [List.set]
    refine ⟨_, rfl, rfl, _, rfl, ?_⟩
    rw [decS (by decide +kernel)]
    refine iteF ⟨_, rfl, rfl, _, rfl, ?_⟩
    rw [decS (by decide +kernel)]
    refine iteF ⟨_, rfl, rfl, _, rfl, ?_⟩
    rw [decS (by decide +kernel)]
    refine iteF ⟨_, rfl, (by show 3 ≤ sizeLine; decide), fun t0 nt0 => ?_⟩
    have k0 : Kx [] H0 (upd H0 t0 (.tup [.str "goby", .str "when", .str "pick"])) := .new nt0
    have S0' := S0.keep0 k0
    have q0' := q0.pre k0
    have hp0' := k0.pr hp0
    have hl0' := k0.dp _ hl0
    have hw0' := k0.dp _ hw0
    refine ⟨t0, _, rfl, .inr (.inl (.inl upd_same)), rfl, rfl, _, rfl, ?_⟩
    rw [show inV (.str "end") [.str "goby", .str "when", .str "pick"] = false by decide +kernel]
    have hss0' := k0.sqT hss0
    generalize upd H0 t0 (.tup [.str "goby", .str "when", .str "pick"]) = H0' at k0 S0' q0' hp0' hl0' hw0' hss0' ⊢
    refine iteF ⟨_, rfl, rfl, _, rfl, ?_⟩
    rw [decS (by decide +kernel)]
    refine iteF ⟨_, rfl, rfl, _, rfl, ?_⟩
    rw [decS (by decide +kernel)]
    refine iteF ⟨_, rfl, (by show 2 ≤ sizeLine; decide), fun t0' nt0' => ?_⟩
    have k0' : Kx [] H0' (upd H0' t0' (.tup [.str "retry", .str "pass"])) := .new nt0'
    have S1 := S0'.keep0 k0'
    have q1 := q0'.pre k0'
    have hp1 := k0'.pr hp0'
    have hl1 := k0'.dp _ hl0'
    have hw1 := k0'.dp _ hw0'
    refine ⟨t0', _, rfl, .inr (.inl (.inl upd_same)), rfl, rfl, _, rfl, ?_⟩
    rw [show inV (.str "end") [.str "retry", .str "pass"] = false by decide +kernel]
    have hss1 := k0'.sqT hss0'
    generalize upd H0' t0' (.tup [.str "retry", .str "pass"]) = H1 at k0' S1 q1 hp1 hl1 hw1 hss1 ⊢
    refine iteF ?_
    simp only [lineM] at hm
    cases hm
    exact ⟨_, rfl, _, rfl, _, rfl, v, p, d, k, s, _, n, _, _, rfl, hp1, S1, hl1, .inr ⟨rfl, rfl⟩, q1⟩
end
end K31
/-! a line done, a fault, the parts of a state -/
namespace K31
open PySem PySem.Spec PyProof.Rows L2
section
variable {P : Program} {w : World} {K : PySem.W.Frag} {mg : Str → Option Value} {base : Heap}
def spLineDone (K : PySem.W.Frag) : Sp := fun vs H Q _ => ∃ (v : V) (p : Pr) (d : Addr) (k : Kn) (s : Sx) (lv u iv : V) (n : Int) (st : Sm) (ws : List Int) (s' : Sx) (r : Option Str), vs = [v, .ref d, lv, u, iv] ∧ IsPr K H v p ∧ KnS K H d k s ∧ Dp K H lv (lineD (n, st)) ∧
  nmS st = true ∧ Dp K H u (rowD ws) ∧ lineM p s n st ws = some (s', r) ∧ Did K H d k s' r Q
theorem word_of_not {st : Sm} {x : Str} (h : ∀ y ∈ [("set" : Str), "say", "call", "back", "when", "loop", "again", "stop", "end"], ¬ y = x) : ¬ wordOf st = x := by
  cases st <;> (simp only [wordOf]; exact h _ (by simp))
theorem plain_or (st : Sm) : (∃ x e, st = .set x e) ∨ (∃ es, st = .say es) ∨ (notPlain st ∧ actV st = none) := by
  cases st <;> first | exact .inl ⟨_, _, rfl⟩ | exact .inr (.inl ⟨_, rfl⟩) | exact .inr (.inr ⟨trivial, rfl⟩)
theorem sc_line_done : FnScope ["program", "known", "line", "worths", "inputs", "word", "number", "statement"] ["program", "known", "line", "worths", "inputs"] (defScope s_line_done) :=
  ⟨rfl, rfl, rfl, by decide +kernel, rfl, by decide +kernel, by decide +kernel⟩
theorem gf_line_done (T : Txt w K mg) : Gf P w K mg base 5 "line_done" (spLineDone K) := by
  have nd := sc_line_done.nd
  refine gf_mk T.line_done sc_line_done (fun vs H Q E h => ?_) (fun _ _ _ _ _ _ us hl => match us, hl with | [_, _, _, _, _], _ => rfl) (fun f cdv A outer s H vs Q E hr h => ?_)
  · obtain ⟨v, p, d, k, s, lv, u, iv, n, st, ws, s1, r, rfl, hp, S, hl, hnm, hw, hm, q⟩ := h
    rfl
  obtain ⟨v, p, d, k, s, lv, u, iv, n, st, ws, s1, r, rfl, hp, S, hl, hnm, hw, hm, q⟩ := h
  have hu := hu_of hr
  have G_gone_behind := (gf_gone_behind (P := P) (base := base) T)
  have G_move_done := (gf_move_done (P := P) (base := base) T)
  obtain ⟨dA, esA, nA, g_PLAIN_acts, hA, hActs⟩ := T.acts
  refine ⟨_, (pss_cons (ps_asg (pv 2) (pg_tup (n := 2) (by rfl) (pgs_cons (gN 6 nd) (pgs_cons (gN 7 nd) pgs_nil))))
    (pss_cons (sT 5 nd (pe_ix (r := rIxT K) ix_tup (pv 7) pe_int (fun _ _ => rfl)))
    (pss_cons (ps_if (pt_cmpR (op_in_kd hA) (pv 5) (pe_globR g_PLAIN_acts) (by rfl))
      (pss_one (ps_ret (pe_callG G_gone_behind (hr.mono (by decide)) (pa_cons (pv 0) (pa_cons (pv 1) (pa_cons (pv 6) (pa_cons (pe_callX (pe_ix (r := rIxD K w) ix_kdict (pe_globR g_PLAIN_acts) (pv 5) (fun _ _ => rfl)) (pa_cons (pv 1) (pa_cons (pv 7) (pa_cons (pv 3) pa_nil)))) pa_nil)))))))
      pss_nil)
    (pss_cons (ps_if (pt_cmpR op_eq (pv 5) pe_str (nomark _))
      pss_never
      pss_nil)
    (pss_cons (ps_if (pt_cmpR op_eq (pv 5) pe_str (nomark _))
      pss_never
      pss_nil)
    (pss_cons (ps_if (pt_cmpR op_eq (pv 5) pe_str (nomark _))
      pss_never
      pss_nil)
    (pss_one (ps_ret (pe_callG G_move_done (hr.mono (by decide)) (pa_cons (pv 0) (pa_cons (pv 1) (pa_cons (pv 2) (pa_cons (pv 3) pa_nil))))))))))))), ?_⟩
  simp only [cxK, cxK2, L2.start, List.map, List.length, List.replicate, List.append, HAppend.hAppend, Append.append]
  obtain ⟨la, su, rfl, hs, hu2⟩ := dp_line hl
  obtain ⟨sa, xs, rfl, hss⟩ := dp_sm hu2
  replace hss : SqT K H sa (V.str (wordOf st) :: xs) := hss
  replace hs : SqT K H la [V.int n, V.ref sa] := hs
  refine ⟨_, rfl, la, _, rfl, hs, rfl, _, _, rfl, _, _, rfl, rfl, ?_⟩
  simp only [List.set]
  refine ⟨_, rfl, sa, _, _, _, rfl, rfl, hss, atI_nat (j := 0) rfl, ?_⟩
  simp only [List.set]
  have hact := hActs st
  rcases plain_or st with ⟨x, e, rfl⟩ | ⟨es, rfl⟩ | ⟨hn, hno⟩
  · obtain ⟨fA, hns, hfA⟩ := hact
    obtain ⟨fB, hfB, hkB, FB⟩ := gf_put_in_box (P := P) (base := base) T
    rw [hfA] at hfB
    cases hfB
    refine ⟨_, rfl, _, some (.ref fA), rfl, rfl, hns, _, rfl, iteT ?_⟩
    match ws, hm, hw with
    | [x1], hm, hw =>
      have hb : ¬ 60 ≤ s.boxes.length := by
        intro z
        simp only [lineM, if_pos z] at hm
        cases hm
      simp only [lineM, if_neg hb] at hm
      cases hm
      refine ⟨_, rfl, _, rfl, _, rfl, _, rfl, dA, _, .ref fA, rfl, rfl, ⟨esA, nA, _, hA.at_, hA.lit, hns, rfl⟩, 1, fA, spPutInBox K, rfl, hkB, hr.mono (by decide), FB, ?_⟩
      refine ⟨_, rfl, _, rfl, _, rfl, d, k, s, _, u, x, e, x1, rfl, S, hu2, hw, by omega, fun H1 k1 x1 e1 S1 => ?_⟩
      have hp1 := x1.pr hp
      refine ⟨v, p, d, k1, _, n, rfl, hp1, S1, fun H2 k2 x2 e2 S2 => ?_⟩
      refine q _ k2 (x1.trans ?_) (e2.trans e1) S2
      rw [← e1]
      exact x2
  · obtain ⟨fA, hns, hfA⟩ := hact
    obtain ⟨fB, hfB, hkB, FB⟩ := gf_say_done (P := P) (base := base) T
    rw [hfA] at hfB
    cases hfB
    refine ⟨_, rfl, _, some (.ref fA), rfl, rfl, hns, _, rfl, iteT ?_⟩
    have hb : s.said.length < 5000 := by
      by_cases z : s.said.length < 5000
      · exact z
      · simp only [lineM, if_neg z] at hm
        cases hm
    simp only [lineM, if_pos hb] at hm
    cases hm
    refine ⟨_, rfl, _, rfl, _, rfl, _, rfl, dA, _, .ref fA, rfl, rfl, ⟨esA, nA, _, hA.at_, hA.lit, hns, rfl⟩, 1, fA, spSayDone K, rfl, hkB, hr.mono (by decide), FB, ?_⟩
    refine ⟨_, rfl, _, rfl, _, rfl, d, k, s, _, u, ws, rfl, S, hw, hb, fun H1 k1 x1 e1 S1 => ?_⟩
    have hp1 := x1.pr hp
    refine ⟨v, p, d, k1, _, n, rfl, hp1, S1, fun H2 k2 x2 e2 S2 => ?_⟩
    refine q _ k2 (x1.trans ?_) (e2.trans e1) S2
    rw [← e1]
    exact x2
  · rw [hno] at hact
    refine ⟨_, rfl, _, none, rfl, rfl, hact, _, rfl, iteF ?_⟩
    refine ⟨_, rfl, rfl, _, rfl, ?_⟩
    rw [decS (word_of_not (by decide +kernel))]
    refine iteF ⟨_, rfl, rfl, _, rfl, ?_⟩
    rw [decS (word_of_not (by decide +kernel))]
    refine iteF ⟨_, rfl, rfl, _, rfl, ?_⟩
    rw [decS (word_of_not (by decide +kernel))]
    refine iteF ?_
    exact ⟨_, rfl, _, rfl, _, rfl, _, rfl, v, p, d, k, s, _, u, n, st, ws, s1, r, rfl, hp, S, hl, hn, hnm, hw, hm, q⟩
/-- a state as a tuple -/
def BoxT (K : PySem.W.Frag) (H : Hp) (a : Addr) (bs : List (Str × Int)) : Prop := ∃ ps : List Addr, FT H a (ps.map V.ref) ∧ Paired (fun p (b : Str × Int) => SqT K H p [.str b.1, .int b.2]) ps bs
theorem Kx.box {ks : List Addr} {H H' : Hp} (x : Kx ks H H') {a : Addr} {bs : List (Str × Int)} (h : BoxT K H a bs) : BoxT K H' a bs := by
  obtain ⟨ps, h1, h2⟩ := h
  refine ⟨ps, x.ft h1, ?_⟩
  clear h1
  induction h2 with
  | nil => exact .nil
  | cons h _ ih => exact .cons (x.sqT h) ih
structure IsS (K : PySem.W.Frag) (H : Hp) (v : V) (s : Sx) : Prop where
  tup : ∃ a ba ra fa pv plv fv sv, v = .ref a ∧ SqT K H a [.str s.stand, .int s.at_, .ref ba, .ref ra, .ref fa, pv, plv, .int 0, .bl false, fv, .int 0, sv] ∧ BoxT K H ba s.boxes ∧ FT H ra [] ∧ SqT K H fa [] ∧
    Dp K H pv (pileD s.pile) ∧ Dp K H plv placeD ∧ Dp K H fv (faultD s.fault) ∧ Dp K H sv (saidD s.said)
  small : Small s
theorem Kx.isS {ks : List Addr} {H H' : Hp} (x : Kx ks H H') {v : V} {s : Sx} (h : IsS K H v s) : IsS K H' v s := by
  obtain ⟨⟨a, ba, ra, fa, pv, plv, fv, sv, e, h1, h2, h3, h4, h5, h6, h7, h8⟩, h9⟩ := h
  exact ⟨⟨a, ba, ra, fa, pv, plv, fv, sv, e, x.sqT h1, x.box h2, x.ft h3, x.sqT h4, x.dp _ h5, x.dp _ h6, x.dp _ h7, x.dp _ h8⟩, h9⟩
def spFaultAt (K : PySem.W.Frag) : Sp := fun vs H Q _ => ∃ (v sv : V) (p : Pr) (s : Sx) (x : Str) (n : Int), vs = [v, sv, .str x, .int n] ∧ IsPr K H v p ∧ IsS K H sv s ∧ hasLine p 0 = false ∧
  ∀ H' r, Kx [] H H' → IsS K H' r { s with stand := "faulted", at_ := n, fault := some (x, n) } → Q r H'
theorem sc_fault_at : FnScope ["program", "state", "word", "number", "where", "stand", "at", "boxes", "rows", "fits", "pile", "place", "trap", "trapped", "fault", "rest"] ["program", "state", "word", "number"] (defScope s_fault_at) :=
  ⟨rfl, rfl, rfl, by decide +kernel, rfl, by decide +kernel, by decide +kernel⟩
theorem gf_fault_at (T : Txt w K mg) : Gf P w K mg base 2 "fault_at" (spFaultAt K) := by
  have nd := sc_fault_at.nd
  refine gf_mk T.fault_at sc_fault_at (fun vs H Q E h => ?_) (fun _ _ _ _ _ _ us hl => match us, hl with | [_, _, _, _], _ => rfl) (fun f cdv A outer s H vs Q E hr h => ?_)
  · obtain ⟨v, sv, p, s, x, n, rfl, hp, hS, h0, q⟩ := h
    rfl
  obtain ⟨v, sv, p, s, x, n, rfl, hp, hS, h0, q⟩ := h
  have hu := hu_of hr
  have G_has_line := (gf_has_line (P := P) (base := base) T)
  refine ⟨_, (pss_cons (ps_asg (pv 1) (pg_star (i := 10) (by rfl) (pgs_cons (gN 5 nd) (pgs_cons (gN 6 nd) (pgs_cons (gN 7 nd) (pgs_cons (gN 8 nd) (pgs_cons (gN 9 nd) (pgs_cons (gN 10 nd) (pgs_cons (gN 11 nd) (pgs_cons (gN 12 nd) (pgs_cons (gN 13 nd) (pgs_cons (gN 14 nd) (pgs_star (gN 15 nd))))))))))))))
    (pss_cons (sT 4 nd (pe_tup (pa_cons pe_str (pa_cons (pv 3) pa_nil))))
    (pss_cons (ps_if (PW.pt (pw_and (pt_not (pt_val (pv 13))) (pw_and1 (pt_val (pe_callG G_has_line (hr.mono (by decide)) (pa_cons (pv 0) (pa_cons (pv 12) pa_nil)))))))
      (pss_cons (sT 4 nd (pe_tup (pa_cons pe_str (pa_cons (pv 12) pa_nil))))
      (pss_one (sT 13 nd pe_bl)))
      pss_nil)
    (pss_one (ps_ret (pe_op op_catA (pe_op op_catA (pv 4) (pe_tup (pa_cons (pv 7) (pa_cons (pv 8) (pa_cons (pv 9) (pa_cons (pv 10) (pa_cons (pv 11) (pa_cons (pv 12) (pa_cons (pv 13) (pa_cons (pe_tup (pa_cons (pv 2) (pa_cons (pv 3) pa_nil))) pa_nil)))))))))) (pe_callTy call_tupleF (by rfl) T.tuple (by decide +kernel) (pa_cons (pv 15) pa_nil)))))))), ?_⟩
  simp only [cxK, cxK2, L2.start, List.map, List.length, List.replicate, List.append, HAppend.hAppend, Append.append]
  obtain ⟨⟨a, ba, ra, fa, pv, plv, fv, sdv, rfl, t1, t2, t3, hfit, hpile, hplace, hfault, t8⟩, hsm⟩ := hS
  refine ⟨_, rfl, a, _, rfl, t1, (by show 10 ≤ 12; decide), fun rp nrp => ?_⟩
  have k1 : Kx [] H (upd H rp (.lst (List.drop 10 [.str s.stand, .int s.at_, .ref ba, .ref ra, .ref fa, pv, plv, .int 0, .bl false, fv, .int 0, sdv]))) := .new nrp
  have hl1 : SqL K (upd H rp (.lst (List.drop 10 [.str s.stand, .int s.at_, .ref ba, .ref ra, .ref fa, pv, plv, .int 0, .bl false, fv, .int 0, sdv]))) rp [.int 0, sdv] := .inl (.inl upd_same)
  generalize upd H rp (.lst (List.drop 10 [.str s.stand, .int s.at_, .ref ba, .ref ra, .ref fa, pv, plv, .int 0, .bl false, fv, .int 0, sdv])) = H1 at k1 hl1 ⊢
  refine ⟨_, _, rfl, _, _, rfl, _, _, rfl, _, _, rfl, _, _, rfl, _, _, rfl, _, _, rfl, _, _, rfl, _, _, rfl, _, _, rfl, _, _, rfl, rfl, ?_⟩
  simp only [List.set]
  refine ⟨_, rfl, (by show 2 ≤ sizeLine; decide), fun t nt => ?_⟩
  have k2 : Kx [] H1 (upd H1 t (.tup [.str "faulted", .int n])) := .new nt
  have hw2 : SqT K (upd H1 t (.tup [.str "faulted", .int n])) t [.str "faulted", .int n] := .inl (.inl upd_same)
  have hl2 := k2.sqL hl1
  generalize upd H1 t (.tup [.str "faulted", .int n]) = H2 at k2 hw2 hl2 ⊢
  have k02 := k1.trans k2
  simp only [List.set]
  refine ⟨_, rfl, false, rfl, iteT ?_⟩
  refine ⟨_, rfl, _, rfl, v, p, 0, rfl, k02.pr hp, fun H3 k3 => ⟨_, rfl, ?_⟩⟩
  rw [h0]
  refine iteF ?_
  have k03 := k02.trans k3
  -- the sum of three tuples
  refine ⟨_, rfl, _, rfl, _, rfl, _, rfl, _, rfl, _, rfl, _, rfl, _, rfl, _, rfl, _, rfl, (by show 2 ≤ sizeLine; decide), fun t4 nt4 => ?_⟩
  have k4 : Kx [] H3 (upd H3 t4 (.tup [.str x, .int n])) := .new nt4
  have hf4 : Dp K (upd H3 t4 (.tup [.str x, .int n])) (.ref t4) (faultD (some (x, n))) := tup_new nt4 (.cons (.str _) (.cons (.int _) .nil))
  generalize upd H3 t4 (.tup [.str x, .int n]) = H4 at k4 hf4 ⊢
  refine ⟨(by show 8 ≤ sizeLine; decide), fun t5 nt5 => ?_⟩
  have k5 : Kx [] H4 (upd H4 t5 (.tup [.ref ba, .ref ra, .ref fa, pv, plv, .int 0, .bl false, .ref t4])) := .new nt5
  have hw5 := ((k3.trans k4).trans k5).sqT hw2
  have ht5 : SqT K (upd H4 t5 (.tup [.ref ba, .ref ra, .ref fa, pv, plv, .int 0, .bl false, .ref t4])) t5 [.ref ba, .ref ra, .ref fa, pv, plv, .int 0, .bl false, .ref t4] := .inl (.inl upd_same)
  have hf5 := k5.dp _ hf4
  have hl5 := ((k3.trans k4).trans k5).sqL hl2
  generalize upd H4 t5 (.tup [.ref ba, .ref ra, .ref fa, pv, plv, .int 0, .bl false, .ref t4]) = H5 at k5 hw5 ht5 hf5 hl5 ⊢
  refine ⟨t, t5, _, _, rfl, rfl, hw5, ht5, (by show 2 + 8 ≤ sizeLine; decide), (fun z => nomatch z), (fun _ z => nomatch z), fun _ _ t6 nt6 => ?_⟩
  have k6 : Kx [] H5 (upd H5 t6 (.tup ([.str "faulted", .int n] ++ [.ref ba, .ref ra, .ref fa, pv, plv, .int 0, .bl false, .ref t4]))) := .new nt6
  have ht6 : SqT K (upd H5 t6 (.tup ([.str "faulted", .int n] ++ [.ref ba, .ref ra, .ref fa, pv, plv, .int 0, .bl false, .ref t4]))) t6 [.str "faulted", .int n, .ref ba, .ref ra, .ref fa, pv, plv, .int 0, .bl false, .ref t4] := .inl (.inl upd_same)
  have hf6 := k6.dp _ hf5
  have hl6 := k6.sqL hl5
  generalize upd H5 t6 (.tup ([.str "faulted", .int n] ++ [.ref ba, .ref ra, .ref fa, pv, plv, .int 0, .bl false, .ref t4])) = H6 at k6 ht6 hf6 hl6 ⊢
  refine ⟨_, rfl, rp, _, rfl, hl6, fun t7 o7 nt7 hd7 => ?_⟩
  have k7 : Kx [] H6 (upd H6 t7 (.frz o7 (.tup [.int 0, sdv]))) := .new nt7
  have ht7 : SqT K (upd H6 t7 (.frz o7 (.tup [.int 0, sdv]))) t7 [.int 0, sdv] := .inl (.inr ⟨_, upd_same⟩)
  have ht67 := k7.sqT ht6
  have hf7 := k7.dp _ hf6
  generalize upd H6 t7 (.frz o7 (.tup [.int 0, sdv])) = H7 at k7 ht7 ht67 hf7 ⊢
  refine ⟨t6, t7, _, _, rfl, rfl, ht67, ht7, (by show 10 + 2 ≤ sizeLine; decide), (fun z => nomatch z), (fun _ z => nomatch z), fun _ _ t8' nt8 => ?_⟩
  have k8 : Kx [] H7 (upd H7 t8' (.tup ([.str "faulted", .int n, .ref ba, .ref ra, .ref fa, pv, plv, .int 0, .bl false, .ref t4] ++ [.int 0, sdv]))) := .new nt8
  have kk := ((((k03.trans k4).trans k5).trans k6).trans k7).trans k8
  refine q _ _ kk ⟨⟨t8', ba, ra, fa, pv, plv, .ref t4, sdv, rfl, .inl (.inl upd_same), kk.box t2, kk.ft t3, kk.sqT hfit, kk.dp _ hpile, kk.dp _ hplace, ?_, kk.dp _ t8⟩, ⟨hsm.nd, hsm.b, hsm.p, hsm.s⟩⟩
  exact k8.dp _ hf7
end
end K31
/-! states -/
namespace K31
open PySem PySem.Spec PyProof.Rows L2
section
variable {P : Program} {w : World} {K : PySem.W.Frag} {mg : Str → Option Value} {base : Heap}
def spNumbers (K : PySem.W.Frag) : Sp := fun vs H Q _ => ∃ (v : V) (p : Pr), vs = [v] ∧ IsPr K H v p ∧ ∀ H' D, Kx [] H H' → H' D = some (.lst (numsV p)) → Q (.ref D) H'
theorem sc_numbers_of : FnScope ["program", "number", "statement"] ["program"] (defScope s_numbers_of) :=
  ⟨rfl, rfl, rfl, by decide +kernel, rfl, by decide +kernel, by decide +kernel⟩
theorem gf_numbers_of (T : Txt w K mg) : Gf P w K mg base 1 "numbers_of" (spNumbers K) := by
  have nd := sc_numbers_of.nd
  refine gf_mk T.numbers_of sc_numbers_of (fun vs H Q E h => ?_) (fun _ _ _ _ _ _ us hl => match us, hl with | [_], _ => rfl) (fun f cdv A outer s H vs Q E hr h => ?_)
  · obtain ⟨v, p, rfl, hp, q⟩ := h
    rfl
  obtain ⟨v, p, rfl, hp, q⟩ := h
  have hu := hu_of hr
  refine ⟨_, (pss_one (ps_ret (pe_lc (own := [("number", 1), ("statement", 2)]) (g := (gTup K 2 (gCons (gName 1) (gCons (gName 2) gNil)))) (by rfl) nd (pi_tup (pv 0)) (blkOk_by (own := [("number", 1), ("statement", 2)]) (N := ["program", "number", "statement"]) (sc := defScope s_numbers_of) (by decide +kernel)) (fun _ _ _ _ _ => (pg_tup (n := 2) (by rfl) (pgs_cons (gN 1 nd) (pgs_cons (gN 2 nd) pgs_nil)))) (fun _ _ _ _ _ => pts_nil) (fun _ _ _ _ _ => (pv 1))))), ?_⟩
  simp only [cxK, cxK2, L2.start, List.map, List.length, List.replicate, List.append, HAppend.hAppend, Append.append]
  obtain ⟨a, xs, rfl, ht, hl, hds⟩ := hp.tup
  have hfew := hp.few
  refine ⟨_, rfl, a, rfl, ⟨_, ht⟩, fun D hD => lc_tup (K := K) (a := a) (xs := xs) (fun i H' => Kx [] H H' ∧ H' D = some (.lst (numsV (p.take i)))) ⟨.new hD, upd_same⟩ (fun i H' _ h => h.1.sqT ht) ?_ ?_⟩
  · rintro i x H' hx ⟨k, hd⟩
    obtain ⟨l, hl', _, hx'⟩ := line_at hds hx
    obtain ⟨la, u, rfl, hs, hu2⟩ := dp_line (k.dp _ hx')
    refine ⟨la, _, rfl, hs, rfl, _, _, rfl, _, _, rfl, rfl, rfl, ?_⟩
    refine ⟨_, rfl, _, hd, ?_, k.grow hD, ?_⟩
    · have e : (numsV (p.take i)).length ≤ 1000 := by
        unfold numsV
        rw [List.length_map, List.length_take]
        omega
      exact small1000 e
    · rw [upd_same, nums_step hl']
  · rintro H' ⟨k, hd⟩
    rw [hl, List.take_length] at hd
    exact q _ D k hd
theorem lineOf_step {p : Pr} {n : Int} {i : Nat} {l : Int × Sm} (h : p[i]? = some l) : lineOf (p.take (i + 1)) n = (match lineOf (p.take i) n with
    | some x => some x
    | none => if l.1 = n then some l else none) := by
  obtain ⟨hi, e⟩ := List.getElem?_eq_some_iff.mp h
  unfold lineOf
  rw [List.take_succ_eq_append_getElem hi, List.find?_append, e]
  cases List.find? (fun l => decide (l.1 = n)) (List.take i p) with
  | some x => rfl
  | none =>
    by_cases z : l.1 = n
    · simp [z]
    · simp [z]
def spLineOf (K : PySem.W.Frag) : Sp := fun vs H Q _ => ∃ (v : V) (p : Pr) (n : Int) (l : Int × Sm), vs = [v, .int n] ∧ IsPr K H v p ∧ lineOf p n = some l ∧ ∀ H' r, Kx [] H H' → Dp K H' r (lineD l) → Q r H'
theorem sc_line_of : FnScope ["program", "number", "line"] ["program", "number"] (defScope s_line_of) :=
  ⟨rfl, rfl, rfl, by decide +kernel, rfl, by decide +kernel, by decide +kernel⟩
theorem gf_line_of (T : Txt w K mg) : Gf P w K mg base 1 "line_of" (spLineOf K) := by
  have nd := sc_line_of.nd
  refine gf_mk T.line_of sc_line_of (fun vs H Q E h => ?_) (fun _ _ _ _ _ _ us hl => match us, hl with | [_, _], _ => rfl) (fun f cdv A outer s H vs Q E hr h => ?_)
  · obtain ⟨v, p, n, l, rfl, hp, hm, q⟩ := h
    rfl
  obtain ⟨v, p, n, l, rfl, hp, hm, q⟩ := h
  have hu := hu_of hr
  refine ⟨_, (pss_one (ps_ret (pe_ix (r := rIxL K) ix_list (pe_lc (own := [("line", 2)]) (g := (gName 2)) (by rfl) nd (pi_tup (pv 0)) (blkOk_by (own := [("line", 2)]) (N := ["program", "number", "line"]) (sc := defScope s_line_of) (by decide +kernel)) (fun _ _ _ _ _ => (gN 2 nd)) (fun _ _ _ _ _ => (pts_one (pt_cmpR op_eq (pe_ix (r := rIxT K) ix_tup (pv 2) pe_int (fun _ _ => rfl)) (pv 1) (nomark _)))) (fun _ _ _ _ _ => (pv 2))) pe_int (fun _ _ => rfl)))), ?_⟩
  simp only [cxK, cxK2, L2.start, List.map, List.length, List.replicate, List.append, HAppend.hAppend, Append.append]
  obtain ⟨a, xs, rfl, ht, hl, hds⟩ := hp.tup
  have hfew := hp.few
  refine ⟨_, rfl, a, rfl, ⟨_, ht⟩, fun D hD => lc_tup (K := K) (a := a) (xs := xs) (fun i H' => Kx [] H H' ∧ ∃ acc, H' D = some (.lst acc) ∧ acc.length ≤ i ∧ (lineOf (p.take i) n = none → acc = []) ∧ ∀ l, lineOf (p.take i) n = some l → ∃ x r, acc = x :: r ∧ Dp K H x (lineD l)) ⟨.new hD, [], upd_same, Nat.le_refl _, fun _ => rfl, fun l z => nomatch z⟩ (fun i H' _ h => h.1.sqT ht) ?_ ?_⟩
  · rintro i x H' hx ⟨k, acc, hd, hal, hno, hso⟩
    obtain ⟨l', hl', _, hx'⟩ := line_at hds hx
    have hil : i < p.length := (List.getElem?_eq_some_iff.mp hl').1
    obtain ⟨la, u, e0, hs, hu2⟩ := dp_line (k.dp _ hx')
    have hstep := lineOf_step (n := n) hl'
    refine ⟨rfl, _, rfl, la, _, _, _, e0, rfl, hs, atI_nat (j := 0) rfl, _, rfl, rfl, _, rfl, ?_⟩
    rw [decI]
    by_cases z : l'.1 = n
    · rw [decide_eq_true z]
      refine ⟨_, rfl, acc, hd, small1000 (by omega), k.grow hD, acc ++ [x], upd_same, by rw [List.length_append]; show _ + 1 ≤ i + 1; omega, ?_, ?_⟩
      · intro e
        rw [hstep] at e
        cases h1 : lineOf (p.take i) n with
        | some y => rw [h1] at e; cases e
        | none => rw [h1] at e; rw [if_pos z] at e; cases e
      · intro l2 e
        rw [hstep] at e
        cases h1 : lineOf (p.take i) n with
        | some y =>
          rw [h1] at e
          cases e
          obtain ⟨x0, r0, e1, e2⟩ := hso _ h1
          exact ⟨x0, r0 ++ [x], by rw [e1]; rfl, e2⟩
        | none =>
          rw [h1] at e
          rw [if_pos z] at e
          cases e
          rw [hno h1]
          exact ⟨x, [], rfl, hx'⟩
    · rw [decide_eq_false z]
      refine ⟨k, acc, hd, by omega, ?_, ?_⟩
      · intro e
        rw [hstep] at e
        cases h1 : lineOf (p.take i) n with
        | some y => rw [h1] at e; cases e
        | none => exact hno h1
      · intro l2 e
        rw [hstep] at e
        cases h1 : lineOf (p.take i) n with
        | some y =>
          rw [h1] at e
          cases e
          exact hso _ h1
        | none =>
          rw [h1] at e
          rw [if_neg z] at e
          cases e
  · rintro H' ⟨k, acc, hd, _, _, hso⟩
    rw [hl, List.take_length] at hso
    obtain ⟨x0, r0, rfl, e2⟩ := hso _ hm
    exact ⟨D, _, _, _, rfl, rfl, .inl (.inl hd), atI_nat (j := 0) rfl, q _ _ k (k.dp _ e2)⟩
theorem Kx.ofSame {H H' : Hp} (h : ∀ b o, H b = some o → H' b = some o) : Kx [] H H' := by
  refine ⟨fun a o e _ => h a o e, fun a e => ?_⟩
  cases z : H a with
  | none => rfl
  | some o => rw [h a o z] at e; cases e
theorem Kx.drop {H H1 H2 : Hp} {d b : Addr} (k : Kx [] H H1) (k2 : Kx [d, b] H1 H2) (hd : H d = none) (hb : H b = none) : Kx [] H H2 := by
  refine ⟨fun a o e _ => k2.at_ a o (k.same _ _ e) fun _ z => ?_, fun a e => k.live a (k2.live a e)⟩
  rcases (show a = d ∨ a = b by simpa using z) with z | z
  · rw [z, hd] at e; cases e
  · rw [z, hb] at e; cases e
/-- from an older heap: what changes is new -/
theorem Kx.old {H H1 : Hp} {d : Addr} {o : HO} (k : Kx [] H H1) (hd : H d = none) : Kx [] H (upd H1 d o) := k.grow hd
section
variable (st : Str) (a : Int) (k : Kn)
theorem kv_trap : valV (kvOf st a k) (Sum.inr "trap") = some (.int 0) := by kernel_rfl
theorem kv_trapped : valV (kvOf st a k) (Sum.inr "trapped") = some (.bl false) := by kernel_rfl
theorem kv_asked : valV (kvOf st a k) (Sum.inr "asked") = some (.int 0) := by kernel_rfl
theorem put_rows (b : Addr) : putK (kvOf st a k) (Sum.inr "rows") (.ref b) = kvOf st a { k with rd := b } := by kernel_rfl
theorem put_fits (b : Addr) : putK (kvOf st a k) (Sum.inr "fits") (.ref b) = kvOf st a { k with fd := b } := by kernel_rfl
theorem merge_kv : mergeK [] (kvOf st a k) = kvOf st a k := by kernel_rfl
end
def spKnownOf (K : PySem.W.Frag) : Sp := fun vs H Q _ => ∃ (v : V) (s : Sx), vs = [v] ∧ IsS K H v s ∧ ∀ H' d k, Kx [] H H' → H d = none → H k.bd = none → KnS K H' d k s → Q (.ref d) H'
theorem pair_bxs {H : Hp} {ps : List Addr} {bs : List (Str × Int)} (h : Paired (fun p (b : Str × Int) => SqT K H p [.str b.1, .int b.2]) ps bs) : Paired (fun p (kv : Key × V) => SqT K H p [kV kv.1, kv.2]) ps (bxs bs) := by
  induction h with
  | nil => exact .nil
  | cons h _ ih => exact .cons h ih
theorem pair_same {H : Hp} {ts : List Addr} {kvs : List (Key × V)} (h : Paired (fun (t : Addr) (q : Key × V) => H t = some (.tup [kV q.1, q.2])) ts kvs) : Paired (fun p (kv : Key × V) => SqT K H p [kV kv.1, kv.2]) ts kvs := by
  induction h with
  | nil => exact .nil
  | cons h _ ih => exact .cons (.inl (.inl h)) ih
theorem sc_known_of : FnScope ["state", "known", "name", "box", "body"] ["state"] (defScope s_known_of) :=
  ⟨rfl, rfl, rfl, by decide +kernel, rfl, by decide +kernel, by decide +kernel⟩
theorem gf_known_of (T : Txt w K mg) : Gf P w K mg base 1 "known_of" (spKnownOf K) := by
  have nd := sc_known_of.nd
  refine gf_mk T.known_of sc_known_of (fun vs H Q E h => ?_) (fun _ _ _ _ _ _ us hl => match us, hl with | [_], _ => rfl) (fun f cdv A outer s H vs Q E hr h => ?_)
  · obtain ⟨v, s, rfl, hS, q⟩ := h
    rfl
  obtain ⟨v, s, rfl, hS, q⟩ := h
  have hu := hu_of hr
  obtain ⟨aP, g_PARTS, hP⟩ := T.parts
  refine ⟨_, (pss_cons (sT 1 nd (pe_callTy (call_dictP rfl) (by rfl) T.dict (by decide +kernel) (pa_cons (pe_listZip rfl (pa_cons (pe_globR g_PARTS) (pa_cons (pv 0) pa_nil)) (by rfl) T.list (by rfl) T.zip (by decide +kernel) (by decide +kernel)) pa_nil)))
    (pss_cons (ps_dput hu (pv 1) pe_str (pe_callTy (call_dictT rfl) (by rfl) T.dict (by decide +kernel) (pa_cons (pe_dget hu (pv 1) pe_str (fun _ _ => rfl)) pa_nil)) rfl)
    (pss_cons (ps_dput hu (pv 1) pe_str (pe_callTy (call_dictT rfl) (by rfl) T.dict (by decide +kernel) (pa_cons (pe_dget hu (pv 1) pe_str (fun _ _ => rfl)) pa_nil)) rfl)
    (pss_cons (ps_dput hu (pv 1) pe_str (pe_dc (own := [("name", 2), ("box", 3), ("body", 4)]) (g := (gTup K 3 (gCons (gName 2) (gCons (gName 3) (gCons (gName 4) gNil))))) (by rfl) nd (pi_tup (pe_dget hu (pv 1) pe_str (fun _ _ => rfl))) (blkOk_by (own := [("name", 2), ("box", 3), ("body", 4)]) (N := ["state", "known", "name", "box", "body"]) (sc := defScope s_known_of) (by decide +kernel)) (fun _ _ _ _ _ => (pg_tup (n := 3) (by rfl) (pgs_cons (gN 2 nd) (pgs_cons (gN 3 nd) (pgs_cons (gN 4 nd) pgs_nil))))) (fun _ _ _ _ _ => pts_nil) (fun _ _ _ _ _ => (pv 2)) (fun _ _ _ _ _ => (pe_tup (pa_cons (pv 3) (pa_cons (pv 4) pa_nil))))) rfl)
    (pss_one (ps_ret (pv 1))))))), ?_⟩
  simp only [cxK, cxK2, L2.start, List.map, List.length, List.replicate, List.append, HAppend.hAppend, Append.append]
  obtain ⟨⟨a, ba, ra, fa, pv, plv, fv, sdv, rfl, t1, t2, t3, t4, t5, t6, t7, t8⟩, hsm⟩ := hS
  refine ⟨_, rfl, aP, a, kvOf s.stand s.at_ ⟨ba, ra, fa, pv, plv, fv, sdv⟩, rfl, hP _, t1, (fun z => nomatch z), fun H1 l ts kp1 nl hl hts => ?_⟩
  have k1 : Kx [] H H1 := .ofSame kp1
  refine ⟨l, ts, _, rfl, .inl (.inl hl), pair_same hts, fun d nd => ?_⟩
  rw [merge_kv]
  have hd0 : H d = none := k1.live _ nd
  have k2 := k1.old (o := .dK (kvOf s.stand s.at_ ⟨ba, ra, fa, pv, plv, fv, sdv⟩)) hd0
  have d2 : upd H1 d (.dK (kvOf s.stand s.at_ ⟨ba, ra, fa, pv, plv, fv, sdv⟩)) d = some (.dK (kvOf s.stand s.at_ ⟨ba, ra, fa, pv, plv, fv, sdv⟩)) := upd_same
  generalize upd H1 d (.dK (kvOf s.stand s.at_ ⟨ba, ra, fa, pv, plv, fv, sdv⟩)) = H2 at k2 d2 ⊢
  simp only [List.set]
  -- the boxes
  obtain ⟨ps, hft, hpr⟩ := k2.box t2
  refine ⟨_, rfl, d, _, rfl, dget (k := Sum.inr "boxes") d2 (kv_boxes _ _ _), ba, ps, bxs s.boxes, rfl, hft, pair_bxs hpr, fun bd nbd => ?_⟩
  rw [merge_bxs0 hsm.nd]
  have hb0 : H bd = none := k2.live _ nbd
  have ndb : d ≠ bd := ne_of_none d2 nbd
  have k3 := k2.old (o := .dK (bxs s.boxes)) hb0
  have d3 : upd H2 bd (.dK (bxs s.boxes)) d = _ := (upd_ne ndb).trans d2
  have b3 : upd H2 bd (.dK (bxs s.boxes)) bd = some (.dK (bxs s.boxes)) := upd_same
  generalize upd H2 bd (.dK (bxs s.boxes)) = H3 at k3 d3 b3 ⊢
  refine ⟨_, rfl, d, _, rfl, dput (k := Sum.inr "boxes") d3 (kv_len _ _ _), ?_⟩
  rw [put_boxes]
  have k4 := k3.old (o := .dK (kvOf s.stand s.at_ ⟨bd, ra, fa, pv, plv, fv, sdv⟩)) hd0
  have d4 : upd H3 d (.dK (kvOf s.stand s.at_ ⟨bd, ra, fa, pv, plv, fv, sdv⟩)) d = some (.dK (kvOf s.stand s.at_ ⟨bd, ra, fa, pv, plv, fv, sdv⟩)) := upd_same
  have b4 : upd H3 d (.dK (kvOf s.stand s.at_ ⟨bd, ra, fa, pv, plv, fv, sdv⟩)) bd = _ := (upd_ne ndb.symm).trans b3
  generalize upd H3 d (.dK (kvOf s.stand s.at_ ⟨bd, ra, fa, pv, plv, fv, sdv⟩)) = H4 at k4 d4 b4 ⊢
  -- the rows
  refine ⟨_, rfl, d, _, rfl, dget (k := Sum.inr "rows") d4 (kv_rows _ _ _), ra, [], [], rfl, k4.ft t3, .nil, fun rd nrd => ?_⟩
  have hr0 : H rd = none := k4.live _ nrd
  have ndr : d ≠ rd := ne_of_none d4 nrd
  have nbr : bd ≠ rd := ne_of_none b4 nrd
  have k5 := k4.old (o := .dK (mergeK [] [])) hr0
  have d5 : upd H4 rd (.dK (mergeK [] [])) d = _ := (upd_ne ndr).trans d4
  have b5 : upd H4 rd (.dK (mergeK [] [])) bd = _ := (upd_ne nbr).trans b4
  have r5 : upd H4 rd (.dK (mergeK [] [])) rd = some (.dK []) := upd_same
  generalize upd H4 rd (.dK (mergeK [] [])) = H5 at k5 d5 b5 r5 ⊢
  refine ⟨_, rfl, d, _, rfl, dput (k := Sum.inr "rows") d5 (kv_len _ _ _), ?_⟩
  rw [put_rows]
  have k6 := k5.old (o := .dK (kvOf s.stand s.at_ ⟨bd, rd, fa, pv, plv, fv, sdv⟩)) hd0
  have d6 : upd H5 d (.dK (kvOf s.stand s.at_ ⟨bd, rd, fa, pv, plv, fv, sdv⟩)) d = some (.dK (kvOf s.stand s.at_ ⟨bd, rd, fa, pv, plv, fv, sdv⟩)) := upd_same
  have b6 : upd H5 d (.dK (kvOf s.stand s.at_ ⟨bd, rd, fa, pv, plv, fv, sdv⟩)) bd = _ := (upd_ne ndb.symm).trans b5
  have r6 : upd H5 d (.dK (kvOf s.stand s.at_ ⟨bd, rd, fa, pv, plv, fv, sdv⟩)) rd = _ := (upd_ne ndr.symm).trans r5
  generalize upd H5 d (.dK (kvOf s.stand s.at_ ⟨bd, rd, fa, pv, plv, fv, sdv⟩)) = H6 at k6 d6 b6 r6 ⊢
  -- the fits
  refine ⟨_, rfl, d, _, rfl, dget (k := Sum.inr "fits") d6 (kv_fits _ _ _), fa, rfl, ⟨_, k6.sqT t4⟩, fun fd nfd => dc_tup (K := K) (a := fa) (xs := []) (fun i H' => H' = upd H6 fd (.dK [])) rfl (fun i H' _ h => h ▸ (k6.grow (k6.live _ nfd)).sqT t4) (fun i x H' hx _ => nomatch hx) ?_⟩
  rintro H7 rfl
  have hf0 : H fd = none := k6.live _ nfd
  have ndf : d ≠ fd := ne_of_none d6 nfd
  have nbf : bd ≠ fd := ne_of_none b6 nfd
  have nrf : rd ≠ fd := ne_of_none r6 nfd
  have k7 := k6.old (o := .dK []) hf0
  have d7 : upd H6 fd (.dK []) d = _ := (upd_ne ndf).trans d6
  have b7 : upd H6 fd (.dK []) bd = _ := (upd_ne nbf).trans b6
  have r7 : upd H6 fd (.dK []) rd = _ := (upd_ne nrf).trans r6
  have f7 : upd H6 fd (.dK []) fd = some (.dK []) := upd_same
  generalize upd H6 fd (.dK []) = H7 at k7 d7 b7 r7 f7 ⊢
  refine ⟨_, rfl, d, _, rfl, dput (k := Sum.inr "fits") d7 (kv_len _ _ _), ?_⟩
  rw [put_fits]
  have k8 := k7.old (o := .dK (kvOf s.stand s.at_ ⟨bd, rd, fd, pv, plv, fv, sdv⟩)) hd0
  refine ⟨_, rfl, q _ d ⟨bd, rd, fd, pv, plv, fv, sdv⟩ k8 hd0 hb0 ⟨upd_same, (upd_ne ndb.symm).trans b7, (upd_ne ndr.symm).trans r7, (upd_ne ndf.symm).trans f7, ndb.symm, ndr.symm, ndf.symm, nbr.symm, nbf.symm, k8.dp _ t5, k8.dp _ t6, k8.dp _ t7, k8.dp _ t8, hsm⟩⟩
end
end K31
/-! the state of the parts, the first state, the step, the walk -/
namespace K31
open PySem PySem.Spec PyProof.Rows L2
section
variable {P : Program} {w : World} {K : PySem.W.Frag} {mg : Str → Option Value} {base : Heap}
def tNev : TE := fun _ _ _ => False
theorem pe_nev {X : Cx} {e : Expr} : PE X e tNev := ⟨fun _ _ _ _ _ _ h => h.elim⟩
def valsOf (st : Str) (a : Int) (k : Kn) : List V := [.str st, .int a, .ref k.bd, .ref k.rd, .ref k.fd, k.pile, k.place, .int 0, .bl false, k.fault, .int 0, k.said]
theorem part_at (st : Str) (a : Int) (k : Kn) : ∀ (i : Nat) (x : V), partsV[i]? = some x → ∃ (nm : Str) (v : V), x = .str nm ∧ valV (kvOf st a k) (Sum.inr nm) = some v ∧ (valsOf st a k)[i]? = some v
  | 0, _, h => by cases h; exact ⟨_, _, rfl, kv_stand st a k, rfl⟩
  | 1, _, h => by cases h; exact ⟨_, _, rfl, kv_at st a k, rfl⟩
  | 2, _, h => by cases h; exact ⟨_, _, rfl, kv_boxes st a k, rfl⟩
  | 3, _, h => by cases h; exact ⟨_, _, rfl, kv_rows st a k, rfl⟩
  | 4, _, h => by cases h; exact ⟨_, _, rfl, kv_fits st a k, rfl⟩
  | 5, _, h => by cases h; exact ⟨_, _, rfl, kv_pile st a k, rfl⟩
  | 6, _, h => by cases h; exact ⟨_, _, rfl, kv_place st a k, rfl⟩
  | 7, _, h => by cases h; exact ⟨_, _, rfl, kv_trap st a k, rfl⟩
  | 8, _, h => by cases h; exact ⟨_, _, rfl, kv_trapped st a k, rfl⟩
  | 9, _, h => by cases h; exact ⟨_, _, rfl, kv_fault st a k, rfl⟩
  | 10, _, h => by cases h; exact ⟨_, _, rfl, kv_asked st a k, rfl⟩
  | 11, _, h => by cases h; exact ⟨_, _, rfl, kv_said st a k, rfl⟩
  | n + 12, _, h => by cases h
theorem bxs_keys (bs : List (Str × Int)) : (bxs bs).map (·.1) = (bs.map (·.1)).map Sum.inr := by
  unfold bxs
  rw [List.map_map, List.map_map]
  rfl
def spAsState (K : PySem.W.Frag) : Sp := fun vs H Q _ => ∃ (d : Addr) (k : Kn) (s : Sx), vs = [.ref d] ∧ KnS K H d k s ∧ ∀ H' r, Kx [] H H' → IsS K H' r { s with boxes := sortB s.boxes } → Q r H'
theorem paired_app {α β : Type} {R : α → β → Prop} {xs us : List α} {ys vs : List β} (h : Paired R xs ys) (k : Paired R us vs) : Paired R (xs ++ us) (ys ++ vs) := by
  induction h with
  | nil => exact k
  | cons h _ ih => exact .cons h ih
theorem paired_imp {α β : Type} {R T : α → β → Prop} (f : ∀ a b, R a b → T a b) {xs : List α} {ys : List β} (h : Paired R xs ys) : Paired T xs ys := by
  induction h with
  | nil => exact .nil
  | cons h _ ih => exact .cons (f _ _ h) ih
theorem sc_as_state : FnScope ["known", "told", "name", "part"] ["known"] (defScope s_as_state) :=
  ⟨rfl, rfl, rfl, by decide +kernel, rfl, by decide +kernel, by decide +kernel⟩
theorem gf_as_state (T : Txt w K mg) : Gf P w K mg base 1 "as_state" (spAsState K) := by
  have nd := sc_as_state.nd
  refine gf_mk T.as_state sc_as_state (fun vs H Q E h => ?_) (fun _ _ _ _ _ _ us hl => match us, hl with | [_], _ => rfl) (fun f cdv A outer s H vs Q E hr h => ?_)
  · obtain ⟨d, k, s, rfl, S, q⟩ := h
    rfl
  obtain ⟨d, k, s, rfl, S, q⟩ := h
  have hu := hu_of hr
  obtain ⟨aP, g_PARTS, hP⟩ := T.parts
  refine ⟨_, (pss_cons (sT 1 nd (pe_callTy call_dictC (by rfl) T.dict (by decide +kernel) (pa_cons (pv 0) pa_nil)))
    (pss_cons (ps_dput hu (pv 1) pe_str (pe_callTy call_tupleF (by rfl) T.tuple (by decide +kernel) (pa_cons (pe_lc (own := [("name", 2)]) (g := (gName 2)) (by rfl) nd (pi_list (pe_callB (call_sortedD rfl) (by rfl) T.sorted (by decide +kernel) (pa_cons (pe_dget hu (pv 0) pe_str (fun _ _ => rfl)) pa_nil))) (blkOk_by (own := [("name", 2)]) (N := ["known", "told", "name", "part"]) (sc := defScope s_as_state) (by decide +kernel)) (fun _ _ _ _ _ => (gN 2 nd)) (fun _ _ _ _ _ => pts_nil) (fun _ _ _ _ _ => (pe_tup (pa_cons (pv 2) (pa_cons (pe_dget hu (pe_dget hu (pv 0) pe_str (fun _ _ => rfl)) (pv 2) (fun _ _ => rfl)) pa_nil))))) pa_nil)) rfl)
    (pss_cons (ps_dput hu (pv 1) pe_str (pe_callTy call_tupleF (by rfl) T.tuple (by decide +kernel) (pa_cons (pe_lc (own := [("name", 2)]) (g := (gName 2)) (by rfl) nd (pi_list (pe_callB (call_sortedD rfl) (by rfl) T.sorted (by decide +kernel) (pa_cons (pe_dget hu (pv 0) pe_str (fun _ _ => rfl)) pa_nil))) (blkOk_by (own := [("name", 2)]) (N := ["known", "told", "name", "part"]) (sc := defScope s_as_state) (by decide +kernel)) (fun _ _ _ _ _ => (gN 2 nd)) (fun _ _ _ _ _ => pts_nil) (fun _ _ _ _ _ => pe_nev)) pa_nil)) rfl)
    (pss_cons (ps_dput hu (pv 1) pe_str (pe_callTy call_tupleF (by rfl) T.tuple (by decide +kernel) (pa_cons (pe_lc (own := [("name", 2)]) (g := (gName 2)) (by rfl) nd (pi_list (pe_callB (call_sortedD rfl) (by rfl) T.sorted (by decide +kernel) (pa_cons (pe_dget hu (pv 0) pe_str (fun _ _ => rfl)) pa_nil))) (blkOk_by (own := [("name", 2)]) (N := ["known", "told", "name", "part"]) (sc := defScope s_as_state) (by decide +kernel)) (fun _ _ _ _ _ => (gN 2 nd)) (fun _ _ _ _ _ => pts_nil) (fun _ _ _ _ _ => pe_nev)) pa_nil)) rfl)
    (pss_one (ps_ret (pe_callTy call_tupleF (by rfl) T.tuple (by decide +kernel) (pa_cons (pe_lc (own := [("part", 3)]) (g := (gName 3)) (by rfl) nd (pi_tup (pe_globR g_PARTS)) (blkOk_by (own := [("part", 3)]) (N := ["known", "told", "name", "part"]) (sc := defScope s_as_state) (by decide +kernel)) (fun _ _ _ _ _ => (gN 3 nd)) (fun _ _ _ _ _ => pts_nil) (fun _ _ _ _ _ => (pe_dget hu (pv 1) (pv 3) (fun _ _ => rfl)))) pa_nil)))))))), ?_⟩
  simp only [cxK, cxK2, L2.start, List.map, List.length, List.replicate, List.append, HAppend.hAppend, Append.append]
  refine ⟨_, rfl, d, _, rfl, S.dk, fun t nt0 => ?_⟩
  have k1 : Kx [] H (upd H t (.dK (kvOf s.stand s.at_ k))) := .new nt0
  have td1 : upd H t (.dK (kvOf s.stand s.at_ k)) t = some (.dK (kvOf s.stand s.at_ k)) := upd_same
  generalize upd H t (.dK (kvOf s.stand s.at_ k)) = H1 at k1 td1 ⊢
  simp only [List.set]
  -- boxes
  refine ⟨_, rfl, d, _, rfl, dget (k := Sum.inr "boxes") (k1.same _ _ S.dk) (kv_boxes _ _ _), _, bxs s.boxes, s.boxes.map (·.1), rfl, .inl (k1.same _ _ S.bx), bxs_keys _, (by rw [List.length_map]; have := S.small.b; omega), fun ys p hperm hsort np => ?_⟩
  have ey : ys = (sortB s.boxes).map (·.1) := sortB_keys hperm hsort
  subst ey
  have x2 := k1.old (o := .lst (((sortB s.boxes).map (·.1)).map V.str)) (k1.live _ np)
  have g2 : upd H1 p (.lst (((sortB s.boxes).map (·.1)).map V.str)) p = some (.lst (((sortB s.boxes).map (·.1)).map V.str)) := upd_same
  have td2 : upd H1 p (.lst (((sortB s.boxes).map (·.1)).map V.str)) t = _ := (upd_ne (ne_of_none td1 np)).trans td1
  generalize upd H1 p (.lst (((sortB s.boxes).map (·.1)).map V.str)) = G2 at x2 g2 td2 ⊢
  have hlen : (((sortB s.boxes).map (·.1)).map V.str).length = (sortB s.boxes).length := by rw [List.length_map, List.length_map]
  refine ⟨p, rfl, ⟨_, .inl (.inl g2)⟩, fun D hD => lc_list (K := K) (a := p) (xs := ((sortB s.boxes).map (·.1)).map V.str) (fun i H' => Kx [] G2 H' ∧ ∃ ps : List Addr, H' D = some (.lst (ps.map V.ref)) ∧ Paired (fun p (b : Str × Int) => SqT K H' p [.str b.1, .int b.2]) ps ((sortB s.boxes).take i)) ⟨.new hD, [], upd_same, by rw [List.take_zero]; exact .nil⟩ (fun i H' _ h => h.1.sqL (.inl (.inl g2))) ?_ ?_⟩
  · rintro i x H' hx ⟨k2, ps, hDl, hpr⟩
    rw [List.getElem?_map, List.getElem?_map] at hx
    cases hb : (sortB s.boxes)[i]? with
    | none => rw [hb] at hx; cases hx
    | some b =>
      rw [hb] at hx
      cases hx
      have kk := x2.trans k2
      have hlk := look_sorted S.small.nd hb
      refine ⟨rfl, _, rfl, _, rfl, d, _, rfl, dget (k := Sum.inr "boxes") (kk.same _ _ S.dk) (kv_boxes _ _ _), _, rfl, k.bd, _, rfl, dget (k := Sum.inr b.1) (kk.same _ _ S.bx) (look_val hlk), (by show 2 ≤ sizeLine; decide), fun t2 nt2 => ?_⟩
      have k3 : Kx [] H' (upd H' t2 (.tup [.str b.1, .int b.2])) := .new nt2
      have hD3 := k3.same _ _ hDl
      have hpl : ps.length = i := by
        rw [Paired.length hpr, List.length_take]
        have := (List.getElem?_eq_some_iff.mp hb).1
        omega
      refine ⟨_, hD3, ?_, (k2.trans k3).grow hD, ps ++ [t2], ?_, ?_⟩
      · rw [List.length_map, hpl]
        have := (List.getElem?_eq_some_iff.mp hb).1
        rw [sortB_len] at this
        have := S.small.b
        exact small1000 (by omega)
      · rw [upd_same, List.map_append]
        rfl
      · obtain ⟨hi, e⟩ := List.getElem?_eq_some_iff.mp hb
        rw [List.take_succ_eq_append_getElem hi, e]
        have k4 : ∀ a xs, SqT K (upd H' t2 (.tup [.str b.1, .int b.2])) a xs → SqT K (upd (upd H' t2 (.tup [.str b.1, .int b.2])) D (.lst (List.map V.ref ps ++ [.ref t2]))) a xs := by
          intro a xs h
          rcases h with h | h
          · left
            have na : a ≠ D := by
              intro z
              subst z
              rcases h with h | ⟨o, h⟩
              · rw [hD3] at h; cases h
              · rw [hD3] at h; cases h
            rcases h with h | ⟨o, h⟩
            · exact .inl ((upd_ne na).trans h)
            · exact .inr ⟨o, (upd_ne na).trans h⟩
          · exact .inr h
        refine paired_app ?_ (.cons (k4 _ _ (.inl (.inl upd_same))) .nil)
        exact paired_imp (fun p' b' h => k4 _ _ (k3.sqT h)) hpr
  rintro H' ⟨k2, ps, hDl, hpr⟩
  rw [hlen, List.take_length] at hpr
  refine ⟨D, _, rfl, .inl (.inl hDl), fun r o nr ho => ?_⟩
  have z2 := (x2.trans k2).old (o := .frz o (.tup (ps.map V.ref))) ((x2.trans k2).live _ nr)
  have y2 : Kx [] H' (upd H' r (.frz o (.tup (ps.map V.ref)))) := .new nr
  have bx2 : BoxT K (upd H' r (.frz o (.tup (ps.map V.ref)))) r (sortB s.boxes) := ⟨ps, ⟨o, upd_same, ho⟩, paired_imp (fun p' b' h => y2.sqT h) hpr⟩
  have tdd2 := y2.same _ _ (k2.same _ _ td2)
  generalize upd H' r (.frz o (.tup (ps.map V.ref))) = F2 at z2 bx2 tdd2 y2 ⊢
  refine ⟨_, rfl, t, _, rfl, dput (k := Sum.inr "boxes") tdd2 (kv_len _ _ _), ?_⟩
  rw [put_boxes]
  have k2' := z2.old (o := .dK (kvOf s.stand s.at_ { k with bd := r })) nt0
  have td2' : upd F2 t (.dK (kvOf s.stand s.at_ { k with bd := r })) t = some (.dK (kvOf s.stand s.at_ { k with bd := r })) := upd_same
  have px2 : Kx [t] F2 (upd F2 t (.dK (kvOf s.stand s.at_ { k with bd := r }))) := .put tdd2 (by simp)
  have bxx2 := px2.box bx2
  generalize upd F2 t (.dK (kvOf s.stand s.at_ { k with bd := r })) = H2 at k2' td2' bxx2 ⊢
  -- rows
  refine ⟨_, rfl, d, _, rfl, dget (k := Sum.inr "rows") (k2'.same _ _ S.dk) (kv_rows _ _ _), _, [], [], rfl, .inl (k2'.same _ _ S.rw_), rfl, (by decide), fun ys3 p3 hperm3 _ np3 => ?_⟩
  have ey3 : ys3 = [] := List.Perm.eq_nil hperm3
  subst ey3
  have x3 := k2'.old (o := .lst (([] : List Str).map V.str)) (k2'.live _ np3)
  have g3 : upd H2 p3 (.lst (([] : List Str).map V.str)) p3 = some (.lst []) := upd_same
  have td3 : upd H2 p3 (.lst (([] : List Str).map V.str)) t = _ := (upd_ne (ne_of_none td2' np3)).trans td2'
  have fk3 : Kx [] H2 (upd H2 p3 (.lst (([] : List Str).map V.str))) := .new np3
  generalize upd H2 p3 (.lst (([] : List Str).map V.str)) = G3 at x3 g3 td3 fk3 ⊢
  refine ⟨p3, rfl, ⟨_, .inl (.inl g3)⟩, fun D3 hD3 => lc_list (K := K) (a := p3) (xs := []) (fun i H' => H' = upd G3 D3 (.lst [])) rfl (fun i H' _ h => h ▸ (Kx.new (ks := []) hD3).sqL (.inl (.inl g3))) (fun i x H' hx _ => nomatch hx) ?_⟩
  rintro H' rfl
  refine ⟨D3, [], rfl, .inl (.inl upd_same), fun r3 o3 nr3 ho3 => ?_⟩
  have y3 : Kx [] G3 (upd (upd G3 D3 (.lst [])) r3 (.frz o3 (.tup []))) := (Kx.new (ks := []) hD3).trans (.new nr3)
  have z3 := x3.trans y3
  have ft3 : FT (upd (upd G3 D3 (.lst [])) r3 (.frz o3 (.tup []))) r3 [] := ⟨o3, upd_same, ho3⟩
  have tdd3 := y3.same _ _ td3
  have fkk3 := fk3.trans y3
  generalize upd (upd G3 D3 (.lst [])) r3 (.frz o3 (.tup [])) = F3 at z3 ft3 tdd3 fkk3 ⊢
  refine ⟨_, rfl, t, _, rfl, dput (k := Sum.inr "rows") tdd3 (kv_len _ _ _), ?_⟩
  rw [put_rows]
  have k3 := z3.old (o := .dK (kvOf s.stand s.at_ { k with bd := r, rd := r3 })) nt0
  have td3' : upd F3 t (.dK (kvOf s.stand s.at_ { k with bd := r, rd := r3 })) t = some (.dK (kvOf s.stand s.at_ { k with bd := r, rd := r3 })) := upd_same
  have px3 : Kx [t] F3 (upd F3 t (.dK (kvOf s.stand s.at_ { k with bd := r, rd := r3 }))) := .put tdd3 (by simp)
  have ftt3 := px3.ft ft3
  have kc3 := (fkk3.sub (ls := [t]) (fun _ z => nomatch z)).trans px3
  generalize upd F3 t (.dK (kvOf s.stand s.at_ { k with bd := r, rd := r3 })) = H3 at k3 td3' ftt3 kc3 ⊢
  -- fits
  refine ⟨_, rfl, d, _, rfl, dget (k := Sum.inr "fits") (k3.same _ _ S.dk) (kv_fits _ _ _), _, [], [], rfl, .inl (k3.same _ _ S.ft), rfl, (by decide), fun ys4 p4 hperm4 _ np4 => ?_⟩
  have ey4 : ys4 = [] := List.Perm.eq_nil hperm4
  subst ey4
  have x4 := k3.old (o := .lst (([] : List Str).map V.str)) (k3.live _ np4)
  have g4 : upd H3 p4 (.lst (([] : List Str).map V.str)) p4 = some (.lst []) := upd_same
  have td4 : upd H3 p4 (.lst (([] : List Str).map V.str)) t = _ := (upd_ne (ne_of_none td3' np4)).trans td3'
  have fk4 : Kx [] H3 (upd H3 p4 (.lst (([] : List Str).map V.str))) := .new np4
  generalize upd H3 p4 (.lst (([] : List Str).map V.str)) = G4 at x4 g4 td4 fk4 ⊢
  refine ⟨p4, rfl, ⟨_, .inl (.inl g4)⟩, fun D4 hD4 => lc_list (K := K) (a := p4) (xs := []) (fun i H' => H' = upd G4 D4 (.lst [])) rfl (fun i H' _ h => h ▸ (Kx.new (ks := []) hD4).sqL (.inl (.inl g4))) (fun i x H' hx _ => nomatch hx) ?_⟩
  rintro H' rfl
  refine ⟨D4, [], rfl, .inl (.inl upd_same), fun r4 o4 nr4 ho4 => ?_⟩
  have y4 : Kx [] G4 (upd (upd G4 D4 (.lst [])) r4 (.frz o4 (.tup []))) := (Kx.new (ks := []) hD4).trans (.new nr4)
  have z4 := x4.trans y4
  have ft4 : FT (upd (upd G4 D4 (.lst [])) r4 (.frz o4 (.tup []))) r4 [] := ⟨o4, upd_same, ho4⟩
  have tdd4 := y4.same _ _ td4
  have fkk4 := fk4.trans y4
  generalize upd (upd G4 D4 (.lst [])) r4 (.frz o4 (.tup [])) = F4 at z4 ft4 tdd4 fkk4 ⊢
  refine ⟨_, rfl, t, _, rfl, dput (k := Sum.inr "fits") tdd4 (kv_len _ _ _), ?_⟩
  rw [put_fits]
  have k4 := z4.old (o := .dK (kvOf s.stand s.at_ { k with bd := r, rd := r3, fd := r4 })) nt0
  have td4' : upd F4 t (.dK (kvOf s.stand s.at_ { k with bd := r, rd := r3, fd := r4 })) t = some (.dK (kvOf s.stand s.at_ { k with bd := r, rd := r3, fd := r4 })) := upd_same
  have px4 : Kx [t] F4 (upd F4 t (.dK (kvOf s.stand s.at_ { k with bd := r, rd := r3, fd := r4 }))) := .put tdd4 (by simp)
  have ftt4 := px4.ft ft4
  have kc4 := (fkk4.sub (ls := [t]) (fun _ z => nomatch z)).trans px4
  generalize upd F4 t (.dK (kvOf s.stand s.at_ { k with bd := r, rd := r3, fd := r4 })) = H4 at k4 td4' ftt4 kc4 ⊢
  have hbt := (kc3.trans kc4).box bxx2
  have hrt := kc4.ft ftt3
  refine ⟨aP, rfl, ⟨_, hP _⟩, fun D5 hD5 => lc_tup (K := K) (a := aP) (xs := partsV) (fun i H' => Kx [] H4 H' ∧ H' D5 = some (.lst ((valsOf s.stand s.at_ { k with bd := r, rd := r3, fd := r4 }).take i))) ⟨.new hD5, upd_same⟩ (fun i H' _ _ => hP _) ?_ ?_⟩
  · rintro i x H' hx ⟨k5, hDl5⟩
    obtain ⟨nm, v, rfl, hv, hvi⟩ := part_at s.stand s.at_ { k with bd := r, rd := r3, fd := r4 } i x hx
    refine ⟨rfl, _, rfl, _, rfl, t, _, rfl, dget (k := Sum.inr nm) (k5.same _ _ td4') hv, _, hDl5, ?_, k5.grow hD5, ?_⟩
    · rw [List.length_take]
      have e : (valsOf s.stand s.at_ { k with bd := r, rd := r3, fd := r4 }).length = 12 := rfl
      rw [e]
      exact small1000 (by omega)
    · rw [upd_same]
      obtain ⟨hi, e⟩ := List.getElem?_eq_some_iff.mp hvi
      rw [List.take_succ_eq_append_getElem hi, e]
  · rintro H5 ⟨k5, hDl5⟩
    refine ⟨D5, _, rfl, .inl (.inl hDl5), fun r6 o6 nr6 ho6 => ?_⟩
    have k6 : Kx [] H5 (upd H5 r6 (.frz o6 (.tup (List.take partsV.length (valsOf s.stand s.at_ { k with bd := r, rd := r3, fd := r4 }))))) := .new nr6
    have k46 := k5.trans k6
    have kk := k4.trans k46
    refine q _ _ kk ⟨⟨r6, r, r3, r4, k.pile, k.place, k.fault, k.said, rfl, .inl (.inr ⟨_, upd_same⟩), k46.box hbt, k46.ft hrt, (k46.ft ftt4).sq, kk.dp _ S.pile, kk.dp _ S.place, kk.dp _ S.fault, kk.dp _ S.said⟩, ⟨sortB_nd S.small.nd, ?_, S.small.p, S.small.s⟩⟩
    show (sortB s.boxes).length ≤ 60
    rw [sortB_len]
    exact S.small.b
end
end K31
/-! the first state, the step, the walk -/
namespace K31
open PySem PySem.Spec PyProof.Rows L2
section
variable {P : Program} {w : World} {K : PySem.W.Frag} {mg : Str → Option Value} {base : Heap}
theorem gf_mkD {x nm : Str} {st : Stmt} {N ps : List Str} {k : Nat} {sp : Sp} {kws : List (Str × V)} (D : AtD K mg x nm st kws) (S : FnScope N ps (defScope st)) (len : ∀ vs H Q E, sp vs H Q E → vs.length = ps.length) (n : Nat) (hk : kws ≠ []) (hn : n + kws.length = ps.length)
    (hb : ∀ (D : Addr) (doc pm : Value) (an : Option Addr) (cdv ct : Value) (us ks : List Value), us.length = n → ks.length = kws.length →
      KwChain D ((kws.map (·.1)).zip ks) (bindArgs (PySem.W.fnOf nm nm (defArgs st) (defBody st) (defScope st) .none (.ref D) doc pm an cdv ct) ⟨us, []⟩) (ps.zip (us ++ ks)))
    (walk : ∀ (f : Addr) (cdv : Value) (A : Around) (outer : List Env) (s : Shared) (H : Hp) (vs : List V) (Q : VK) (E : XK), Room k (A.deeper (envOfC nm (defScope st) s.heap.objs.size f cdv)) → sp vs H Q E →
      ∃ t, PSs (cxOf CX0 P w K mg base N nm (defScope st) f cdv A outer s H E).nox (defBody st) t ∧ t { nx := fun _ H' => Q .non H', rt := Q } (start N vs) H) : Gf P w K mg base (k + 1) x (fun vs H Q E => sp (vs ++ kws.map (·.2)) H Q E) := by
  obtain ⟨f, fd, F, hm⟩ := D
  obtain ⟨ds, hv, B⟩ := F.binds0 n hk hn hb
  have O : FnOk P w K mg base CX0 (k + 1) f fd ps sp := F.ok S len fun cdv A outer s H vs Q E hr h => by
    obtain ⟨t, h1, h2⟩ := walk f cdv A outer s H vs Q E hr h
    exact ⟨t, h1.nox, h2⟩
  exact ⟨f, hm, F.kp, O.raw B hv⟩
def standOf (n : Int) : Str := if n = 0 then "ended" else "going"
def spFirst (K : PySem.W.Frag) : Sp := fun vs H Q _ => ∃ (v : V) (p : Pr), vs = [v, .non] ∧ IsPr K H v p ∧ ∀ H' r, Kx [] H H' → IsS K H' r (firstM p) → Q r H'
theorem num_eqv (p : Pr) : PyData.eqv (.list (p.map fun l => .int l.1)) (.list []) = decide (p = []) := by
  cases p with
  | nil => simp [PyData.eqv, PyData.eqvAll]
  | cons l r => simp [PyData.eqv, PyData.eqvAll]
theorem nums_dp {H : Hp} : ∀ p : Pr, DpAll K H (numsV p) (p.map fun l => .int l.1)
  | [] => .nil
  | l :: r => .cons (.int _) (nums_dp r)
theorem nums_shaped (p : Pr) : SeqAt.shaped (.list (p.map fun l => .int l.1)) = true := by
  have e : (p.map fun l => PyData.int l.1) = (p.map (·.1)).map .int := by rw [List.map_map]; rfl
  rw [e]
  exact ints_shaped _
theorem small_first (p : Pr) : Small (firstM p) := by
  cases p with
  | nil => exact ⟨by show ([] : List Str).Nodup; exact List.nodup_nil, by show 0 ≤ 60; decide, by show 0 ≤ 50; decide, by show 0 ≤ 5000; decide⟩
  | cons l r => exact ⟨by show ([] : List Str).Nodup; exact List.nodup_nil, by show 0 ≤ 60; decide, by show 0 ≤ 50; decide, by show 0 ≤ 5000; decide⟩
theorem sc_first_state : FnScope ["program", "first", "numbers", "at"] ["program", "first"] (defScope s_first_state) :=
  ⟨rfl, rfl, rfl, by decide +kernel, rfl, by decide +kernel, by decide +kernel⟩
theorem gf_first_state (T : Txt w K mg) : Gf P w K mg base 2 "first_state" (fun vs H Q E => spFirst K (vs ++ [.non]) H Q E) := by
  have nd := sc_first_state.nd
  have G_numbers_of := (gf_numbers_of (P := P) (base := base) T)
  refine gf_mkD T.first_state sc_first_state (fun vs H Q E h => ?_) 1 (fun z => nomatch z) rfl (fun _ _ _ _ _ _ us ks h1 h2 => ?_) (fun f cdv A outer s H vs Q E hr h => ?_)
  · obtain ⟨v, p, rfl, _⟩ := h
    rfl
  · match us, h1, ks, h2 with
    | [u], _, [a], _ => exact ⟨_, _, _, _, _, _, rfl, rfl, rfl⟩
  obtain ⟨v, p, rfl, hp, q⟩ := h
  have hu := hu_of hr
  refine ⟨_, (pss_cons (sT 2 nd (pe_callG G_numbers_of (hr.mono (by decide)) (pa_cons (pv 0) pa_nil)))
    (pss_cons (sT 3 nd (pv 1))
    (pss_cons (ps_if (pt_cmpR op_isN (pv 1) pe_non (nomark _))
      (pss_one (sT 3 nd (pe_ifExp (pt_cmpR (op_neD hr.units) (pv 2) (pe_lst pa_nil) (nomark _)) (pe_ix (r := rIxL K) ix_list (pv 2) pe_int (fun _ _ => rfl)) pe_int)))
      (pss_one ps_never))
    (pss_one (ps_ret (pe_tup (pa_cons (pe_ifExp (pt_cmpR op_eq (pv 3) pe_int (nomark _)) pe_str pe_str) (pa_cons (pv 3) (pa_cons (pe_tupF pa_nil) (pa_cons (pe_tupF pa_nil) (pa_cons (pe_tupF pa_nil) (pa_cons (pe_tupF pa_nil) (pa_cons (pe_tup (pa_cons pe_int (pa_cons pe_int pa_nil))) (pa_cons pe_int (pa_cons pe_bl (pa_cons pe_non (pa_cons pe_int (pa_cons (pe_tupF pa_nil) pa_nil)))))))))))))))))), ?_⟩
  simp only [cxK, cxK2, L2.start, List.map, List.length, List.replicate, List.append, HAppend.hAppend, Append.append]
  refine ⟨_, rfl, v, p, rfl, hp, fun H1 D k1 hD => ?_⟩
  simp only [List.set]
  refine ⟨_, rfl, ?_⟩
  simp only [List.set]
  refine ⟨_, rfl, rfl, _, rfl, iteT ?_⟩
  refine ⟨_, rfl, (by show 0 ≤ sizeLine; decide), fun l0 nl0 => ?_⟩
  have k2 : Kx [] H1 (upd H1 l0 (.lst [])) := .new nl0
  have hD2 := k2.same _ _ hD
  refine ⟨.list (p.map fun l => .int l.1), .list [], .lst (.inl (.inl hD2)) (nums_dp p), .lst (.inl (.inl upd_same)) .nil, nums_shaped p, ints_shaped [], _, rfl, ?_⟩
  rw [num_eqv]
  have k02 := k1.trans k2
  generalize upd H1 l0 (.lst []) = H2 at k2 hD2 k02 ⊢
  -- what the first line's number is
  have fin : ∀ at_ : Int, (firstM p).at_ = at_ → (firstM p).stand = standOf at_ → ∀ (st : Str), st = standOf at_ → ∀ H3 a3 o3 a4 o4 a5 o5 a6 o6 t7 a8 o8 t9, Kx [] H2 H3 → H3 a3 = some (.frz o3 (.tup [])) → o3.dict = none → H3 a4 = some (.frz o4 (.tup [])) → o4.dict = none → H3 a5 = some (.frz o5 (.tup [])) → o5.dict = none →
      H3 a6 = some (.frz o6 (.tup [])) → H3 t7 = some (.tup [.int 0, .int 0]) → H3 a8 = some (.frz o8 (.tup [])) → H3 t9 = none → Q (.ref t9) (upd H3 t9 (.tup [.str st, .int at_, .ref a3, .ref a4, .ref a5, .ref a6, .ref t7, .int 0, .bl false, .non, .int 0, .ref a8])) := by
    intro at_ e1 e2 st e3 H3 a3 o3 a4 o4 a5 o5 a6 o6 t7 a8 o8 t9 k3 h3 d3 h4 d4 h5 d5 h6 h7 h8 n9
    have k4 : Kx [] H3 (upd H3 t9 (.tup [.str st, .int at_, .ref a3, .ref a4, .ref a5, .ref a6, .ref t7, .int 0, .bl false, .non, .int 0, .ref a8])) := .new n9
    have efi : firstM p = ⟨standOf at_, at_, [], [], none, []⟩ := by
      rw [← e2, ← e1]
      cases p <;> rfl
    have hsf := small_first p
    refine q _ _ ((k02.trans k3).trans k4) ?_
    rw [efi] at hsf ⊢
    refine ⟨⟨t9, a3, a4, a5, .ref a6, .ref t7, .non, .ref a8, rfl, ?_, ⟨[], ⟨o3, k4.same _ _ h3, d3⟩, .nil⟩, ⟨o4, k4.same _ _ h4, d4⟩, .inl (.inr ⟨o5, k4.same _ _ h5⟩), .tup (.inl (.inr ⟨o6, k4.same _ _ h6⟩)) .nil, .tup (.inl (.inl (k4.same _ _ h7))) (.cons (.int _) (.cons (.int _) .nil)), .non, .tup (.inl (.inr ⟨o8, k4.same _ _ h8⟩)) .nil⟩, hsf⟩
    subst e3
    exact .inl (.inl upd_same)
  have tail : ∀ (at_ : Int) (st : Str), (firstM p).at_ = at_ → (firstM p).stand = standOf at_ → st = standOf at_ → ∀ a3, H2 a3 = none → ∀ o3 : Obj, o3.dict = none → True := fun _ _ _ _ _ _ _ _ _ => trivial
  clear tail
  have use : ∀ at_ : Int, (firstM p).at_ = at_ → (firstM p).stand = standOf at_ → ∀ (st : Str), st = standOf at_ →
      (([] : List V).length ≤ sizeLine ∧ NewF H2 [] fun v3 K3 => ([] : List V).length ≤ sizeLine ∧ NewF K3 [] fun v4 K4 => ([] : List V).length ≤ sizeLine ∧ NewF K4 [] fun v5 K5 => ([] : List V).length ≤ sizeLine ∧ NewF K5 [] fun v6 K6 => 2 ≤ sizeLine ∧ ∀ t7, K6 t7 = none → ([] : List V).length ≤ sizeLine ∧ NewF (upd K6 t7 (.tup [.int 0, .int 0])) [] fun v8 K8 => 12 ≤ sizeLine ∧ ∀ t9, K8 t9 = none →
        Q (.ref t9) (upd K8 t9 (.tup [.str st, .int at_, v3, v4, v5, v6, .ref t7, .int 0, .bl false, .non, .int 0, v8]))) := by
    intro at_ e1 e2 st e3
    refine ⟨by decide, fun a3 o3 n3 d3 => ⟨by decide, fun a4 o4 n4 d4 => ⟨by decide, fun a5 o5 n5 d5 => ⟨by decide, fun a6 o6 n6 d6 => ⟨by decide, fun t7 n7 => ⟨by decide, fun a8 o8 n8 d8 => ⟨by decide, fun t9 n9 => ?_⟩⟩⟩⟩⟩⟩⟩
    have x3 : Kx [] H2 (upd H2 a3 (.frz o3 (.tup []))) := .new n3
    have h3 : upd H2 a3 (.frz o3 (.tup [])) a3 = some (.frz o3 (.tup [])) := upd_same
    generalize upd H2 a3 (.frz o3 (.tup [])) = J3 at *
    have x4 : Kx [] J3 (upd J3 a4 (.frz o4 (.tup []))) := .new n4
    have h4 : upd J3 a4 (.frz o4 (.tup [])) a4 = some (.frz o4 (.tup [])) := upd_same
    generalize upd J3 a4 (.frz o4 (.tup [])) = J4 at *
    have x5 : Kx [] J4 (upd J4 a5 (.frz o5 (.tup []))) := .new n5
    have h5 : upd J4 a5 (.frz o5 (.tup [])) a5 = some (.frz o5 (.tup [])) := upd_same
    generalize upd J4 a5 (.frz o5 (.tup [])) = J5 at *
    have x6 : Kx [] J5 (upd J5 a6 (.frz o6 (.tup []))) := .new n6
    have h6 : upd J5 a6 (.frz o6 (.tup [])) a6 = some (.frz o6 (.tup [])) := upd_same
    generalize upd J5 a6 (.frz o6 (.tup [])) = J6 at *
    have x7 : Kx [] J6 (upd J6 t7 (.tup [.int 0, .int 0])) := .new n7
    have h7 : upd J6 t7 (.tup [.int 0, .int 0]) t7 = some (.tup [.int 0, .int 0]) := upd_same
    generalize upd J6 t7 (.tup [.int 0, .int 0]) = J7 at *
    have x8 : Kx [] J7 (upd J7 a8 (.frz o8 (.tup []))) := .new n8
    have h8 : upd J7 a8 (.frz o8 (.tup [])) a8 = some (.frz o8 (.tup [])) := upd_same
    generalize upd J7 a8 (.frz o8 (.tup [])) = J8 at *
    have y7 := x8
    have y6 := x7.trans y7
    have y5 := x6.trans y6
    have y4 := x5.trans y5
    have y3 := x4.trans y4
    exact fin at_ e1 e2 st e3 J8 a3 o3 a4 o4 a5 o5 a6 o6 t7 a8 o8 t9 (x3.trans y3) (y3.same _ _ h3) d3 (y4.same _ _ h4) d4 (y5.same _ _ h5) d5 (y6.same _ _ h6) (y7.same _ _ h7) h8 n9
  cases p with
  | nil =>
    refine iteF ?_
    simp only [List.set]
    refine ⟨_, rfl, rfl, _, rfl, ?_⟩
    rw [decI, decide_eq_true rfl]
    refine iteT ⟨_, rfl, ?_⟩
    exact use 0 rfl rfl "ended" rfl
  | cons l r =>
    refine iteT ⟨_, rfl, D, _, _, _, rfl, rfl, .inl (.inl hD2), atI_nat (j := 0) rfl, ?_⟩
    simp only [List.set]
    refine ⟨_, rfl, rfl, _, rfl, ?_⟩
    rw [decI]
    by_cases z : l.1 = 0
    · rw [decide_eq_true z]
      refine iteT ⟨_, rfl, ?_⟩
      exact use l.1 rfl rfl "ended" (by unfold standOf; rw [if_pos z])
    · rw [decide_eq_false z]
      refine iteF ⟨_, rfl, ?_⟩
      exact use l.1 rfl rfl "going" (by unfold standOf; rw [if_neg z])
def spStep (K : PySem.W.Frag) : Sp := fun vs H Q _ => ∃ (v sv iv : V) (p : Pr) (s s' : Sx), vs = [v, sv, iv] ∧ IsPr K H v p ∧ IsS K H sv s ∧ ((¬ s.stand = going ∧ s' = s) ∨ (s.stand = going ∧ stepM p s = some s')) ∧ ∀ H' r, Kx [] H H' → IsS K H' r s' → Q r H'
theorem sc_step : FnScope ["program", "state", "inputs", "known", "line", "stand", "at", "worths", "fault", "more"] ["program", "state", "inputs"] (defScope s_step) :=
  ⟨rfl, rfl, rfl, by decide +kernel, rfl, by decide +kernel, by decide +kernel⟩
theorem gf_step (T : Txt w K mg) : Gf P w K mg base 7 "step" (spStep K) := by
  have nd := sc_step.nd
  refine gf_mk T.step sc_step (fun vs H Q E h => ?_) (fun _ _ _ _ _ _ us hl => match us, hl with | [_, _, _], _ => rfl) (fun f cdv A outer s H vs Q E hr h => ?_)
  · obtain ⟨v, sv, iv, p, s, s1, rfl, hp, hS, hm, q⟩ := h
    rfl
  obtain ⟨v, sv, iv, p, s, s1, rfl, hp, hS, hm, q⟩ := h
  have hu := hu_of hr
  have G_known_of := (gf_known_of (P := P) (base := base) T)
  have G_line_of := (gf_line_of (P := P) (base := base) T)
  have G_worths_of := (gf_worths_of (P := P) (base := base) T)
  have G_line_done := (gf_line_done (P := P) (base := base) T)
  have G_as_state := (gf_as_state (P := P) (base := base) T)
  have G_fault_at := (gf_fault_at (P := P) (base := base) T)
  refine ⟨_, (pss_cons (ps_asg (pv 1) (pg_star (i := 2) (by rfl) (pgs_cons (gN 5 nd) (pgs_cons (gN 6 nd) (pgs_star (gN 9 nd))))))
    (pss_cons (ps_if (pt_cmpR op_ne (pv 5) pe_str (nomark _))
      (pss_one (ps_ret (pv 1)))
      pss_nil)
    (pss_cons (sT 3 nd (pe_callG G_known_of (hr.mono (by decide)) (pa_cons (pv 1) pa_nil)))
    (pss_cons (sT 4 nd (pe_callG G_line_of (hr.mono (by decide)) (pa_cons (pv 0) (pa_cons (pv 6) pa_nil))))
    (pss_cons (ps_asg (pe_callG G_worths_of (hr.mono (by decide)) (pa_cons (pv 3) (pa_cons (pe_ix (r := rIxT K) ix_tup (pv 4) pe_int (fun _ _ => rfl)) pa_nil))) (pg_tup (n := 2) (by rfl) (pgs_cons (gN 7 nd) (pgs_cons (gN 8 nd) pgs_nil))))
    (pss_cons (ps_if (pt_cmpR op_isN (pv 8) pe_non (nomark _))
      (pss_one (sT 8 nd (pe_callG G_line_done (hr.mono (by decide)) (pa_cons (pv 0) (pa_cons (pv 3) (pa_cons (pv 4) (pa_cons (pv 7) (pa_cons (pv 2) pa_nil))))))))
      pss_nil)
    (pss_one (ps_ret (pe_ifExp (pt_cmpR op_isN (pv 8) pe_non (nomark _)) (pe_callG G_as_state (hr.mono (by decide)) (pa_cons (pv 3) pa_nil)) (pe_callG G_fault_at (hr.mono (by decide)) (pa_cons (pv 0) (pa_cons (pv 1) (pa_cons (pv 8) (pa_cons (pv 6) pa_nil)))))))))))))), ?_⟩
  simp only [cxK, cxK2, L2.start, List.map, List.length, List.replicate, List.append, HAppend.hAppend, Append.append]
  obtain ⟨⟨a, ba, ra, fa, pv, plv, fv, sdv, rfl, t1, _⟩, _⟩ := id hS
  refine ⟨_, rfl, a, _, rfl, t1, (by show 2 ≤ 12; decide), fun rp nrp => ?_⟩
  have k1 : Kx [] H (upd H rp (.lst (List.drop 2 [.str s.stand, .int s.at_, .ref ba, .ref ra, .ref fa, pv, plv, .int 0, .bl false, fv, .int 0, sdv]))) := .new nrp
  generalize upd H rp (.lst (List.drop 2 [.str s.stand, .int s.at_, .ref ba, .ref ra, .ref fa, pv, plv, .int 0, .bl false, fv, .int 0, sdv])) = H1 at k1 ⊢
  refine ⟨_, _, rfl, _, _, rfl, _, _, rfl, rfl, ?_⟩
  simp only [List.set]
  refine ⟨_, rfl, rfl, _, rfl, ?_⟩
  rcases hm with ⟨hng, rfl⟩ | ⟨hg, hm⟩
  · rw [decS (show ¬ s1.stand = "going" from hng)]
    refine iteT ⟨_, rfl, q _ _ k1 (k1.isS hS)⟩
  · rw [hg]
    rw [show decide (V.str going = V.str "going") = true from decide_eq_true rfl]
    refine iteF ?_
    refine ⟨_, rfl, .ref a, s, rfl, k1.isS hS, fun H2 d k k2 hd hb S2 => ?_⟩
    simp only [List.set]
    have k12 := k1.trans k2
    unfold stepM at hm
    cases hl : lineOf p s.at_ with
    | none => rw [hl] at hm; cases hm
    | some l =>
      rw [hl] at hm
      have hmem : l ∈ p := List.mem_of_find?_eq_some hl
      refine ⟨_, rfl, _, rfl, v, p, s.at_, l, rfl, k12.pr hp, hl, fun H3 lv k3 hlv => ?_⟩
      simp only [List.set]
      have k13 := k12.trans k3
      have S3 := S2.keep0 k3
      obtain ⟨la, su, e0, hs, hu2⟩ := dp_line hlv
      subst e0
      cases hw : exsM s.boxes (exsOf l.2) with
      | none => simp only [hw] at hm; cases hm
      | some ws =>
        simp only [hw] at hm
        refine ⟨_, rfl, _, rfl, la, _, _, _, rfl, rfl, hs, atI_nat (j := 1) rfl, d, k, s, su, l.2, ws, rfl, S3, hu2, hp.exs l hmem, hw, fun H4 t u k4 ht hrow => ?_⟩
        refine ⟨t, _, rfl, ht, rfl, _, _, rfl, _, _, rfl, rfl, ?_⟩
        simp only [List.set]
        have k14 := k13.trans k4
        have S4 := S3.keep0 k4
        refine ⟨_, rfl, rfl, _, rfl, iteT ?_⟩
        cases hln : lineM p s l.1 l.2 ws with
        | none => simp only [hln] at hm; cases hm
        | some sr =>
          obtain ⟨s2, r⟩ := sr
          simp only [hln] at hm
          refine ⟨_, rfl, _, rfl, _, rfl, _, rfl, _, rfl, v, p, d, k, s, _, u, iv, l.1, l.2, ws, s2, r, rfl, k14.pr hp, S4, k4.dp _ hlv, hp.nm l hmem, hrow, hln, fun H5 k' k5 ek S5 => ?_⟩
          simp only [List.set]
          have k15 : Kx [] H H5 := k14.drop k5 (k1.live _ hd) (k1.live _ hb)
          cases r with
          | none =>
            cases hm
            refine ⟨_, rfl, rfl, _, rfl, iteT ?_⟩
            exact ⟨_, rfl, d, k', s2, rfl, S5, fun H6 r6 k6 h6 => q _ _ (k15.trans k6) h6⟩
          | some x =>
            refine ⟨_, rfl, rfl, _, rfl, iteF ?_⟩
            have h0 : hasLine p 0 = false := by
              cases z : hasLine p 0 with
              | false => rfl
              | true => simp only [z, if_true] at hm; cases hm
            simp only [h0] at hm
            cases hm
            exact ⟨_, rfl, _, rfl, _, rfl, _, rfl, v, .ref a, p, s, x, s.at_, rfl, k15.pr hp, k15.isS hS, h0, fun H6 r6 k6 h6 => q _ _ (k15.trans k6) h6⟩
def spWalk (K : PySem.W.Frag) : Sp := fun vs H Q _ => ∃ (v iv : V) (p : Pr) (s' : Sx), vs = [v, iv, .non, .int 1000] ∧ IsPr K H v p ∧ walkM p 1000 (firstM p) = some s' ∧ ∀ H' t r n, Kx [] H H' → SqT K H' t [r, .int n] → IsS K H' r s' → Q (.ref t) H'
theorem sc_walk : FnScope ["program", "inputs", "state", "most", "now", "steps"] ["program", "inputs", "state", "most"] (defScope s_walk) :=
  ⟨rfl, rfl, rfl, by decide +kernel, rfl, by decide +kernel, by decide +kernel⟩
theorem gf_walk (T : Txt w K mg) : Gf P w K mg base 8 "walk" (fun vs H Q E => spWalk K (vs ++ [.non, .int 1000]) H Q E) := by
  have nd := sc_walk.nd
  have G_first_state := (gf_first_state (P := P) (base := base) T)
  have G_step := (gf_step (P := P) (base := base) T)
  refine gf_mkD T.walk sc_walk (fun vs H Q E h => ?_) 2 (fun z => nomatch z) rfl (fun _ _ _ _ _ _ us ks h1 h2 => ?_) (fun f cdv A outer s H vs Q E hr h => ?_)
  · obtain ⟨v, iv, p, s', rfl, _⟩ := h
    rfl
  · match us, h1, ks, h2 with
    | [u1, u2], _, [a, b], _ => exact ⟨_, _, _, _, _, _, rfl, rfl, _, _, _, _, _, _, rfl, rfl, rfl⟩
  obtain ⟨v, iv, p, s', rfl, hp, hm, q⟩ := h
  have hu := hu_of hr
  refine ⟨_, (pss_cons (sT 4 nd (pe_ifExp (pt_cmpR op_isN (pv 2) pe_non (nomark _)) (pe_callG G_first_state (hr.mono (by decide)) (pa_cons (pv 0) pa_nil)) (pv 2)))
    (pss_cons (sT 5 nd pe_int)
    (pss_cons (ps_while PassesOwn.never (PW.pt (pw_and (pt_cmpR op_eq (pe_ix (r := rIxT K) ix_tup (pv 4) pe_int (fun _ _ => rfl)) pe_str (nomark _)) (pw_and1 (pt_cmpR op_lt (pv 5) (pv 3) (nomark _)))))
      (pss_cons (sT 4 nd (pe_callG G_step (hr.mono (by decide)) (pa_cons (pv 0) (pa_cons (pv 4) (pa_cons (pv 1) pa_nil)))))
      (pss_one (ps_aug (i := 5) nd rfl (by first | exact Or.inl rfl | exact Or.inr rfl) pe_int ip_add))))
    (pss_one (ps_ret (pe_tup (pa_cons (pv 4) (pa_cons (pv 5) pa_nil)))))))), ?_⟩
  simp only [cxK, cxK2, L2.start, List.map, List.length, List.replicate, List.append, HAppend.hAppend, Append.append]
  refine ⟨_, rfl, rfl, _, rfl, iteT ?_⟩
  refine ⟨_, rfl, v, p, rfl, hp, fun H1 r1 k1 h1 => ?_⟩
  simp only [List.set]
  refine ⟨fun m σ H' => Kx [] H H' ∧ ∃ (r : V) (n : Nat) (s1 : Sx), σ = [some v, some iv, some .non, some (.int 1000), some r, some (.int n)] ∧ IsS K H' r s1 ∧ n ≤ 1000 ∧ m = 1000 - n ∧ walkM p (1000 - n) s1 = some s', ⟨1000, k1, r1, 0, firstM p, rfl, h1, by decide, rfl, hm⟩, ?_⟩
  rintro m σ H' ⟨k2, r, n, s1, rfl, hS, hn, rfl, hw⟩
  obtain ⟨⟨a, ba, ra, fa, pv, plv, fv, sdv, rfl, t1, _⟩, _⟩ := id hS
  refine ⟨_, rfl, a, _, _, _, rfl, rfl, t1, atI_nat (j := 0) rfl, rfl, _, rfl, ?_⟩
  have last : ∀ H2, Kx [] H' H2 → s1 = s' → ∀ t, H2 t = none → 2 ≤ sizeLine ∧ Q (.ref t) (upd H2 t (.tup [.ref a, .int n])) := by
    intro H2 k3 e t nt
    refine ⟨by decide, ?_⟩
    subst e
    exact q _ t (.ref a) n ((k2.trans k3).trans (.new nt)) (.inl (.inl upd_same)) ((k3.trans (.new nt)).isS hS)
  by_cases hg : s1.stand = going
  · rw [show decide (V.str s1.stand = V.str "going") = true from decide_eq_true (by rw [hg]; rfl)]
    refine iteT ⟨_, rfl, _, rfl, _, _, rfl, rfl, _, rfl, ?_⟩
    by_cases hlt : n < 1000
    · rw [decide_eq_true (show (n : Int) < 1000 by omega)]
      refine iteT ?_
      obtain ⟨j, hj⟩ : ∃ j, 1000 - n = j + 1 := ⟨1000 - n - 1, by omega⟩
      rw [hj] at hw
      unfold walkM at hw
      rw [if_pos hg] at hw
      cases hst : stepM p s1 with
      | none => simp only [hst] at hw; cases hw
      | some s2 =>
        simp only [hst] at hw
        refine ⟨_, fun σ' H'' h => ⟨j, by omega, h⟩, ?_⟩
        refine ⟨_, rfl, _, rfl, _, rfl, v, .ref a, iv, p, s1, s2, rfl, k2.pr hp, hS, .inr ⟨hg, hst⟩, fun H3 r3 k3 h3 => ?_⟩
        refine ⟨_, rfl, _, _, rfl, rfl, k2.trans k3, r3, n + 1, s2, ?_, h3, by omega, by omega, ?_⟩
        · simp only [List.set]
          push_cast
          rfl
        · rw [show 1000 - (n + 1) = j by omega]
          exact hw
    · rw [decide_eq_false (show ¬ (n : Int) < 1000 by omega)]
      refine iteF ?_
      have en : n = 1000 := by omega
      subst en
      have es : s1 = s' := by
        rw [Nat.sub_self] at hw
        unfold walkM at hw
        rw [if_pos hg] at hw
        exact Option.some.inj hw
      exact ⟨_, rfl, _, rfl, (by show 2 ≤ sizeLine; decide), fun t nt => (last H' (.refl _ _) es t nt).2⟩
  · rw [decS (show ¬ s1.stand = "going" from hg)]
    refine iteF ?_
    have es : s1 = s' := by
      unfold walkM at hw
      rw [if_neg hg] at hw
      exact Option.some.inj hw
    exact ⟨_, rfl, _, rfl, (by show 2 ≤ sizeLine; decide), fun t nt => (last H' (.refl _ _) es t nt).2⟩
end
end K31
/-! the law's draws -/
namespace K31
open PySem PySem.Spec PyProof.Rows L2
section
variable {P : Program} {w : World} {K : PySem.W.Frag} {mg : Str → Option Value} {base : Heap}
def penKv (ca : Addr) (a l : Int) : List (Key × V) := [(Sum.inr "cells", .ref ca), (Sum.inr "at", .int a), (Sum.inr "left", .int l)]
section
variable (ca : Addr) (a l n : Int)
theorem pv_cells : valV (penKv ca a l) (Sum.inr "cells") = some (.ref ca) := by kernel_rfl
theorem pv_at : valV (penKv ca a l) (Sum.inr "at") = some (.int a) := by kernel_rfl
theorem pv_left : valV (penKv ca a l) (Sum.inr "left") = some (.int l) := by kernel_rfl
theorem pp_at : putK (penKv ca a l) (Sum.inr "at") (.int n) = penKv ca n l := by kernel_rfl
theorem pp_left : putK (penKv ca a l) (Sum.inr "left") (.int n) = penKv ca a n := by kernel_rfl
theorem pp_merge : mergeK [] (penKv ca a l) = penKv ca a l := by kernel_rfl
theorem pk_len : (penKv ca a l).length ≤ 1000 := by show 3 ≤ 1000; decide
end
structure PenS (K : PySem.W.Frag) (H : Hp) (d : Addr) (N : Int) : Prop where
  ex : ∃ (ca : Addr) (cs : List Int) (a l : Int), H d = some (.dK (penKv ca a l)) ∧ SqL K H ca (cs.map V.int) ∧ cs.length ≤ 63 ∧ 0 ≤ a ∧ a ≤ N
theorem PenS.mono {H : Hp} {d : Addr} {N M : Int} (h : PenS K H d N) (k : N ≤ M) : PenS K H d M := by
  obtain ⟨ca, cs, a, l, h1, h2, h3, h4, h5⟩ := h.ex
  exact ⟨ca, cs, a, l, h1, h2, h3, h4, by omega⟩
theorem PenS.keep {H H' : Hp} {d : Addr} {N : Int} (h : PenS K H d N) (k : Kx [] H H') : PenS K H' d N := by
  obtain ⟨ca, cs, a, l, h1, h2, h3, h4, h5⟩ := h.ex
  exact ⟨ca, cs, a, l, k.same _ _ h1, k.sqL h2, h3, h4, h5⟩
def spPen (K : PySem.W.Frag) : Sp := fun vs H Q _ => ∃ (a : Addr) (ns : List Int), vs = [.ref a] ∧ SqL K H a (ns.map V.int) ∧ ∀ H' d, Kx [] H H' → PenS K H' d 0 → Q (.ref d) H'
theorem sc_law_pen : FnScope ["_law_script"] ["_law_script"] (defScope s_law_pen) :=
  ⟨rfl, rfl, rfl, by decide +kernel, rfl, by decide +kernel, by decide +kernel⟩
theorem gf_law_pen (T : Txt w K mg) : Gf P w K mg base 1 "_law_pen" (spPen K) := by
  have nd := sc_law_pen.nd
  refine gf_mk T.law_pen sc_law_pen (fun vs H Q E h => ?_) (fun _ _ _ _ _ _ us hl => match us, hl with | [_], _ => rfl) (fun f cdv A outer s H vs Q E hr h => ?_)
  · obtain ⟨a, ns, rfl, ha, q⟩ := h
    rfl
  obtain ⟨a, ns, rfl, ha, q⟩ := h
  have hu := hu_of hr
  refine ⟨_, (pss_one (ps_ret (pe_disp (pps_cons pe_str (pe_callTy call_list_of (by rfl) T.list (by decide +kernel) (pa_cons (pe_slice sl_list (pv 0) po_none (po_some pe_int)) pa_nil)) (pps_cons pe_str pe_int (pps_cons pe_str pe_int pps_nil))) (by rfl) (by rfl) (fun z => by cases z) (by decide)))), ?_⟩
  simp only [cxK, cxK2, L2.start, List.map, List.length, List.replicate, List.append, HAppend.hAppend, Append.append]
  intro d nd
  have k0 : Kx [] H (upd H d (.dK [])) := .new nd
  have hcut : cutV (ns.map V.int) none (some 63) = (ns.take 63).map V.int := by
    have e : cutV (ns.map V.int) none (some ((63 : Nat) : Int)) = (ns.map V.int).take 63 := by
      unfold cutV
      rw [HT.sIx_none, HT.sIx_nat, List.drop_zero, Nat.sub_zero, ← List.take_eq_take_min]
    rw [List.map_take]
    exact e
  refine ⟨_, rfl, _, rfl, a, _, rfl, k0.sqL ha, fun p np => ?_⟩
  rw [hcut]
  have k1 : Kx [] (upd H d (.dK [])) (upd (upd H d (.dK [])) p (.lst ((ns.take 63).map V.int))) := .new np
  have d1 := k1.same d (.dK []) upd_same
  have p1 : upd (upd H d (.dK [])) p (.lst ((ns.take 63).map V.int)) p = some (.lst ((ns.take 63).map V.int)) := upd_same
  have k01 := k0.trans k1
  generalize upd (upd H d (.dK [])) p (.lst ((ns.take 63).map V.int)) = H1 at k01 d1 p1 ⊢
  refine ⟨p, _, rfl, .inl (.inl (.inl p1)), fun l nl => ?_⟩
  have k2 : Kx [] H1 (upd H1 l (.lst ((ns.take 63).map V.int))) := .new nl
  have d2 := k2.same _ _ d1
  have l2 : upd H1 l (.lst ((ns.take 63).map V.int)) l = some (.lst ((ns.take 63).map V.int)) := upd_same
  have k02 := k01.trans k2
  generalize upd H1 l (.lst ((ns.take 63).map V.int)) = H2 at k02 d2 l2 ⊢
  refine ⟨d2, penKv l 0 0, rfl, (by show 3 ≤ 15; decide), ?_⟩
  rw [pp_merge]
  refine q _ d (k02.old nd) ⟨l, ns.take 63, 0, 0, upd_same, ?_, by rw [List.length_take]; omega, Int.le_refl 0, Int.le_refl 0⟩
  exact .inl (.inl ((upd_ne (fun e => by rw [e, d2] at l2; cases l2)).trans l2))
theorem fmod_rng (a : Int) {m : Int} (h : 0 < m) : 0 ≤ a.fmod m ∧ a.fmod m < m := ⟨Int.fmod_nonneg_of_pos a h, Int.fmod_lt_of_pos a h⟩
def spDraw (K : PySem.W.Frag) : Sp := fun vs H Q _ => ∃ (d : Addr) (m N : Int), vs = [.ref d, .int m] ∧ 0 < m ∧ m < 1000 ∧ N ≤ 1000 ∧ PenS K H d N ∧ ∀ H' r, Kx [d] H H' → PenS K H' d (N + 1) → 0 ≤ r → r < m → Q (.int r) H'
theorem pen_lay {H : Hp} {d ca : Addr} {cs : List Int} {a l a' l' N : Int} (hd : H d = some (.dK (penKv ca a l))) (hc : SqL K H ca (cs.map V.int)) (h3 : cs.length ≤ 63) (h4 : 0 ≤ a') (h5 : a' ≤ N) : PenS K (upd H d (.dK (penKv ca a' l'))) d N :=
  ⟨ca, cs, a', l', upd_same, (Kx.put (ks := [d]) hd (by simp)).sqL hc, h3, h4, h5⟩
theorem sc_law_draw : FnScope ["_law_pen_here", "_law_many", "_law_at", "_law_cell", "_law_one", "_law_last", "_law_found", "_law_whole"] ["_law_pen_here", "_law_many"] (defScope s_law_draw) :=
  ⟨rfl, rfl, rfl, by decide +kernel, rfl, by decide +kernel, by decide +kernel⟩
theorem gf_law_draw (T : Txt w K mg) : Gf P w K mg base 1 "_law_draw" (spDraw K) := by
  have nd := sc_law_draw.nd
  refine gf_mk T.law_draw sc_law_draw (fun vs H Q E h => ?_) (fun _ _ _ _ _ _ us hl => match us, hl with | [_, _], _ => rfl) (fun f cdv A outer s H vs Q E hr h => ?_)
  · obtain ⟨d, m, N, rfl, hm0, hm1, hN, hp, q⟩ := h
    rfl
  obtain ⟨d, m, N, rfl, hm0, hm1, hN, hp, q⟩ := h
  have hu := hu_of hr
  refine ⟨_, (pss_cons (ps_if (pt_cmpR op_gt (pe_dget hu (pv 0) pe_str (fun _ _ => rfl)) pe_int (nomark _))
      (pss_cons (sT 6 nd (pe_op op_modN (pe_dget hu (pv 0) pe_str (fun _ _ => rfl)) (pv 1)))
      (pss_cons (ps_dput hu (pv 0) pe_str (pe_op op_fdivN (pe_dget hu (pv 0) pe_str (fun _ _ => rfl)) (pv 1)) rfl)
      (pss_one (ps_ret (pv 6)))))
      pss_nil)
    (pss_cons (sT 2 nd (pe_dget hu (pv 0) pe_str (fun _ _ => rfl)))
    (pss_cons (ps_dput hu (pv 0) pe_str (pe_op op_add (pv 2) pe_int) rfl)
    (pss_cons (sT 3 nd (pe_op op_add (pe_op op_mul pe_int (pv 2)) pe_int))
    (pss_cons (ps_if (pt_cmpR (op_neD hr.units) (pe_dget hu (pv 0) pe_str (fun _ _ => rfl)) (pe_lst pa_nil) (nomark _))
      (pss_one (sT 3 nd (pe_ix (r := rIxL K) ix_list (pe_dget hu (pv 0) pe_str (fun _ _ => rfl)) (pe_op op_modN (pv 2) (pe_callB call_len_seq (by rfl) T.len boot_len (pa_cons (pe_dget hu (pv 0) pe_str (fun _ _ => rfl)) pa_nil))) (fun _ _ => rfl))))
      pss_nil)
    (pss_cons (ps_if (PW.pt (pw_and (pt_cmpR op_lt (pv 2) (pe_callB call_len_seq (by rfl) T.len boot_len (pa_cons (pe_dget hu (pv 0) pe_str (fun _ _ => rfl)) pa_nil)) (nomark _)) (pw_and1 (pt_cmpR op_ge (pe_callB call_abs (by rfl) T.abs (by decide +kernel) (pa_cons (pv 3) pa_nil)) (pe_op op_pow pe_int pe_int) (nomark _)))))
      (pss_cons (sT 7 nd (pe_op op_add (pe_op op_mul pe_int (pe_callB call_abs (by rfl) T.abs (by decide +kernel) (pa_cons (pv 3) pa_nil))) (pe_callTy call_int1 (by rfl) T.int (by decide +kernel) (pa_cons (pe_cmpR op_lt (pv 3) pe_int (nomark _)) pa_nil))))
      (pss_cons (ps_dput hu (pv 0) pe_str (pe_op op_fdivN (pv 7) (pv 1)) rfl)
      (pss_one (ps_ret (pe_op op_modN (pv 7) (pv 1))))))
      pss_nil)
    (pss_cons (sT 4 nd (pe_op op_modN (pe_op op_pow (pe_op op_add (pe_op op_add (pe_op op_modN (pv 3) pe_int) (pe_op op_mul pe_int (pv 2))) pe_int) pe_int) pe_int))
    (pss_cons (sT 5 nd (pe_op op_modN (pe_op op_pow (pe_op op_add (pe_op op_mul (pv 4) (pe_op op_add (pv 2) pe_int)) (pe_op op_mul (pe_op op_mul pe_int (pv 2)) (pv 2))) pe_int) pe_int))
    (pss_one (ps_ret (pe_op op_modN (pe_op op_fdivN (pv 5) pe_int) (pv 1)))))))))))), ?_⟩
  simp only [cxK, cxK2, L2.start, List.map, List.length, List.replicate, List.append, HAppend.hAppend, Append.append]
  obtain ⟨ca, cs, at_, left, hd, hca, hcl, ha0, haN⟩ := hp.ex
  refine ⟨_, rfl, d, _, rfl, dget (k := Sum.inr "left") hd (pv_left _ _ _), _, _, rfl, rfl, _, rfl, ?_⟩
  by_cases hl : left > 0
  · rw [decide_eq_true hl]
    refine iteT ⟨_, rfl, d, _, rfl, dget (k := Sum.inr "left") hd (pv_left _ _ _), _, rfl, _, _, rfl, rfl, by omega, ?_⟩
    simp only [List.set]
    refine ⟨_, rfl, d, _, rfl, dget (k := Sum.inr "left") hd (pv_left _ _ _), _, rfl, _, _, rfl, rfl, ⟨by omega, by omega⟩, _, rfl, d, _, rfl, dput (k := Sum.inr "left") hd (pk_len _ _ _), ?_⟩
    rw [pp_left]
    exact ⟨_, rfl, q _ _ (.put hd (by simp)) (pen_lay hd hca hcl ha0 (by omega)) (fmod_rng _ hm0).1 (fmod_rng _ hm0).2⟩
  · rw [decide_eq_false hl]
    refine iteF ⟨_, rfl, d, _, rfl, dget (k := Sum.inr "at") hd (pv_at _ _ _), ?_⟩
    simp only [List.set]
    refine ⟨_, rfl, _, _, rfl, rfl, _, rfl, d, _, rfl, dput (k := Sum.inr "at") hd (pk_len _ _ _), ?_⟩
    rw [pp_at]
    have k1 : Kx [d] H (upd H d (.dK (penKv ca (at_ + 1) left))) := .put hd (by simp)
    have p1 : PenS K (upd H d (.dK (penKv ca (at_ + 1) left))) d (N + 1) := pen_lay hd hca hcl (by omega) (by omega)
    have d1 : upd H d (.dK (penKv ca (at_ + 1) left)) d = some (.dK (penKv ca (at_ + 1) left)) := upd_same
    have c1 := k1.sqL hca
    generalize upd H d (.dK (penKv ca (at_ + 1) left)) = H1 at k1 p1 d1 c1 ⊢
    refine ⟨_, rfl, _, _, rfl, rfl, .inl ⟨by decide, by decide⟩, _, _, rfl, rfl, ?_⟩
    simp only [List.set]
    refine ⟨_, rfl, d, _, rfl, dget (k := Sum.inr "cells") d1 (pv_cells _ _ _), (by show 0 ≤ sizeLine; decide), fun l0 nl0 => ?_⟩
    have k2 : Kx [] H1 (upd H1 l0 (.lst [])) := .new nl0
    have l00 : upd H1 l0 (.lst []) l0 = some (.lst []) := upd_same
    replace k1 := k1.trans (k2.sub (ls := [d]) (fun _ z => nomatch z))
    replace p1 := p1.keep k2
    replace d1 := k2.same _ _ d1
    replace c1 := k2.sqL c1
    generalize upd H1 l0 (.lst []) = H2 at k1 p1 d1 c1 l00 ⊢
    refine ⟨.list (cs.map .int), .list ([].map .int), .lst c1 (dpa_ints cs), .lst (.inl (.inl l00)) .nil, ints_shaped _, ints_shaped [], _, rfl, ?_⟩
    rw [show PyData.eqv (.list (cs.map .int)) (.list (([] : List Int).map .int)) = decide (cs = []) by cases cs <;> simp [PyData.eqv, PyData.eqvAll]]
    by_cases hcs : cs = []
    · rw [decide_eq_true hcs]
      refine iteF ?_
      generalize (1861 * at_ + 809 : Int) = cell
      refine ⟨_, rfl, _, rfl, d, _, rfl, dget (k := Sum.inr "cells") d1 (pv_cells _ _ _), ca, _, rfl, .inl c1, _, _, rfl, rfl, _, rfl, ?_⟩
      have ebase := fmod_rng cell (m := 2147483543) (by decide)
      have big : ∀ one : Int, 0 ≤ one → one < 2147483647 → (one * (at_ + 65551) + 86011 * at_ * at_).natAbs < 2 ^ 64 := by
        intro one h1 h2
        have e1 : 0 ≤ one * (at_ + 65551) := Int.mul_nonneg h1 (by omega)
        have e2 : one * (at_ + 65551) ≤ 2147483647 * 66551 := Int.mul_le_mul (by omega) (by omega) (by omega) (by omega)
        have e3 : 0 ≤ 86011 * at_ * at_ := Int.mul_nonneg (by omega) ha0
        have e4 : 86011 * at_ * at_ ≤ (86011 * 1000) * 1000 := Int.mul_le_mul (by omega) (by omega) ha0 (by omega)
        omega
      by_cases hlt : at_ < ((cs.map V.int).length : Int)
      · rw [decide_eq_true hlt]
        refine iteT ?_
        refine ⟨_, rfl, _, rfl, _, _, rfl, rfl, ⟨by decide, by decide, by decide⟩, _, _, rfl, rfl, _, rfl, ?_⟩
        refine ite2 (fun _ => ?_) (fun _ => ?_)
        · refine ⟨_, rfl, _, rfl, _, _, rfl, rfl, .inl ⟨by decide, by decide⟩, _, rfl, _, _, rfl, rfl, .inr ⟨_, rfl, _, _, rfl, rfl, ?_⟩⟩
          simp only [List.set]
          refine ⟨_, rfl, _, rfl, _, _, rfl, rfl, ⟨by omega, by omega⟩, _, rfl, d, _, rfl, dput (k := Sum.inr "left") d1 (pk_len _ _ _), ?_⟩
          rw [pp_left]
          have rr := fmod_rng (2 * (if cell < 0 then -cell else cell) + (if decide (cell < 0) = true then 1 else 0)) hm0
          exact ⟨_, rfl, _, rfl, _, _, rfl, rfl, by omega, q _ _ (k1.trans (.put d1 (by simp))) (pen_lay d1 c1 hcl (by omega) (by omega)) rr.1 rr.2⟩
        · refine ⟨_, rfl, _, _, rfl, rfl, (show (2147483543 : Int) ≠ 0 by decide), _, rfl, _, _, rfl, rfl, .inl ⟨by decide, by decide⟩, _, _, rfl, rfl, _, _, rfl, rfl, _, _, rfl, rfl, ⟨by decide, by decide, by omega⟩, _, _, rfl, rfl, (show (2147483647 : Int) ≠ 0 by decide), ?_⟩
          simp only [List.set]
          have r1 := fmod_rng ((cell.fmod 2147483543 + 69001 * at_ + 83) ^ (5 : Int).toNat) (m := 2147483647) (by decide)
          refine ⟨_, rfl, _, rfl, _, _, rfl, rfl, _, _, rfl, rfl, .inl ⟨by omega, by omega⟩, _, rfl, _, _, rfl, rfl, .inl ⟨by decide, by decide⟩, _, rfl, _, _, rfl, rfl, .inl ⟨by omega, by omega⟩, _, _, rfl, rfl, _, _, rfl, rfl, ⟨by decide, by decide, big _ r1.1 r1.2⟩, _, _, rfl, rfl, (show (2147483353 : Int) ≠ 0 by decide), ?_⟩
          simp only [List.set]
          refine ⟨_, rfl, _, _, rfl, rfl, ⟨by decide, by decide⟩, _, rfl, _, _, rfl, rfl, by omega, ?_⟩
          exact q _ _ k1 p1 (fmod_rng _ hm0).1 (fmod_rng _ hm0).2
      · rw [decide_eq_false hlt]
        refine iteF (iteF ?_)
        refine ⟨_, rfl, _, _, rfl, rfl, (show (2147483543 : Int) ≠ 0 by decide), _, rfl, _, _, rfl, rfl, .inl ⟨by decide, by decide⟩, _, _, rfl, rfl, _, _, rfl, rfl, _, _, rfl, rfl, ⟨by decide, by decide, by omega⟩, _, _, rfl, rfl, (show (2147483647 : Int) ≠ 0 by decide), ?_⟩
        simp only [List.set]
        have r1 := fmod_rng ((cell.fmod 2147483543 + 69001 * at_ + 83) ^ (5 : Int).toNat) (m := 2147483647) (by decide)
        refine ⟨_, rfl, _, rfl, _, _, rfl, rfl, _, _, rfl, rfl, .inl ⟨by omega, by omega⟩, _, rfl, _, _, rfl, rfl, .inl ⟨by decide, by decide⟩, _, rfl, _, _, rfl, rfl, .inl ⟨by omega, by omega⟩, _, _, rfl, rfl, _, _, rfl, rfl, ⟨by decide, by decide, big _ r1.1 r1.2⟩, _, _, rfl, rfl, (show (2147483353 : Int) ≠ 0 by decide), ?_⟩
        simp only [List.set]
        refine ⟨_, rfl, _, _, rfl, rfl, ⟨by decide, by decide⟩, _, rfl, _, _, rfl, rfl, by omega, ?_⟩
        exact q _ _ k1 p1 (fmod_rng _ hm0).1 (fmod_rng _ hm0).2
    · rw [decide_eq_false hcs]
      refine iteT ?_
      have hpos : 0 < cs.length := List.length_pos_iff.mpr hcs
      have hml : ((cs.map V.int).length : Int) = (cs.length : Int) := by rw [List.length_map]
      have hjr := fmod_rng at_ (m := ((cs.map V.int).length : Int)) (by omega)
      obtain ⟨j, hj⟩ : ∃ j : Nat, at_.fmod ((cs.map V.int).length : Int) = (j : Int) := ⟨_, (Int.toNat_of_nonneg hjr.1).symm⟩
      have hjl : j < cs.length := by omega
      refine ⟨_, rfl, d, _, rfl, dget (k := Sum.inr "cells") d1 (pv_cells _ _ _), _, rfl, _, rfl, d, _, rfl, dget (k := Sum.inr "cells") d1 (pv_cells _ _ _), ca, _, rfl, .inl c1, _, _, rfl, rfl, by omega, ca, _, _, .int cs[j], rfl, rfl, c1, ?_, ?_⟩
      · rw [hj]
        exact atI_nat (by rw [List.getElem?_map, List.getElem?_eq_getElem hjl]; rfl)
      generalize cs[j] = cell
      simp only [List.set]
      refine ⟨_, rfl, _, rfl, d, _, rfl, dget (k := Sum.inr "cells") d1 (pv_cells _ _ _), ca, _, rfl, .inl c1, _, _, rfl, rfl, _, rfl, ?_⟩
      have ebase := fmod_rng cell (m := 2147483543) (by decide)
      have big : ∀ one : Int, 0 ≤ one → one < 2147483647 → (one * (at_ + 65551) + 86011 * at_ * at_).natAbs < 2 ^ 64 := by
        intro one h1 h2
        have e1 : 0 ≤ one * (at_ + 65551) := Int.mul_nonneg h1 (by omega)
        have e2 : one * (at_ + 65551) ≤ 2147483647 * 66551 := Int.mul_le_mul (by omega) (by omega) (by omega) (by omega)
        have e3 : 0 ≤ 86011 * at_ * at_ := Int.mul_nonneg (by omega) ha0
        have e4 : 86011 * at_ * at_ ≤ (86011 * 1000) * 1000 := Int.mul_le_mul (by omega) (by omega) ha0 (by omega)
        omega
      by_cases hlt : at_ < ((cs.map V.int).length : Int)
      · rw [decide_eq_true hlt]
        refine iteT ?_
        refine ⟨_, rfl, _, rfl, _, _, rfl, rfl, ⟨by decide, by decide, by decide⟩, _, _, rfl, rfl, _, rfl, ?_⟩
        refine ite2 (fun _ => ?_) (fun _ => ?_)
        · refine ⟨_, rfl, _, rfl, _, _, rfl, rfl, .inl ⟨by decide, by decide⟩, _, rfl, _, _, rfl, rfl, .inr ⟨_, rfl, _, _, rfl, rfl, ?_⟩⟩
          simp only [List.set]
          refine ⟨_, rfl, _, rfl, _, _, rfl, rfl, ⟨by omega, by omega⟩, _, rfl, d, _, rfl, dput (k := Sum.inr "left") d1 (pk_len _ _ _), ?_⟩
          rw [pp_left]
          have rr := fmod_rng (2 * (if cell < 0 then -cell else cell) + (if decide (cell < 0) = true then 1 else 0)) hm0
          exact ⟨_, rfl, _, rfl, _, _, rfl, rfl, by omega, q _ _ (k1.trans (.put d1 (by simp))) (pen_lay d1 c1 hcl (by omega) (by omega)) rr.1 rr.2⟩
        · refine ⟨_, rfl, _, _, rfl, rfl, (show (2147483543 : Int) ≠ 0 by decide), _, rfl, _, _, rfl, rfl, .inl ⟨by decide, by decide⟩, _, _, rfl, rfl, _, _, rfl, rfl, _, _, rfl, rfl, ⟨by decide, by decide, by omega⟩, _, _, rfl, rfl, (show (2147483647 : Int) ≠ 0 by decide), ?_⟩
          simp only [List.set]
          have r1 := fmod_rng ((cell.fmod 2147483543 + 69001 * at_ + 83) ^ (5 : Int).toNat) (m := 2147483647) (by decide)
          refine ⟨_, rfl, _, rfl, _, _, rfl, rfl, _, _, rfl, rfl, .inl ⟨by omega, by omega⟩, _, rfl, _, _, rfl, rfl, .inl ⟨by decide, by decide⟩, _, rfl, _, _, rfl, rfl, .inl ⟨by omega, by omega⟩, _, _, rfl, rfl, _, _, rfl, rfl, ⟨by decide, by decide, big _ r1.1 r1.2⟩, _, _, rfl, rfl, (show (2147483353 : Int) ≠ 0 by decide), ?_⟩
          simp only [List.set]
          refine ⟨_, rfl, _, _, rfl, rfl, ⟨by decide, by decide⟩, _, rfl, _, _, rfl, rfl, by omega, ?_⟩
          exact q _ _ k1 p1 (fmod_rng _ hm0).1 (fmod_rng _ hm0).2
      · rw [decide_eq_false hlt]
        refine iteF (iteF ?_)
        refine ⟨_, rfl, _, _, rfl, rfl, (show (2147483543 : Int) ≠ 0 by decide), _, rfl, _, _, rfl, rfl, .inl ⟨by decide, by decide⟩, _, _, rfl, rfl, _, _, rfl, rfl, _, _, rfl, rfl, ⟨by decide, by decide, by omega⟩, _, _, rfl, rfl, (show (2147483647 : Int) ≠ 0 by decide), ?_⟩
        simp only [List.set]
        have r1 := fmod_rng ((cell.fmod 2147483543 + 69001 * at_ + 83) ^ (5 : Int).toNat) (m := 2147483647) (by decide)
        refine ⟨_, rfl, _, rfl, _, _, rfl, rfl, _, _, rfl, rfl, .inl ⟨by omega, by omega⟩, _, rfl, _, _, rfl, rfl, .inl ⟨by decide, by decide⟩, _, rfl, _, _, rfl, rfl, .inl ⟨by omega, by omega⟩, _, _, rfl, rfl, _, _, rfl, rfl, ⟨by decide, by decide, big _ r1.1 r1.2⟩, _, _, rfl, rfl, (show (2147483353 : Int) ≠ 0 by decide), ?_⟩
        simp only [List.set]
        refine ⟨_, rfl, _, _, rfl, rfl, ⟨by decide, by decide⟩, _, rfl, _, _, rfl, rfl, by omega, ?_⟩
        exact q _ _ k1 p1 (fmod_rng _ hm0).1 (fmod_rng _ hm0).2
end
end K31
/-! the mirror of the law's own defs -/
namespace K31
open PySem
def numE (n : Int) : Ex := if n < 0 then .sub (.num 0) (.num (0 - n)) else .lf (.num n)
def loopS (x : Str) (a b c : Int) : Sm := .loop x (numE a) (numE b) (numE c)
def goes (a b c : Int) : Bool := (decide (a ≤ b) && decide (c > 0)) || (decide (a ≥ b) && decide (c < 0))
def roundsF : Nat → Int → Int → Int → Option (List Int × Int)
  | k, a, b, c => if goes a b c = true then match k with
      | 0 => none
      | k + 1 => match roundsF k (a + c) b c with
        | none => none
        | some (l, z) => some (a :: l, z)
    else some ([], a)
def relS (by_ : Int) : Sm → Sm
  | .call n => .call ((n + 1) * by_)
  | .iff e n => .iff e ((n + 1) * by_)
  | st => st
def mkFrom (by_ : Int) : Nat → List Sm → Pr
  | _, [] => []
  | k, st :: r => (((k : Int) + 1) * by_, relS by_ st) :: mkFrom by_ (k + 1) r
def mkP (by_ : Int) (sts : List Sm) : Pr := mkFrom by_ 0 sts
theorem mkFrom_get (by_ : Int) : ∀ (sts : List Sm) (k i : Nat) (st : Sm), sts[i]? = some st → (mkFrom by_ k sts)[i]? = some ((((k + i : Nat) : Int) + 1) * by_, relS by_ st)
  | [], k, i, st, h => by cases h
  | s0 :: r, k, 0, st, h => by
    cases h
    rw [Nat.add_zero]
    unfold mkFrom
    rw [List.getElem?_cons_zero]
  | s0 :: r, k, i + 1, st, h => by
    have e := mkFrom_get by_ r (k + 1) i st h
    rw [show k + 1 + i = k + (i + 1) by omega] at e
    unfold mkFrom
    rw [List.getElem?_cons_succ]
    exact e
theorem mkP_get (by_ : Int) (sts : List Sm) (i : Nat) {st : Sm} (h : sts[i]? = some st) : (mkP by_ sts)[i]? = some (((i : Int) + 1) * by_, relS by_ st) := by
  have e := mkFrom_get by_ sts 0 i st h
  rw [Nat.zero_add] at e
  unfold mkP
  exact e
theorem mkFrom_len (by_ : Int) : ∀ (sts : List Sm) (k : Nat), (mkFrom by_ k sts).length = sts.length
  | [], _ => rfl
  | st :: r, k => congrArg Nat.succ (mkFrom_len by_ r (k + 1))
theorem mkFrom_cons (by_ : Int) (k : Nat) (st : Sm) (r : List Sm) : mkFrom by_ k (st :: r) = (((k : Int) + 1) * by_, relS by_ st) :: mkFrom by_ (k + 1) r := by
  rw [mkFrom]
theorem mkFrom_nil (by_ : Int) (k : Nat) : mkFrom by_ k [] = [] := by
  rw [mkFrom]
theorem mkFrom_mem (by_ : Int) (sts : List Sm) : ∀ (k : Nat) (l : Int × Sm), l ∈ mkFrom by_ k sts → ∃ st, st ∈ sts ∧ l.2 = relS by_ st := by
  induction sts with
  | nil =>
    intro k l h
    rw [mkFrom_nil] at h
    cases h
  | cons st r ih =>
    intro k l h
    rw [mkFrom_cons] at h
    rcases List.mem_cons.mp h with e | h
    · refine ⟨st, List.mem_cons_self, ?_⟩
      rw [e]
    · obtain ⟨st', h1, h2⟩ := ih (k + 1) l h
      exact ⟨st', List.mem_cons_of_mem _ h1, h2⟩
end K31
/-! the law's statements, rounds, and what a program comes to -/
namespace K31
open PySem PySem.Spec PyProof.Rows L2
section
variable {P : Program} {w : World} {K : PySem.W.Frag} {mg : Str → Option Value} {base : Heap}
def spNum (K : PySem.W.Frag) : Sp := fun vs H Q _ => ∃ n : Int, vs = [.int n] ∧ ∀ H' r, Kx [] H H' → Dp K H' r (exD (numE n)) → Q r H'
theorem sc_law_number_said : FnScope ["_law_number"] ["_law_number"] (defScope s_law_number_said) :=
  ⟨rfl, rfl, rfl, by decide +kernel, rfl, by decide +kernel, by decide +kernel⟩
theorem gf_law_number_said (T : Txt w K mg) : Gf P w K mg base 1 "_law_number_said" (spNum K) := by
  have nd := sc_law_number_said.nd
  refine gf_mk T.law_number_said sc_law_number_said (fun vs H Q E h => ?_) (fun _ _ _ _ _ _ us hl => match us, hl with | [_], _ => rfl) (fun f cdv A outer s H vs Q E hr h => ?_)
  · obtain ⟨n, rfl, q⟩ := h
    rfl
  obtain ⟨n, rfl, q⟩ := h
  have hu := hu_of hr
  refine ⟨_, (pss_cons (ps_if (pt_cmpR op_lt (pv 0) pe_int (nomark _))
      (pss_one (ps_ret (pe_tup (pa_cons pe_str (pa_cons (pe_tup (pa_cons pe_str (pa_cons pe_int pa_nil))) (pa_cons (pe_tup (pa_cons pe_str (pa_cons (pe_op op_sub pe_int (pv 0)) pa_nil))) pa_nil))))))
      pss_nil)
    (pss_one (ps_ret (pe_tup (pa_cons pe_str (pa_cons (pv 0) pa_nil)))))), ?_⟩
  simp only [cxK, cxK2, L2.start, List.map, List.length, List.replicate, List.append, HAppend.hAppend, Append.append]
  refine ⟨_, rfl, _, _, rfl, rfl, _, rfl, ?_⟩
  by_cases h : n < 0
  · rw [decide_eq_true h]
    have e : numE n = .sub (.num 0) (.num (0 - n)) := by unfold numE; rw [if_pos h]
    rw [e] at q
    refine iteT ⟨(by show 2 ≤ sizeLine; decide), fun t1 n1 => ?_⟩
    have k1 : Kx [] H (upd H t1 (.tup [.str "number", .int 0])) := .new n1
    have d1 : Dp K (upd H t1 (.tup [.str "number", .int 0])) (.ref t1) (lfD (.num 0)) := tup_new n1 (.cons (.str _) (.cons (.int _) .nil))
    generalize upd H t1 (.tup [.str "number", .int 0]) = H1 at k1 d1 ⊢
    refine ⟨_, rfl, _, _, rfl, rfl, (by show 2 ≤ sizeLine; decide), fun t2 n2 => ?_⟩
    have k2 : Kx [] H1 (upd H1 t2 (.tup [.str "number", .int (0 - n)])) := .new n2
    have d2 : Dp K (upd H1 t2 (.tup [.str "number", .int (0 - n)])) (.ref t2) (lfD (.num (0 - n))) := tup_new n2 (.cons (.str _) (.cons (.int _) .nil))
    have d1' := k2.dp _ d1
    generalize upd H1 t2 (.tup [.str "number", .int (0 - n)]) = H2 at k2 d2 d1' ⊢
    refine ⟨(by show 3 ≤ sizeLine; decide), fun t3 n3 => ?_⟩
    exact q _ _ ((k1.trans k2).trans (.new n3)) (tup_new n3 (.cons (.str _) (.cons d1' (.cons d2 .nil))))
  · rw [decide_eq_false h]
    have e : numE n = .lf (.num n) := by unfold numE; rw [if_neg h]
    rw [e] at q
    refine iteF ⟨_, rfl, (by show 2 ≤ sizeLine; decide), fun t1 n1 => ?_⟩
    exact q _ _ (.new n1) (tup_new n1 (.cons (.str _) (.cons (.int _) .nil)))
def spLoopLine (K : PySem.W.Frag) : Sp := fun vs H Q _ => ∃ (x : Str) (a b c : Int), vs = [.str x, .int a, .int b, .int c] ∧ ∀ H' r, Kx [] H H' → Dp K H' r (smD (loopS x a b c)) → Q r H'
theorem sc_law_loop_line : FnScope ["_law_name", "_law_first", "_law_last", "_law_by"] ["_law_name", "_law_first", "_law_last", "_law_by"] (defScope s_law_loop_line) :=
  ⟨rfl, rfl, rfl, by decide +kernel, rfl, by decide +kernel, by decide +kernel⟩
theorem gf_law_loop_line (T : Txt w K mg) : Gf P w K mg base 2 "_law_loop_line" (spLoopLine K) := by
  have nd := sc_law_loop_line.nd
  refine gf_mk T.law_loop_line sc_law_loop_line (fun vs H Q E h => ?_) (fun _ _ _ _ _ _ us hl => match us, hl with | [_, _, _, _], _ => rfl) (fun f cdv A outer s H vs Q E hr h => ?_)
  · obtain ⟨x, a, b, c, rfl, q⟩ := h
    rfl
  obtain ⟨x, a, b, c, rfl, q⟩ := h
  have hu := hu_of hr
  have G_num := (gf_law_number_said (P := P) (base := base) T)
  refine ⟨_, (pss_one (ps_ret (pe_tup (pa_cons pe_str (pa_cons (pv 0) (pa_cons (pe_callG G_num (hr.mono (by decide)) (pa_cons (pv 1) pa_nil)) (pa_cons (pe_callG G_num (hr.mono (by decide)) (pa_cons (pv 2) pa_nil)) (pa_cons (pe_callG G_num (hr.mono (by decide)) (pa_cons (pv 3) pa_nil)) pa_nil)))))))), ?_⟩
  simp only [cxK, cxK2, L2.start, List.map, List.length, List.replicate, List.append, HAppend.hAppend, Append.append]
  refine ⟨_, rfl, _, rfl, a, rfl, fun H1 r1 k1 d1 => ⟨_, rfl, b, rfl, fun H2 r2 k2 d2 => ⟨_, rfl, c, rfl, fun H3 r3 k3 d3 => ⟨(by show 5 ≤ sizeLine; decide), fun t nt => ?_⟩⟩⟩⟩
  exact q _ _ (((k1.trans k2).trans k3).trans (.new nt)) (tup_new nt (.cons (.str _) (.cons (.str _) (.cons ((k2.trans k3).dp _ d1) (.cons (k3.dp _ d2) (.cons d3 .nil))))))
def spRounds (K : PySem.W.Frag) : Sp := fun vs H Q _ => ∃ (a b c z : Int) (l : List Int), vs = [.int a, .int b, .int c] ∧ roundsF 100 a b c = some (l, z) ∧ ∀ H' t la, Kx [] H H' → SqT K H' t [.ref la, .int z] → H' la = some (.lst (l.map V.int)) → Q (.ref t) H'
theorem rounds_go {k : Nat} {a b c z : Int} {l : List Int} (h : roundsF k a b c = some (l, z)) (hg : goes a b c = true) : ∃ j l', k = j + 1 ∧ l = a :: l' ∧ roundsF j (a + c) b c = some (l', z) := by
  unfold roundsF at h
  rw [if_pos hg] at h
  cases k with
  | zero => cases h
  | succ j =>
    cases e : roundsF j (a + c) b c with
    | none => simp only [e] at h; cases h
    | some r =>
      obtain ⟨l', z'⟩ := r
      simp only [e] at h
      cases h
      exact ⟨j, l', rfl, rfl, e⟩
theorem rounds_stop {k : Nat} {a b c z : Int} {l : List Int} (h : roundsF k a b c = some (l, z)) (hg : goes a b c = false) : l = [] ∧ z = a := by
  unfold roundsF at h
  rw [if_neg (by rw [hg]; exact fun z => nomatch z)] at h
  cases h
  exact ⟨rfl, rfl⟩
theorem rounds_len : ∀ (k : Nat) (a b c z : Int) (l : List Int), roundsF k a b c = some (l, z) → l.length ≤ k
  | k, a, b, c, z, l, h => by
    induction k generalizing a l with
    | zero =>
      cases hg : goes a b c with
      | true => obtain ⟨j, l', e, _⟩ := rounds_go h hg; cases e
      | false => rw [(rounds_stop h hg).1]; exact Nat.le_refl _
    | succ k ih =>
      cases hg : goes a b c with
      | true =>
        obtain ⟨j, l', e, rfl, h2⟩ := rounds_go h hg
        have := ih _ _ (by cases e; exact h2)
        simp only [List.length_cons]
        omega
      | false => rw [(rounds_stop h hg).1]; exact Nat.zero_le _
theorem sc_law_rounds : FnScope ["_law_first", "_law_last", "_law_by", "_law_found", "_law_now"] ["_law_first", "_law_last", "_law_by"] (defScope s_law_rounds) :=
  ⟨rfl, rfl, rfl, by decide +kernel, rfl, by decide +kernel, by decide +kernel⟩
theorem gf_law_rounds (T : Txt w K mg) : Gf P w K mg base 1 "_law_rounds" (spRounds K) := by
  have nd := sc_law_rounds.nd
  refine gf_mk T.law_rounds sc_law_rounds (fun vs H Q E h => ?_) (fun _ _ _ _ _ _ us hl => match us, hl with | [_, _, _], _ => rfl) (fun f cdv A outer s H vs Q E hr h => ?_)
  · obtain ⟨a, b, c, z, l, rfl, hm, q⟩ := h
    rfl
  obtain ⟨a, b, c, z, l, rfl, hm, q⟩ := h
  have hu := hu_of hr
  refine ⟨_, (pss_cons (sT 3 nd (pe_lst pa_nil))
    (pss_cons (sT 4 nd (pv 0))
    (pss_cons (ps_while PassesOwn.never (PW.pt (pw_or (PW.pt (pw_and (pt_cmpR op_le (pv 4) (pv 1) (nomark _)) (pw_and1 (pt_cmpR op_gt (pv 2) pe_int (nomark _))))) (pw_or1 (PW.pt (pw_and (pt_cmpR op_ge (pv 4) (pv 1) (nomark _)) (pw_and1 (pt_cmpR op_lt (pv 2) pe_int (nomark _))))))))
      (pss_cons (ps_expr (pe_bm PySem.F.plainAttrs_list PySem.F.slot_list_append PySem.F.type_list_append mt_append (pv 3) (pa_cons (pv 4) pa_nil)))
      (pss_one (sT 4 nd (pe_op op_add (pv 4) (pv 2))))))
    (pss_one (ps_ret (pe_tup (pa_cons (pv 3) (pa_cons (pv 4) pa_nil)))))))), ?_⟩
  simp only [cxK, cxK2, L2.start, List.map, List.length, List.replicate, List.append, HAppend.hAppend, Append.append]
  refine ⟨(by show 0 ≤ sizeLine; decide), fun la nla => ?_⟩
  simp only [List.set]
  refine ⟨_, rfl, ?_⟩
  simp only [List.set]
  refine ⟨fun m σ H' => Kx [] H H' ∧ ∃ now acc rest, σ = [some (.int a), some (.int b), some (.int c), some (.ref la), some (.int now)] ∧ H' la = some (.lst (acc.map V.int)) ∧ roundsF m now b c = some (rest, z) ∧ acc ++ rest = l, ⟨100, .new nla, a, [], l, rfl, upd_same, hm, rfl⟩, ?_⟩
  have hl100 := rounds_len 100 a b c z l hm
  rintro m σ H' ⟨k2, now, acc, rest, rfl, hla, hrf, hal⟩
  rw [← hal] at hl100
  refine ⟨_, rfl, _, rfl, _, _, rfl, rfl, _, rfl, ?_⟩
  by_cases h1 : now ≤ b
  · rw [decide_eq_true h1]
    refine iteT ⟨_, rfl, _, _, rfl, rfl, _, rfl, ?_⟩
    by_cases h2 : c > 0
    · rw [decide_eq_true h2]
      refine iteT ?_
      refine iteT ⟨_, fun σ' H'' h => h, ?_⟩
      have hg : goes now b c = true := by unfold goes; simp ; omega
      obtain ⟨j, l', rfl, rfl, hr2⟩ := rounds_go hrf hg
      refine ⟨_, rfl, .inl ⟨rfl, _, .inl (.inl hla)⟩, _, rfl, la, _, _, rfl, rfl, hla, small1000 (by rw [List.length_map]; have := hl100; rw [List.length_append] at this; simp only [List.length_cons] at this; omega), ?_⟩
      refine ⟨_, rfl, _, rfl, _, _, rfl, rfl, j, by omega, k2.grow nla, now + c, acc ++ [now], l', rfl, ?_, hr2, ?_⟩
      · rw [upd_same, List.map_append]; rfl
      · rw [List.append_assoc]; exact hal
    · rw [decide_eq_false h2]
      refine iteF ?_
      refine ⟨_, rfl, _, rfl, _, _, rfl, rfl, _, rfl, ?_⟩
      by_cases h3 : now ≥ b
      · rw [decide_eq_true h3]
        refine iteT ⟨_, rfl, _, _, rfl, rfl, _, rfl, ?_⟩
        by_cases h4 : c < 0
        · rw [decide_eq_true h4]
          refine iteT ⟨_, fun σ' H'' h => h, ?_⟩
          have hg : goes now b c = true := by unfold goes; simp ; omega
          obtain ⟨j, l', rfl, rfl, hr2⟩ := rounds_go hrf hg
          refine ⟨_, rfl, .inl ⟨rfl, _, .inl (.inl hla)⟩, _, rfl, la, _, _, rfl, rfl, hla, small1000 (by rw [List.length_map]; have := hl100; rw [List.length_append] at this; simp only [List.length_cons] at this; omega), ?_⟩
          refine ⟨_, rfl, _, rfl, _, _, rfl, rfl, j, by omega, k2.grow nla, now + c, acc ++ [now], l', rfl, ?_, hr2, ?_⟩
          · rw [upd_same, List.map_append]; rfl
          · rw [List.append_assoc]; exact hal
        · rw [decide_eq_false h4]
          refine iteF ?_
          have hg : goes now b c = false := by unfold goes; simp ; omega
          obtain ⟨e1, e2⟩ := rounds_stop hrf hg
          subst e1 e2
          rw [List.append_nil] at hal
          subst hal
          refine ⟨_, rfl, _, rfl, (by show 2 ≤ sizeLine; decide), fun t nt => ?_⟩
          exact q _ t la (k2.trans (.new nt)) (.inl (.inl upd_same)) ((Kx.new (ks := []) nt).same _ _ hla)
      · rw [decide_eq_false h3]
        refine iteF ?_
        refine iteF ?_
        have hg : goes now b c = false := by unfold goes; simp ; omega
        obtain ⟨e1, e2⟩ := rounds_stop hrf hg
        subst e1 e2
        rw [List.append_nil] at hal
        subst hal
        refine ⟨_, rfl, _, rfl, (by show 2 ≤ sizeLine; decide), fun t nt => ?_⟩
        exact q _ t la (k2.trans (.new nt)) (.inl (.inl upd_same)) ((Kx.new (ks := []) nt).same _ _ hla)
  · rw [decide_eq_false h1]
    refine iteF (iteF ?_)
    refine ⟨_, rfl, _, rfl, _, _, rfl, rfl, _, rfl, ?_⟩
    by_cases h3 : now ≥ b
    · rw [decide_eq_true h3]
      refine iteT ⟨_, rfl, _, _, rfl, rfl, _, rfl, ?_⟩
      by_cases h4 : c < 0
      · rw [decide_eq_true h4]
        refine iteT ⟨_, fun σ' H'' h => h, ?_⟩
        have hg : goes now b c = true := by unfold goes; simp ; omega
        obtain ⟨j, l', rfl, rfl, hr2⟩ := rounds_go hrf hg
        refine ⟨_, rfl, .inl ⟨rfl, _, .inl (.inl hla)⟩, _, rfl, la, _, _, rfl, rfl, hla, small1000 (by rw [List.length_map]; have := hl100; rw [List.length_append] at this; simp only [List.length_cons] at this; omega), ?_⟩
        refine ⟨_, rfl, _, rfl, _, _, rfl, rfl, j, by omega, k2.grow nla, now + c, acc ++ [now], l', rfl, ?_, hr2, ?_⟩
        · rw [upd_same, List.map_append]; rfl
        · rw [List.append_assoc]; exact hal
      · rw [decide_eq_false h4]
        refine iteF ?_
        have hg : goes now b c = false := by unfold goes; simp ; omega
        obtain ⟨e1, e2⟩ := rounds_stop hrf hg
        subst e1 e2
        rw [List.append_nil] at hal
        subst hal
        refine ⟨_, rfl, _, rfl, (by show 2 ≤ sizeLine; decide), fun t nt => ?_⟩
        exact q _ t la (k2.trans (.new nt)) (.inl (.inl upd_same)) ((Kx.new (ks := []) nt).same _ _ hla)
    · rw [decide_eq_false h3]
      refine iteF ?_
      refine iteF ?_
      have hg : goes now b c = false := by unfold goes; simp ; omega
      obtain ⟨e1, e2⟩ := rounds_stop hrf hg
      subst e1 e2
      rw [List.append_nil] at hal
      subst hal
      refine ⟨_, rfl, _, rfl, (by show 2 ≤ sizeLine; decide), fun t nt => ?_⟩
      exact q _ t la (k2.trans (.new nt)) (.inl (.inl upd_same)) ((Kx.new (ks := []) nt).same _ _ hla)
def spThree (K : PySem.W.Frag) : Sp := fun vs H Q _ => ∃ (d : Addr) (N : Int), vs = [.ref d] ∧ N ≤ 990 ∧ PenS K H d N ∧ ∀ H' t a b c, Kx [d] H H' → PenS K H' d (N + 3) → SqT K H' t [.int a, .int b, .int c] → -3 ≤ a → a ≤ 4 → -3 ≤ b → b ≤ 4 → c ∈ ([1, 2, -1, -2, 7] : List Int) → Q (.ref t) H'
theorem sc_law_three : FnScope ["_law_pen_here"] ["_law_pen_here"] (defScope s_law_three) :=
  ⟨rfl, rfl, rfl, by decide +kernel, rfl, by decide +kernel, by decide +kernel⟩
theorem gf_law_three (T : Txt w K mg) : Gf P w K mg base 2 "_law_three" (spThree K) := by
  have nd := sc_law_three.nd
  refine gf_mk T.law_three sc_law_three (fun vs H Q E h => ?_) (fun _ _ _ _ _ _ us hl => match us, hl with | [_], _ => rfl) (fun f cdv A outer s H vs Q E hr h => ?_)
  · obtain ⟨d, N, rfl, hN, hp, q⟩ := h
    rfl
  obtain ⟨d, N, rfl, hN, hp, q⟩ := h
  have hu := hu_of hr
  have G_draw := (gf_law_draw (P := P) (base := base) T)
  refine ⟨_, (pss_one (ps_ret (pe_tup (pa_cons (pe_op op_sub (pe_callG G_draw (hr.mono (by decide)) (pa_cons (pv 0) (pa_cons pe_int pa_nil))) pe_int) (pa_cons (pe_op op_sub (pe_callG G_draw (hr.mono (by decide)) (pa_cons (pv 0) (pa_cons pe_int pa_nil))) pe_int) (pa_cons (pe_ix (r := rIxL K) ix_list (pe_lst (pa_cons pe_int (pa_cons pe_int (pa_cons (pe_un un_neg pe_int) (pa_cons (pe_un un_neg pe_int) (pa_cons pe_int pa_nil)))))) (pe_callG G_draw (hr.mono (by decide)) (pa_cons (pv 0) (pa_cons pe_int pa_nil))) (fun _ _ => rfl)) pa_nil)))))), ?_⟩
  simp only [cxK, cxK2, L2.start, List.map, List.length, List.replicate, List.append, HAppend.hAppend, Append.append]
  refine ⟨_, rfl, d, 8, N, rfl, by decide, by decide, by omega, hp, fun H1 r1 k1 p1 h1 h1' => ⟨_, _, rfl, rfl, ?_⟩⟩
  refine ⟨_, rfl, d, 8, N + 1, rfl, by decide, by decide, by omega, p1, fun H2 r2 k2 p2 h2 h2' => ⟨_, _, rfl, rfl, ?_⟩⟩
  refine ⟨_, rfl, _, rfl, (by show 5 ≤ sizeLine; decide), fun l nl => ?_⟩
  have k3 : Kx [] H2 (upd H2 l (.lst [.int 1, .int 2, .int (-1), .int (-2), .int 7])) := .new nl
  have l3 : SqL K (upd H2 l (.lst [.int 1, .int 2, .int (-1), .int (-2), .int 7])) l [.int 1, .int 2, .int (-1), .int (-2), .int 7] := .inl (.inl upd_same)
  have p3 := p2.keep k3
  have k13 := (k1.trans k2).trans (k3.sub (ls := [d]) (fun _ z => nomatch z))
  refine ⟨_, rfl, d, 5, N + 1 + 1, rfl, by decide, by decide, by omega, p3, fun H4 r4 k4 p4 h4 h4' => ?_⟩
  obtain ⟨c, hc, hat⟩ : ∃ c : Int, c ∈ ([1, 2, -1, -2, 7] : List Int) ∧ atI [V.int 1, .int 2, .int (-1), .int (-2), .int 7] r4 = some (.int c) := by
    have e : r4 = ((r4.toNat : Nat) : Int) := (Int.toNat_of_nonneg h4).symm
    have hj : r4.toNat < 5 := by omega
    rw [e]
    generalize r4.toNat = j at hj
    match j, hj with
    | 0, _ => exact ⟨1, by decide, atI_nat rfl⟩
    | 1, _ => exact ⟨2, by decide, atI_nat rfl⟩
    | 2, _ => exact ⟨-1, by decide, atI_nat rfl⟩
    | 3, _ => exact ⟨-2, by decide, atI_nat rfl⟩
    | 4, _ => exact ⟨7, by decide, atI_nat rfl⟩
  refine ⟨l, _, _, _, rfl, rfl, k4.sqL l3, hat, (by show 3 ≤ sizeLine; decide), fun t nt => ?_⟩
  have k5 : Kx [] H4 (upd H4 t (.tup [.int (r1 - 3), .int (r2 - 3), .int c])) := .new nt
  refine q _ t (r1 - 3) (r2 - 3) c ((k13.trans k4).trans (k5.sub (fun _ z => nomatch z))) ((p4.keep k5).mono (by omega)) (.inl (.inl upd_same)) (by omega) (by omega) (by omega) (by omega) hc
end
end K31
/-! what a program comes to; equal data -/
namespace K31
open PySem PySem.Spec PyProof.Rows L2
section
variable {P : Program} {w : World} {K : PySem.W.Frag} {mg : Str → Option Value} {base : Heap}
structure StsOk (sts : List Sm) : Prop where
  few : sts.length ≤ 20
  ok : ∀ st ∈ sts, (exsOf st).length ≤ 100 ∧ nmS st = true
  jumps : ∀ st ∈ sts, match st with
    | .call n => 0 ≤ n ∧ n ≤ 100
    | .iff _ n => 0 ≤ n ∧ n ≤ 100
    | _ => True
theorem rel_exs (b : Int) (st : Sm) : exsOf (relS b st) = exsOf st := by cases st <;> rfl
theorem rel_nm (b : Int) (st : Sm) : nmS (relS b st) = nmS st := by cases st <;> rfl
theorem mkP_pr {H : Hp} {v : V} {b : Int} {sts : List Sm} (h : StsOk sts) (hd : Dp K H v (prD (mkP b sts))) : IsPr K H v (mkP b sts) := by
  refine ⟨hd, ?_, ?_, ?_⟩
  · unfold mkP
    rw [mkFrom_len]
    have := h.few
    omega
  · intro l hl
    obtain ⟨st, h1, h2⟩ := mkFrom_mem b sts 0 l hl
    rw [h2, rel_exs]
    exact (h.ok st h1).1
  · intro l hl
    obtain ⟨st, h1, h2⟩ := mkFrom_mem b sts 0 l hl
    rw [h2, rel_nm]
    exact (h.ok st h1).2
def spComes (K : PySem.W.Frag) : Sp := fun vs H Q _ => ∃ (sl : Addr) (xs : List V) (sts : List Sm) (by_ : Int) (s' : Sx), vs = [.ref sl, .int by_] ∧ SqL K H sl xs ∧ DpAll K H xs (sts.map smD) ∧ StsOk sts ∧ 0 ≤ by_ ∧ by_ ≤ 500 ∧ walkM (mkP by_ sts) 1000 (firstM (mkP by_ sts)) = some s' ∧
  ∀ H' t b vp vf l ys, Kx [] H H' → SqT K H' t [.str s'.stand, .int s'.at_, .ref b, vp, vf, .ref l] → H' b = some (.dK (bxs s'.boxes)) → Dp K H' vp (pileD s'.pile) → Dp K H' vf (faultD s'.fault) → H' l = some (.lst ys) → DpAll K H' ys (s'.said.map rowD) → NdB s'.boxes → Q (.ref t) H'
theorem not_jump {st : Sm} (h : inV (.str (wordOf st)) [.str "go", .str "call", .str "when"] = false) (b : Int) : relS b st = st := by
  cases st with
  | call n => exact absurd h (by simp only [wordOf]; decide +kernel)
  | iff e n => exact absurd h (by simp only [wordOf]; decide +kernel)
  | _ => rfl
theorem jump_or (st : Sm) : (∃ n, st = .call n) ∨ (∃ e n, st = .iff e n) ∨ inV (.str (wordOf st)) [.str "go", .str "call", .str "when"] = false := by
  cases st with
  | call n => exact .inl ⟨n, rfl⟩
  | iff e n => exact .inr (.inl ⟨e, n, rfl⟩)
  | _ => exact .inr (.inr (by simp only [wordOf]; decide +kernel))
theorem sqT_up {H : Hp} {pl : Addr} {l0 : List V} {o : HO} (hp : H pl = some (.lst l0)) {a : Addr} {xs : List V} (h : SqT K H a xs) : SqT K (upd H pl o) a xs := by
  rcases h with h | h
  · left
    have na : a ≠ pl := by
      intro z
      subst z
      rcases h with h | ⟨o', h⟩
      · rw [hp] at h; cases h
      · rw [hp] at h; cases h
    rcases h with h | ⟨o', h⟩
    · exact .inl ((upd_ne na).trans h)
    · exact .inr ⟨o', (upd_ne na).trans h⟩
  · exact .inr h
/-- no list within -/
inductive NoL : PyData → Prop
  | non : NoL .none
  | bl (b : Bool) : NoL (.bool b)
  | int (i : Int) : NoL (.int i)
  | str (x : Str) : NoL (.str x)
  | tup {ds : List PyData} : (∀ d ∈ ds, NoL d) → NoL (.tuple ds)
mutual
theorem dp_up {H : Hp} {pl : Addr} {l0 : List V} {o : HO} (hp : H pl = some (.lst l0)) : ∀ {v : V} (d : PyData), NoL d → Dp K H v d → Dp K (upd H pl o) v d
  | _, .none, _, h => by cases h; exact .non
  | _, .bool _, _, h => by cases h; exact .bl _
  | _, .int _, _, h => by cases h; exact .int _
  | _, .str _, _, h => by cases h; exact .str _
  | _, .list ds, n, h => by cases n
  | _, .tuple ds, n, h => by cases n with | tup hn => cases h with | tup h1 h2 => exact .tup (sqT_up hp h1) (dpa_up hp ds hn h2)
  | _, .dict _, _, h => by cases h
theorem dpa_up {H : Hp} {pl : Addr} {l0 : List V} {o : HO} (hp : H pl = some (.lst l0)) : ∀ {vs : List V} (ds : List PyData), (∀ d ∈ ds, NoL d) → DpAll K H vs ds → DpAll K (upd H pl o) vs ds
  | _, [], _, h => by cases h; exact .nil
  | _, d :: ds, n, h => by cases h with | cons h1 h2 => exact .cons (dp_up hp d (n d List.mem_cons_self) h1) (dpa_up hp ds (fun d' h' => n d' (List.mem_cons_of_mem _ h')) h2)
end
theorem noln : ∀ x ∈ ([] : List PyData), NoL x := fun x h => by cases h
theorem nolc {d : PyData} {ds : List PyData} (h : NoL d) (k : ∀ x ∈ ds, NoL x) : ∀ x ∈ d :: ds, NoL x := fun x hx => by
  rcases List.mem_cons.mp hx with e | hx
  · rw [e]
    exact h
  · exact k x hx
theorem nol_lf (l : Lf) : NoL (lfD l) := by
  cases l with
  | num n => exact .tup (nolc (.str _) (nolc (.int _) noln))
  | box n => exact .tup (nolc (.str _) (nolc (.str _) noln))
theorem nol_ex (e : Ex) : NoL (exD e) := by
  cases e with
  | lf l => exact nol_lf l
  | sub a b => exact .tup (nolc (.str _) (nolc (nol_lf a) (nolc (nol_lf b) noln)))
  | add a b => exact .tup (nolc (.str _) (nolc (nol_lf a) (nolc (nol_lf b) noln)))
  | eq a b => exact .tup (nolc (.str _) (nolc (nol_lf a) (nolc (nol_lf b) noln)))
theorem nol_exs (es : List Ex) : NoL (.tuple (es.map exD)) := .tup fun d hd => by
  obtain ⟨e, _, rfl⟩ := List.mem_map.mp hd
  exact nol_ex e
theorem nol_sm (st : Sm) : NoL (smD st) := by
  cases st with
  | set x e => exact .tup (nolc (.str _) (nolc (.str _) (nolc (nol_ex e) noln)))
  | say es => exact .tup (nolc (.str _) (nolc (nol_exs es) noln))
  | call n => exact .tup (nolc (.str _) (nolc (.int _) noln))
  | back => exact .tup (nolc (.str _) noln)
  | iff e n => exact .tup (nolc (.str _) (nolc (nol_ex e) (nolc (.int _) noln)))
  | loop x a b c => exact .tup (nolc (.str _) (nolc (.str _) (nolc (nol_ex a) (nolc (nol_ex b) (nolc (nol_ex c) noln)))))
  | again x => exact .tup (nolc (.str _) (nolc (.str _) noln))
  | stop => exact .tup (nolc (.str _) noln)
  | fin => exact .tup (nolc (.str _) noln)
theorem nol_line (l : Int × Sm) : NoL (lineD l) := .tup (nolc (.int _) (nolc (nol_sm l.2) noln))
theorem nol_lines (p : Pr) : ∀ d ∈ p.map lineD, NoL d := fun d hd => by
  obtain ⟨l, _, rfl⟩ := List.mem_map.mp hd
  exact nol_line l
theorem sc_law_comes_to : FnScope ["_law_statements", "_law_by", "_law_program", "_law_k", "_law_statement", "_law_state", "_law_many"] ["_law_statements", "_law_by"] (defScope s_law_comes_to) :=
  ⟨rfl, rfl, rfl, by decide +kernel, rfl, by decide +kernel, by decide +kernel⟩
theorem gf_law_comes_to (T : Txt w K mg) : Gf P w K mg base 9 "_law_comes_to" (spComes K) := by
  have nd := sc_law_comes_to.nd
  refine gf_mk T.law_comes_to sc_law_comes_to (fun vs H Q E h => ?_) (fun _ _ _ _ _ _ us hl => match us, hl with | [_, _], _ => rfl) (fun f cdv A outer s H vs Q E hr h => ?_)
  · obtain ⟨sl, xs, sts, by_, s1, rfl, hsl, hds, hok, hb0, hb1, hm, q⟩ := h
    rfl
  obtain ⟨sl, xs, sts, by_, s1, rfl, hsl, hds, hok, hb0, hb1, hm, q⟩ := h
  have hu := hu_of hr
  have G_walk := (gf_walk (P := P) (base := base) T)
  refine ⟨_, (pss_cons (sT 2 nd (pe_lst pa_nil))
    (pss_cons (ps_for PassesOwn.never rfl (pi_enum (by rfl) T.enumerate (pa_cons (pv 0) pa_nil)) (pg_tup (n := 2) (by rfl) (pgs_cons (gN 3 nd) (pgs_cons (gN 4 nd) pgs_nil)))
      (pss_cons (ps_if (pt_cmpR op_in_seq (pe_ix (r := rIxT K) ix_tup (pv 4) pe_int (fun _ _ => rfl)) (pe_tup (pa_cons pe_str (pa_cons pe_str (pa_cons pe_str pa_nil)))) (by rfl))
        (pss_one (sT 4 nd (pe_op op_catA (pe_slice sl_tupA (pv 4) po_none (po_some (pe_un un_neg pe_int))) (pe_tup (pa_cons (pe_op op_mul (pe_op op_add (pe_ix (r := rIxT K) ix_tup (pv 4) (pe_un un_neg pe_int) (fun _ _ => rfl)) pe_int) (pv 1)) pa_nil)))))
        pss_nil)
      (pss_one (ps_expr (pe_bm PySem.F.plainAttrs_list PySem.F.slot_list_append PySem.F.type_list_append mt_append (pv 2) (pa_cons (pe_tup (pa_cons (pe_op op_mul (pe_op op_add (pv 3) pe_int) (pv 1)) (pa_cons (pv 4) pa_nil))) pa_nil))))))
    (pss_cons (ps_asg (pe_callG G_walk (hr.mono (by decide)) (pa_cons (pe_callTy call_tupleF (by rfl) T.tuple (by decide +kernel) (pa_cons (pv 2) pa_nil)) (pa_cons (pe_lst pa_nil) pa_nil))) (pg_tup (n := 2) (by rfl) (pgs_cons (gN 5 nd) (pgs_cons (gN 6 nd) pgs_nil))))
    (pss_one (ps_ret (pe_tup (pa_cons (pe_ix (r := rIxT K) ix_tup (pv 5) pe_int (fun _ _ => rfl)) (pa_cons (pe_ix (r := rIxT K) ix_tup (pv 5) pe_int (fun _ _ => rfl)) (pa_cons (pe_callTy (call_dictT rfl) (by rfl) T.dict (by decide +kernel) (pa_cons (pe_ix (r := rIxT K) ix_tup (pv 5) pe_int (fun _ _ => rfl)) pa_nil)) (pa_cons (pe_ix (r := rIxT K) ix_tup (pv 5) pe_int (fun _ _ => rfl)) (pa_cons (pe_ix (r := rIxT K) ix_tup (pv 5) pe_int (fun _ _ => rfl)) (pa_cons (pe_callTy call_list_of (by rfl) T.list (by decide +kernel) (pa_cons (pe_ix (r := rIxT K) ix_tup (pv 5) pe_int (fun _ _ => rfl)) pa_nil)) pa_nil)))))))))))), ?_⟩
  simp only [cxK, cxK2, L2.start, List.map, List.length, List.replicate, List.append, HAppend.hAppend, Append.append]
  have hxl : xs.length = sts.length := by rw [dpa_len hds, List.length_map]
  refine ⟨(by show 0 ≤ sizeLine; decide), fun pl npl => ?_⟩
  simp only [List.set]
  have k0 : Kx [] H (upd H pl (.lst [])) := .new npl
  refine ⟨_, rfl, sl, xs, rfl, k0.sqL hsl, for_it (walk_enum (K := K) (a := sl) (xs := xs)) (fun i σ H' => Kx [] H H' ∧ ∃ acc v3 v4, σ = [some (.ref sl), some (.int by_), some (.ref pl), v3, v4, none, none] ∧ H' pl = some (.lst acc) ∧ DpAll K H' acc (((mkP by_ sts).take i).map lineD)) ⟨k0, [], none, none, rfl, upd_same, by rw [List.take_zero]; exact .nil⟩ (fun i σ H' _ h => h.1.sqL hsl) ?_ ?_⟩
  · rintro i y σ H1 H2 hi ⟨k1, acc, v3, v4, rfl, hpl, hacc⟩ ⟨T2, n1, x, rfl, hT, rfl, en1, hx⟩
    cases en1
    replace hx : xs[i]? = some x := hx
    have kT : Kx [] H1 (upd H1 T2 (.tup [.int (i : Nat), x])) := .new hT
    have tT : SqT K (upd H1 T2 (.tup [.int (i : Nat), x])) T2 [.int (i : Nat), x] := .inl (.inl upd_same)
    replace hpl := kT.same _ _ hpl
    replace hacc := kT.dpAll _ hacc
    have kJ := k1.trans kT
    generalize upd H1 T2 (.tup [.int (i : Nat), x]) = H2 at kJ tT hpl hacc ⊢
    obtain ⟨dd, ed, dx⟩ := dpa_get hds i x hx
    rw [List.getElem?_map] at ed
    cases es : sts[i]? with
    | none => rw [es] at ed; cases ed
    | some st =>
      rw [es] at ed
      cases ed
      replace dx := kJ.dp _ dx
      have hmem : st ∈ sts := List.mem_of_getElem? es
      have hil : i < sts.length := (List.getElem?_eq_some_iff.mp es).1
      have hget := mkP_get by_ sts i es
      have hstep : (mkP by_ sts).take (i + 1) = (mkP by_ sts).take i ++ [(((i : Int) + 1) * by_, relS by_ st)] := by
        obtain ⟨h1, h2⟩ := List.getElem?_eq_some_iff.mp hget
        rw [List.take_succ_eq_append_getElem h1, h2]
      refine ⟨T2, _, rfl, tT, rfl, _, _, rfl, _, _, rfl, rfl, ?_⟩
      simp only [List.set]
      obtain ⟨sa, sxs, rfl, hss⟩ := dp_sm dx
      refine ⟨_, rfl, sa, _, _, _, rfl, rfl, hss, atI_nat (j := 0) rfl, (by show 3 ≤ sizeLine; decide), fun t nt => ?_⟩
      have kt : Kx [] H2 (upd H2 t (.tup [.str "go", .str "call", .str "when"])) := .new nt
      refine ⟨t, _, rfl, .inr (.inl (.inl upd_same)), rfl, rfl, _, rfl, ?_⟩
      replace hpl := kt.same _ _ hpl
      replace hacc := kt.dpAll _ hacc
      replace dx := kt.dp _ dx
      have kJ0 := kJ.trans kt
      clear kJ tT hss
      generalize upd H2 t (.tup [.str "go", .str "call", .str "when"]) = J0 at kJ0 hpl hacc dx ⊢
      rcases jump_or st with ⟨n, rfl⟩ | ⟨e, n, rfl⟩ | hnj
      · have hj := hok.jumps _ hmem
        obtain ⟨sa', e1, hs2⟩ := dp_call dx
        cases e1
        replace hj : 0 ≤ n ∧ n ≤ 100 := hj
        show if inV (.str "call") [.str "go", .str "call", .str "when"] = true then _ else _
        rw [show inV (.str "call") [.str "go", .str "call", .str "when"] = true by decide +kernel]
        refine iteT ?_
        refine ⟨_, rfl, _, rfl, _, rfl, sa, _, rfl, hs2, (fun e => absurd e.2 (by show ¬ 1 = 2; decide)), fun _ p3 np3 => ?_⟩
        rw [show cutV [V.str "call", V.int n] none (some (-1)) = [V.str "call"] from rfl]
        have k3 : Kx [] J0 (upd J0 p3 (.tup [.str "call"])) := .new np3
        have t3 : SqT K (upd J0 p3 (.tup [.str "call"])) p3 [.str "call"] := .inl (.inl upd_same)
        refine ⟨_, rfl, _, rfl, sa, _, _, _, rfl, rfl, k3.sqT hs2, atI_last [V.str "call"] (V.int n), _, _, rfl, rfl, _, rfl, _, _, rfl, rfl, .inr ⟨by omega, by omega⟩, (by show 1 ≤ sizeLine; decide), fun p4 np4 => ?_⟩
        have k4 : Kx [] (upd J0 p3 (.tup [.str "call"])) (upd (upd J0 p3 (.tup [.str "call"])) p4 (.tup [.int ((n + 1) * by_)])) := .new np4
        have t4 : SqT K (upd (upd J0 p3 (.tup [.str "call"])) p4 (.tup [.int ((n + 1) * by_)])) p4 [.int ((n + 1) * by_)] := .inl (.inl upd_same)
        have t3' := k4.sqT t3
        refine ⟨p3, p4, _, _, rfl, rfl, t3', t4, (by show 1 + 1 ≤ sizeLine; decide), (fun z => nomatch z), (fun _ z => nomatch z), fun _ _ p5 np5 => ?_⟩
        have k5 : Kx [] (upd (upd J0 p3 (.tup [.str "call"])) p4 (.tup [.int ((n + 1) * by_)])) (upd (upd (upd J0 p3 (.tup [.str "call"])) p4 (.tup [.int ((n + 1) * by_)])) p5 (.tup ([.str "call"] ++ [.int ((n + 1) * by_)]))) := .new np5
        have k35 := (k3.trans k4).trans k5
        have t5 : SqT K (upd (upd (upd J0 p3 (.tup [.str "call"])) p4 (.tup [.int ((n + 1) * by_)])) p5 (.tup ([.str "call"] ++ [.int ((n + 1) * by_)]))) p5 [.str "call", .int ((n + 1) * by_)] := .inl (.inl upd_same)
        have dsv : Dp K (upd (upd (upd J0 p3 (.tup [.str "call"])) p4 (.tup [.int ((n + 1) * by_)])) p5 (.tup ([.str "call"] ++ [.int ((n + 1) * by_)]))) (.ref p5) (smD (relS by_ (.call n))) := .tup t5 (.cons (.str _) (.cons (.int _) .nil))
        have kJ := kJ0.trans k35
        replace hpl := k35.same _ _ hpl
        replace hacc := k35.dpAll _ hacc
        have ⟨sv, hsv⟩ : ∃ sv : V, sv = .ref p5 := ⟨_, rfl⟩
        rw [← hsv] at dsv
        generalize (upd (upd (upd J0 p3 (.tup [.str "call"])) p4 (.tup [.int ((n + 1) * by_)])) p5 (.tup ([.str "call"] ++ [.int ((n + 1) * by_)]))) = J at dsv kJ hpl hacc t5 ⊢
        simp only [List.set]
        subst hsv
        generalize hsv : (V.ref p5) = sv at dsv ⊢
        refine ⟨_, rfl, .inl ⟨rfl, _, .inl (.inl hpl)⟩, _, rfl, _, _, rfl, rfl, _, rfl, _, _, rfl, rfl, .inr ⟨by omega, by omega⟩, _, rfl, (by show 2 ≤ sizeLine; decide), fun t9 nt9 => ?_⟩
        have k9 : Kx [] J (upd J t9 (.tup [.int ((((i : Nat) : Int) + 1) * by_), sv])) := .new nt9
        have D9 : Dp K (upd J t9 (.tup [.int ((((i : Nat) : Int) + 1) * by_), sv])) (.ref t9) (lineD (((i : Int) + 1) * by_, relS by_ (.call n))) := tup_new nt9 (.cons (.int _) (.cons dsv .nil))
        have hpl9 := k9.same _ _ hpl
        have hacc9 := k9.dpAll _ hacc
        have hal2 : acc.length = i := by rw [dpa_len hacc, List.length_map, List.length_take]; have : (mkP by_ sts).length = sts.length := mkFrom_len by_ sts 0; omega
        refine ⟨pl, acc, _, rfl, rfl, hpl9, small1000 (by have := hok.few; omega), ?_⟩
        refine ⟨(kJ.trans k9).grow npl, acc ++ [.ref t9], _, _, rfl, upd_same, ?_⟩
        rw [hstep, List.map_append]
        exact dpa_up hpl9 _ (fun d hd => by
          rcases List.mem_append.mp hd with hd | hd
          · exact nol_lines _ d hd
          · exact nol_lines [_] d hd) (dpa_app hacc9 (.cons D9 .nil))
      · have hj := hok.jumps _ hmem
        obtain ⟨sa', v1, e1, hs2, dv1⟩ := dp_iff dx
        cases e1
        replace hj : 0 ≤ n ∧ n ≤ 100 := hj
        show if inV (.str "when") [.str "go", .str "call", .str "when"] = true then _ else _
        rw [show inV (.str "when") [.str "go", .str "call", .str "when"] = true by decide +kernel]
        refine iteT ?_
        refine ⟨_, rfl, _, rfl, _, rfl, sa, _, rfl, hs2, (fun e => absurd e.2 (by show ¬ 2 = 3; decide)), fun _ p3 np3 => ?_⟩
        rw [show cutV [V.str "when", v1, V.int n] none (some (-1)) = [V.str "when", v1] from rfl]
        have k3 : Kx [] J0 (upd J0 p3 (.tup [.str "when", v1])) := .new np3
        have t3 : SqT K (upd J0 p3 (.tup [.str "when", v1])) p3 [.str "when", v1] := .inl (.inl upd_same)
        refine ⟨_, rfl, _, rfl, sa, _, _, _, rfl, rfl, k3.sqT hs2, atI_last [V.str "when", v1] (V.int n), _, _, rfl, rfl, _, rfl, _, _, rfl, rfl, .inr ⟨by omega, by omega⟩, (by show 1 ≤ sizeLine; decide), fun p4 np4 => ?_⟩
        have k4 : Kx [] (upd J0 p3 (.tup [.str "when", v1])) (upd (upd J0 p3 (.tup [.str "when", v1])) p4 (.tup [.int ((n + 1) * by_)])) := .new np4
        have t4 : SqT K (upd (upd J0 p3 (.tup [.str "when", v1])) p4 (.tup [.int ((n + 1) * by_)])) p4 [.int ((n + 1) * by_)] := .inl (.inl upd_same)
        have t3' := k4.sqT t3
        refine ⟨p3, p4, _, _, rfl, rfl, t3', t4, (by show 2 + 1 ≤ sizeLine; decide), (fun z => nomatch z), (fun _ z => nomatch z), fun _ _ p5 np5 => ?_⟩
        have k5 : Kx [] (upd (upd J0 p3 (.tup [.str "when", v1])) p4 (.tup [.int ((n + 1) * by_)])) (upd (upd (upd J0 p3 (.tup [.str "when", v1])) p4 (.tup [.int ((n + 1) * by_)])) p5 (.tup ([.str "when", v1] ++ [.int ((n + 1) * by_)]))) := .new np5
        have k35 := (k3.trans k4).trans k5
        have t5 : SqT K (upd (upd (upd J0 p3 (.tup [.str "when", v1])) p4 (.tup [.int ((n + 1) * by_)])) p5 (.tup ([.str "when", v1] ++ [.int ((n + 1) * by_)]))) p5 [.str "when", v1, .int ((n + 1) * by_)] := .inl (.inl upd_same)
        have dsv : Dp K (upd (upd (upd J0 p3 (.tup [.str "when", v1])) p4 (.tup [.int ((n + 1) * by_)])) p5 (.tup ([.str "when", v1] ++ [.int ((n + 1) * by_)]))) (.ref p5) (smD (relS by_ (.iff e n))) := .tup t5 (.cons (.str _) (.cons (k35.dp _ dv1) (.cons (.int _) .nil)))
        have kJ := kJ0.trans k35
        replace hpl := k35.same _ _ hpl
        replace hacc := k35.dpAll _ hacc
        have ⟨sv, hsv⟩ : ∃ sv : V, sv = .ref p5 := ⟨_, rfl⟩
        rw [← hsv] at dsv
        generalize (upd (upd (upd J0 p3 (.tup [.str "when", v1])) p4 (.tup [.int ((n + 1) * by_)])) p5 (.tup ([.str "when", v1] ++ [.int ((n + 1) * by_)]))) = J at dsv kJ hpl hacc t5 ⊢
        simp only [List.set]
        subst hsv
        generalize hsv : (V.ref p5) = sv at dsv ⊢
        refine ⟨_, rfl, .inl ⟨rfl, _, .inl (.inl hpl)⟩, _, rfl, _, _, rfl, rfl, _, rfl, _, _, rfl, rfl, .inr ⟨by omega, by omega⟩, _, rfl, (by show 2 ≤ sizeLine; decide), fun t9 nt9 => ?_⟩
        have k9 : Kx [] J (upd J t9 (.tup [.int ((((i : Nat) : Int) + 1) * by_), sv])) := .new nt9
        have D9 : Dp K (upd J t9 (.tup [.int ((((i : Nat) : Int) + 1) * by_), sv])) (.ref t9) (lineD (((i : Int) + 1) * by_, relS by_ (.iff e n))) := tup_new nt9 (.cons (.int _) (.cons dsv .nil))
        have hpl9 := k9.same _ _ hpl
        have hacc9 := k9.dpAll _ hacc
        have hal2 : acc.length = i := by rw [dpa_len hacc, List.length_map, List.length_take]; have : (mkP by_ sts).length = sts.length := mkFrom_len by_ sts 0; omega
        refine ⟨pl, acc, _, rfl, rfl, hpl9, small1000 (by have := hok.few; omega), ?_⟩
        refine ⟨(kJ.trans k9).grow npl, acc ++ [.ref t9], _, _, rfl, upd_same, ?_⟩
        rw [hstep, List.map_append]
        exact dpa_up hpl9 _ (fun d hd => by
          rcases List.mem_append.mp hd with hd | hd
          · exact nol_lines _ d hd
          · exact nol_lines [_] d hd) (dpa_app hacc9 (.cons D9 .nil))
      · rw [hnj]
        refine iteF ?_
        rw [not_jump hnj by_] at hstep
        have dsv := dx
        have kJ := kJ0
        generalize J0 = J at *
        generalize hsv : (V.ref sa) = sv at dsv ⊢
        refine ⟨_, rfl, .inl ⟨rfl, _, .inl (.inl hpl)⟩, _, rfl, _, _, rfl, rfl, _, rfl, _, _, rfl, rfl, .inr ⟨by omega, by omega⟩, _, rfl, (by show 2 ≤ sizeLine; decide), fun t9 nt9 => ?_⟩
        have k9 : Kx [] J (upd J t9 (.tup [.int ((((i : Nat) : Int) + 1) * by_), sv])) := .new nt9
        have D9 : Dp K (upd J t9 (.tup [.int ((((i : Nat) : Int) + 1) * by_), sv])) (.ref t9) (lineD (((i : Int) + 1) * by_, st)) := tup_new nt9 (.cons (.int _) (.cons dsv .nil))
        have hpl9 := k9.same _ _ hpl
        have hacc9 := k9.dpAll _ hacc
        have hal2 : acc.length = i := by rw [dpa_len hacc, List.length_map, List.length_take]; have : (mkP by_ sts).length = sts.length := mkFrom_len by_ sts 0; omega
        refine ⟨pl, acc, _, rfl, rfl, hpl9, small1000 (by have := hok.few; omega), ?_⟩
        refine ⟨(kJ.trans k9).grow npl, acc ++ [.ref t9], _, _, rfl, upd_same, ?_⟩
        rw [hstep, List.map_append]
        exact dpa_up hpl9 _ (fun d hd => by
          rcases List.mem_append.mp hd with hd | hd
          · exact nol_lines _ d hd
          · exact nol_lines [_] d hd) (dpa_app hacc9 (.cons D9 .nil))
  · rintro σ H1 ⟨k1, acc, v3, v4, rfl, hpl, hacc⟩
    have hpl2 : (mkP by_ sts).length = xs.length := by rw [hxl]; exact mkFrom_len by_ sts 0
    rw [← hpl2, List.take_length] at hacc
    refine ⟨_, rfl, pl, acc, rfl, .inl (.inl hpl), fun t o nt ho => ?_⟩
    have kt : Kx [] H1 (upd H1 t (.frz o (.tup acc))) := .new nt
    have dt : Dp K (upd H1 t (.frz o (.tup acc))) (.ref t) (prD (mkP by_ sts)) := .tup (.inl (.inr ⟨o, upd_same⟩)) (kt.dpAll _ hacc)
    have k2 := k1.trans kt
    generalize upd H1 t (.frz o (.tup acc)) = H2 at k2 dt ⊢
    refine ⟨(by show 0 ≤ sizeLine; decide), fun l nl => ?_⟩
    have kl : Kx [] H2 (upd H2 l (.lst [])) := .new nl
    refine ⟨.ref t, .ref l, mkP by_ sts, s1, rfl, mkP_pr hok (kl.dp _ dt), hm, fun H3 t3 r n k3 ht3 hS => ?_⟩
    have k03 := (k2.trans kl).trans k3
    obtain ⟨⟨a, ba, ra, fa, pv, plv, fv, sdv, rfl, t1, t2, _, _, t5, _, t7, t8⟩, hsm⟩ := hS
    refine ⟨t3, _, rfl, ht3, rfl, _, _, rfl, _, _, rfl, rfl, ?_⟩
    simp only [List.set]
    obtain ⟨ps, hft, hpr⟩ := t2
    refine ⟨_, rfl, a, _, _, _, rfl, rfl, t1, atI_nat (j := 0) rfl, _, rfl, a, _, _, _, rfl, rfl, t1, atI_nat (j := 1) rfl, _, rfl, a, _, _, _, rfl, rfl, t1, atI_nat (j := 2) rfl, ba, ps, bxs s1.boxes, rfl, hft, pair_bxs hpr, fun bd nbd => ?_⟩
    rw [merge_bxs0 hsm.nd]
    have kb : Kx [] H3 (upd H3 bd (.dK (bxs s1.boxes))) := .new nbd
    have hb : upd H3 bd (.dK (bxs s1.boxes)) bd = some (.dK (bxs s1.boxes)) := upd_same
    generalize upd H3 bd (.dK (bxs s1.boxes)) = H4 at kb hb ⊢
    obtain ⟨sa, sxs, e8, hs8, hd8⟩ := dp_tup t8
    subst e8
    refine ⟨_, rfl, a, _, _, _, rfl, rfl, kb.sqT t1, atI_nat (j := 5) rfl, _, rfl, a, _, _, _, rfl, rfl, kb.sqT t1, atI_nat (j := 9) rfl, _, rfl, a, _, _, _, rfl, rfl, kb.sqT t1, atI_nat (j := 11) rfl, sa, _, rfl, .inr (kb.sqT hs8), fun l5 nl5 => ?_⟩
    have k5 : Kx [] H4 (upd H4 l5 (.lst sxs)) := .new nl5
    have hl5 : upd H4 l5 (.lst sxs) l5 = some (.lst sxs) := upd_same
    generalize upd H4 l5 (.lst sxs) = H5 at k5 hl5 ⊢
    refine ⟨(by show 6 ≤ sizeLine; decide), fun t6 nt6 => ?_⟩
    have k6 : Kx [] H5 (upd H5 t6 (.tup [.str s1.stand, .int s1.at_, .ref bd, pv, fv, .ref l5])) := .new nt6
    have k36 := (kb.trans k5).trans k6
    exact q _ t6 bd pv fv l5 sxs (k03.trans k36) (.inl (.inl upd_same)) ((k5.trans k6).same _ _ hb) (k36.dp _ t5) (k36.dp _ t7) (k6.same _ _ hl5) (k36.dpAll _ hd8) hsm.nd
end
end K31
/-! the law's programs -/
namespace K31
open PySem
abbrev bI : Ex := .lf (.box "i")
abbrev bJ : Ex := .lf (.box "j")
abbrev bC : Ex := .lf (.box "c")
def nestS (a b c a' b' c' : Int) : List Sm := [loopS "i" a b c, loopS "j" a' b' c', .say [bI, bJ], .again "j", .again "i", .say [bI], .fin]
def outS (a b c a' b' c' : Int) : List Sm := [loopS "i" a b c, loopS "j" a' b' c', .say [bI, bJ], .again "i", .fin]
def begS (last turn : Int) : List Sm := [.set "c" (.lf (.num 0)), loopS "i" 1 last 1, .set "c" (.add (.box "c") (.num 1)), .iff (.eq (.box "c") (.num turn)) 1, .again "i", .say [bC, bI], .stop]
def awayS (last turn : Int) : List Sm := [.set "c" (.lf (.num 0)), loopS "i" 1 last 1, .set "c" (.add (.box "c") (.num 1)), .iff (.eq (.box "c") (.num turn)) 5, .again "i", .say [bC, bI], .stop]
def callS (many a b c : Int) (x : Str) : List Sm := [loopS "j" 1 many 1, .call 5, .say [bI], .again "j", .fin, loopS "i" a b c, .again x, .back]
def earlyS (many a b c : Int) : List Sm := [loopS "j" 1 many 1, .call 5, .say [bI], .again "j", .fin, loopS "i" a b c, .back, .again "i", .back]
def sameS (many more : Int) : List Sm := [loopS "i" 1 many 1, .call 5, .again "i", .say [bI], .fin, loopS "i" 5 (5 + more) 1, .say [bI], .again "i", .back]
def runM (by_ : Int) (sts : List Sm) : Option Sx := walkM (mkP by_ sts) 1000 (firstM (mkP by_ sts))
/-- a loop's beginning, end and step as they are drawn -/
structure Drn (a b c : Int) : Prop where
  a0 : -3 ≤ a
  a1 : a ≤ 4
  b0 : -3 ≤ b
  b1 : b ≤ 4
  c : c ∈ ([1, 2, -1, -2, 7] : List Int)
abbrev Bys : List Int := [10, 1, 7, 500]
def numOk (a b c : Int) : Bool := match roundsF 100 a b c with
  | some (l, z) => decide (l.length ≤ 8) && (l.all (fun x => decide (x.natAbs ≤ 20)) && decide (z.natAbs ≤ 20))
  | none => false
theorem num_all : (List.range 8).all (fun i => (List.range 8).all fun j => ([1, 2, -1, -2, 7] : List Int).all fun c => numOk ((i : Int) - 3) ((j : Int) - 3) c) = true := by decide +kernel
theorem num_ok {a b c : Int} (h : Drn a b c) : ∃ l z, roundsF 100 a b c = some (l, z) ∧ l.length ≤ 8 ∧ (∀ x ∈ l, x.natAbs ≤ 20) ∧ z.natAbs ≤ 20 := by
  have k := List.all_eq_true.mp num_all (a + 3).toNat (List.mem_range.mpr (by have := h.a0; have := h.a1; omega))
  have k2 := List.all_eq_true.mp k (b + 3).toNat (List.mem_range.mpr (by have := h.b0; have := h.b1; omega))
  have k3 := List.all_eq_true.mp k2 c h.c
  rw [show (((a + 3).toNat : Nat) : Int) - 3 = a by have := h.a0; omega, show (((b + 3).toNat : Nat) : Int) - 3 = b by have := h.b0; omega] at k3
  unfold numOk at k3
  cases e : roundsF 100 a b c with
  | none => rw [e] at k3; cases k3
  | some r =>
    obtain ⟨l, z⟩ := r
    rw [e] at k3
    obtain ⟨k4, k5⟩ := Bool.and_eq_true_iff.mp k3
    obtain ⟨k6, k7⟩ := Bool.and_eq_true_iff.mp k5
    exact ⟨l, z, rfl, of_decide_eq_true k4, fun x hx => of_decide_eq_true (List.all_eq_true.mp k6 x hx), of_decide_eq_true k7⟩
end K31
namespace K31
open PySem
def sxB (r : Option Sx) (t : Sx) : Bool := match r with
  | some s => decide (s.stand = t.stand) && (decide (s.at_ = t.at_) && (decide (s.boxes = t.boxes) && (decide (s.pile = t.pile) && (decide (s.fault = t.fault) && decide (s.said = t.said)))))
  | none => false
theorem sx_eq {r : Option Sx} {t : Sx} (h : sxB r t = true) : r = some t := by
  cases r with
  | none => cases h
  | some s =>
    obtain ⟨h1, h⟩ := Bool.and_eq_true_iff.mp h
    obtain ⟨h2, h⟩ := Bool.and_eq_true_iff.mp h
    obtain ⟨h3, h⟩ := Bool.and_eq_true_iff.mp h
    obtain ⟨h4, h⟩ := Bool.and_eq_true_iff.mp h
    obtain ⟨h5, h6⟩ := Bool.and_eq_true_iff.mp h
    cases s
    cases t
    cases of_decide_eq_true h1
    cases of_decide_eq_true h2
    cases of_decide_eq_true h3
    cases of_decide_eq_true h4
    cases of_decide_eq_true h5
    cases of_decide_eq_true h6
    rfl
def begT (last turn : Int) : Sx := ⟨"ended", 0, [("c", last + (if turn ≤ last then turn else 0)), ("i", last + 1)], [], none, [[last + (if turn ≤ last then turn else 0), last + 1]]⟩
theorem beg_one : sxB (runM 10 (begS 3 2)) (begT 3 2) = true := by decide +kernel
end K31
/-! finitely many: a loop begun again, one left by a jump -/
namespace K31
open PySem
theorem beg_all : Bys.all (fun b => (List.range 5).all fun i => (List.range 7).all fun j => sxB (runM b (begS ((i : Int) + 1) ((j : Int) + 1))) (begT ((i : Int) + 1) ((j : Int) + 1))) = true := by decide +kernel
def awayT (b last turn : Int) : Sx := if turn ≤ last then ⟨"ended", 0, [("c", turn), ("i", turn)], [.loop "i" (2 * b) last 1], none, [[turn, turn]]⟩ else ⟨"ended", 0, [("c", last), ("i", last + 1)], [], none, [[last, last + 1]]⟩
theorem away_all : Bys.all (fun b => (List.range 5).all fun i => (List.range 7).all fun j => sxB (runM b (awayS ((i : Int) + 1) ((j : Int) + 1))) (awayT b ((i : Int) + 1) ((j : Int) + 1))) = true := by decide +kernel
theorem two_all {f : Int → Int → Int → Bool} (h : Bys.all (fun b => (List.range 5).all fun i => (List.range 7).all fun j => f b ((i : Int) + 1) ((j : Int) + 1)) = true) {last turn by_ : Int} (h1 : 1 ≤ last) (h2 : last ≤ 5) (h3 : 1 ≤ turn) (h4 : turn ≤ 7) (hb : by_ ∈ Bys) : f by_ last turn = true := by
  have k := List.all_eq_true.mp h by_ hb
  have k2 := List.all_eq_true.mp k (last - 1).toNat (List.mem_range.mpr (by omega))
  have k3 := List.all_eq_true.mp k2 (turn - 1).toNat (List.mem_range.mpr (by omega))
  rw [show (((last - 1).toNat : Nat) : Int) + 1 = last by omega, show (((turn - 1).toNat : Nat) : Int) + 1 = turn by omega] at k3
  exact k3
theorem beg_law {last turn by_ : Int} (h1 : 1 ≤ last) (h2 : last ≤ 5) (h3 : 1 ≤ turn) (h4 : turn ≤ 7) (hb : by_ ∈ Bys) :
    runM by_ (begS last turn) = some ⟨"ended", 0, [("c", last + (if turn ≤ last then turn else 0)), ("i", last + 1)], [], none, [[last + (if turn ≤ last then turn else 0), last + 1]]⟩ :=
  sx_eq (two_all (f := fun b l t => sxB (runM b (begS l t)) (begT l t)) beg_all h1 h2 h3 h4 hb)
theorem away_law {last turn by_ : Int} (h1 : 1 ≤ last) (h2 : last ≤ 5) (h3 : 1 ≤ turn) (h4 : turn ≤ 7) (hb : by_ ∈ Bys) :
    runM by_ (awayS last turn) = if turn ≤ last then some ⟨"ended", 0, [("c", turn), ("i", turn)], [.loop "i" (2 * by_) last 1], none, [[turn, turn]]⟩ else some ⟨"ended", 0, [("c", last), ("i", last + 1)], [], none, [[last, last + 1]]⟩ := by
  have k := sx_eq (two_all (f := fun b l t => sxB (runM b (awayS l t)) (awayT b l t)) away_all h1 h2 h3 h4 hb)
  rw [k]
  unfold awayT
  split <;> rfl
end K31
namespace K31
open PySem
def sameT (more : Int) : Sx := ⟨"ended", 0, [("i", 7 + more)], [], none, ((List.range (more.toNat + 1)).map fun (k : Nat) => [5 + (k : Int)]) ++ [[7 + more]]⟩
theorem same_all : Bys.all (fun b => (List.range 4).all fun i => (List.range 3).all fun j => sxB (runM b (sameS ((i : Int) + 1) (j : Int))) (sameT (j : Int))) = true := by decide +kernel
theorem same_law {many more by_ : Int} (h1 : 1 ≤ many) (h2 : many ≤ 4) (h3 : 0 ≤ more) (h4 : more ≤ 2) (hb : by_ ∈ Bys) :
    runM by_ (sameS many more) = some ⟨"ended", 0, [("i", 7 + more)], [], none, ((List.range (more.toNat + 1)).map fun (k : Nat) => [5 + (k : Int)]) ++ [[7 + more]]⟩ := by
  have k := List.all_eq_true.mp same_all by_ hb
  have k2 := List.all_eq_true.mp k (many - 1).toNat (List.mem_range.mpr (by omega))
  have k3 := List.all_eq_true.mp k2 more.toNat (List.mem_range.mpr (by omega))
  rw [show (((many - 1).toNat : Nat) : Int) + 1 = many by omega, show ((more.toNat : Nat) : Int) = more by omega] at k3
  exact sx_eq k3
end K31
/-! steps of the mirror, one by one -/
namespace K31
open PySem
def RunK (p : Pr) : Nat → Sx → Sx → Prop
  | 0, s, s' => s = s'
  | k + 1, s, s' => s.stand = going ∧ ∃ s1, stepM p s = some s1 ∧ RunK p k s1 s'
theorem RunK.trans {p : Pr} : ∀ {j k : Nat} {s s1 s' : Sx}, RunK p j s s1 → RunK p k s1 s' → RunK p (j + k) s s'
  | 0, k, s, s1, s', h, h' => by
    rw [Nat.zero_add]
    have e : s = s1 := h
    rw [e]
    exact h'
  | j + 1, k, s, s1, s', h, h' => by
    obtain ⟨hg, s2, h1, h2⟩ := h
    rw [show j + 1 + k = (j + k) + 1 by omega]
    exact ⟨hg, s2, h1, RunK.trans h2 h'⟩
theorem RunK.one {p : Pr} {s s1 : Sx} (hg : s.stand = going) (h : stepM p s = some s1) : RunK p 1 s s1 := ⟨hg, s1, h, rfl⟩
theorem RunK.ends {p : Pr} : ∀ {k n : Nat} {s s' : Sx}, RunK p k s s' → ¬ s'.stand = going → k ≤ n → walkM p n s = some s'
  | 0, n, s, s', h, hs, _ => by
    have e : s = s' := h
    rw [e]
    unfold walkM
    rw [if_neg hs]
  | k + 1, n, s, s', h, hs, hn => by
    obtain ⟨hg, s2, h1, h2⟩ := h
    obtain ⟨m, rfl⟩ : ∃ m, n = m + 1 := ⟨n - 1, by omega⟩
    unfold walkM
    rw [if_pos hg, h1]
    exact RunK.ends h2 hs (by omega)
abbrev Gs (n : Int) (bs : List (Str × Int)) (pile : List Fr) (said : List (List Int)) : Sx := ⟨going, n, bs, pile, none, said⟩
theorem ex_num (bs : List (Str × Int)) {n : Int} (h : n.natAbs ≤ 1000) : exM bs (numE n) = some n := by
  unfold numE
  by_cases z : n < 0
  · rw [if_pos z]
    simp only [exM, lfM, within]
    rw [if_pos (by omega)]
    congr 1
    omega
  · rw [if_neg z]
    rfl
theorem behind_ne {p : Pr} {s : Sx} {n m : Int} (h : lineBehind p n = m) (hm : m ≠ 0) : goBehind p s n = { s with at_ := m } := by
  unfold goBehind
  rw [h, if_neg hm]
section
variable {p : Pr} {n m : Int} {bs : List (Str × Int)} {pile : List Fr} {said : List (List Int)}
theorem step_say {es : List Ex} {ws : List Int} (hl : lineOf p n = some (n, .say es)) (hw : exsM bs es = some ws) (hs : said.length < 5000) (hb : lineBehind p n = m) (hm : m ≠ 0) :
    stepM p (Gs n bs pile said) = some (Gs m (sortB bs) pile (said ++ [ws])) := by
  unfold stepM
  simp only [hl, exsOf, hw, lineM, if_pos hs, behind_ne hb hm]
theorem step_in {x : Str} {a b c : Int} (hl : lineOf p n = some (n, loopS x a b c)) (ha : a.natAbs ≤ 1000) (hb' : b.natAbs ≤ 1000) (hc' : c.natAbs ≤ 1000) (hc : c ≠ 0) (hbe : beyond a b c = false) (hbs : bs.length < 60) (hp : pile.length < 50)
    (hb : lineBehind p n = m) (hm : m ≠ 0) : stepM p (Gs n bs pile said) = some (Gs m (sortB (putB bs x a)) (leftOf pile x ++ [.loop x n b c]) said) := by
  have hlen : (leftOf pile x).length < 50 := by
    unfold leftOf
    split
    · rw [List.length_take]; omega
    · exact hp
  unfold stepM
  simp only [hl, loopS, exsOf, exsM, ex_num bs ha, ex_num bs hb', ex_num bs hc', lineM, loopBegun]
  rw [if_neg (fun z => z.elim hc (fun z => by omega)), if_pos hbe, if_pos hlen]
  simp only [behind_ne hb hm]
theorem step_out {x : Str} {a b c k : Int} (hl : lineOf p n = some (n, loopS x a b c)) (ha : a.natAbs ≤ 1000) (hb' : b.natAbs ≤ 1000) (hc' : c.natAbs ≤ 1000) (hc : c ≠ 0) (hbe : beyond a b c = true) (hbs : bs.length < 60)
    (hag : againBehind p n x = some k) (hb : lineBehind p k = m) (hm : m ≠ 0) : stepM p (Gs n bs pile said) = some (Gs m (sortB (putB bs x a)) (leftOf pile x) said) := by
  unfold stepM
  simp only [hl, loopS, exsOf, exsM, ex_num bs ha, ex_num bs hb', ex_num bs hc', lineM, loopBegun]
  rw [if_neg (fun z => z.elim hc (fun z => by omega)), if_neg (by rw [hbe]; exact fun z => nomatch z), hag]
  simp only [behind_ne hb hm]
theorem step_none {x : Str} {a b c : Int} (hl : lineOf p n = some (n, loopS x a b c)) (ha : a.natAbs ≤ 1000) (hb' : b.natAbs ≤ 1000) (hc' : c.natAbs ≤ 1000) (hc : c ≠ 0) (hbe : beyond a b c = true) (hbs : bs.length < 60)
    (hag : againBehind p n x = none) (h0 : hasLine p 0 = false) : stepM p (Gs n bs pile said) = some ⟨"faulted", n, bs, pile, some ("again", n), said⟩ := by
  unfold stepM
  simp only [hl, loopS, exsOf, exsM, ex_num bs ha, ex_num bs hb', ex_num bs hc', lineM, loopBegun]
  rw [if_neg (fun z => z.elim hc (fun z => by omega)), if_neg (by rw [hbe]; exact fun z => nomatch z), hag]
  simp [h0]
theorem step_on {x y : Str} {j : Nat} {k b c v : Int} (hl : lineOf p n = some (n, .again x)) (hcl : closedAt pile x pile.length = some j) (hf : pile[j]? = some (.loop y k b c)) (hv : look bs x = some v) (hz : (v + c).natAbs ≤ 1000) (hbs : bs.length < 60)
    (hbe : beyond (v + c) b c = false) (hb : lineBehind p k = m) (hm : m ≠ 0) : stepM p (Gs n bs pile said) = some (Gs m (sortB (putB bs x (v + c))) (pile.take j ++ [.loop x k b c]) said) := by
  unfold stepM
  simp only [hl, exsOf, exsM, lineM, loopAgain, hcl, hf, hv]
  rw [if_pos ⟨by omega, hbs⟩, if_neg (by rw [hbe]; exact fun z => nomatch z)]
  simp only [behind_ne hb hm]
theorem step_over {x y : Str} {j : Nat} {k b c v : Int} (hl : lineOf p n = some (n, .again x)) (hcl : closedAt pile x pile.length = some j) (hf : pile[j]? = some (.loop y k b c)) (hv : look bs x = some v) (hz : (v + c).natAbs ≤ 1000) (hbs : bs.length < 60)
    (hbe : beyond (v + c) b c = true) (hb : lineBehind p n = m) (hm : m ≠ 0) : stepM p (Gs n bs pile said) = some (Gs m (sortB (putB bs x (v + c))) (pile.take j) said) := by
  unfold stepM
  simp only [hl, exsOf, exsM, lineM, loopAgain, hcl, hf, hv]
  rw [if_pos ⟨by omega, hbs⟩, if_pos hbe]
  simp only [behind_ne hb hm]
theorem step_again0 {x : Str} (hl : lineOf p n = some (n, .again x)) (hcl : closedAt pile x pile.length = none) (h0 : hasLine p 0 = false) : stepM p (Gs n bs pile said) = some ⟨"faulted", n, bs, pile, some ("again", n), said⟩ := by
  unfold stepM
  simp only [hl, exsOf, exsM, lineM, loopAgain, hcl, h0]
  simp
theorem step_fin (hl : lineOf p n = some (n, .fin)) : stepM p (Gs n bs pile said) = some ⟨"ended", 0, sortB bs, pile, none, said⟩ := by
  unfold stepM
  simp only [hl, exsOf, exsM, lineM]
theorem step_call {t : Int} (hl : lineOf p n = some (n, .call t)) (ht : hasLine p t = true) (hp : pile.length < 50) : stepM p (Gs n bs pile said) = some (Gs t (sortB bs) (pile ++ [.call n]) said) := by
  unfold stepM
  simp only [hl, exsOf, exsM, lineM, if_pos (And.intro ht hp)]
theorem step_back {j : Nat} {k : Int} (hl : lineOf p n = some (n, .back)) (hc : callAt pile pile.length = some j) (hf : pile[j]? = some (.call k)) (hb : lineBehind p k = m) (hm : m ≠ 0) : stepM p (Gs n bs pile said) = some (Gs m (sortB bs) (pile.take j) said) := by
  unfold stepM
  simp only [hl, exsOf, exsM, lineM, hc, hf, behind_ne hb hm]
end
theorem goes_beyond {a b c : Int} (hc : c ≠ 0) : goes a b c = !beyond a b c := by
  unfold goes beyond
  by_cases h : 0 < c
  · rw [if_pos h]
    by_cases k : a ≤ b
    · simp [h, k, show ¬ b < a by omega]
    · simp [k, show b < a by omega, show ¬ c < 0 by omega]
  · rw [if_neg h]
    by_cases k : b ≤ a
    · simp [h, k, show ¬ a < b by omega, show c < 0 by omega]
    · simp [k, show a < b by omega, show ¬ 0 < c by omega]
end K31
/-! the outer loop closed while the inner one stands -/
namespace K31
open PySem
theorem rz_cons {k : Nat} {y b c z y' : Int} {r : List Int} (h : roundsF k y b c = some (y' :: r, z)) : goes y b c = true ∧ y' = y ∧ ∃ j, roundsF j (y + c) b c = some (r, z) := by
  unfold roundsF at h
  cases hg : goes y b c with
  | false =>
    rw [if_neg (by rw [hg]; exact fun z => nomatch z)] at h
    cases h
  | true =>
    rw [if_pos hg] at h
    cases k with
    | zero => cases h
    | succ j =>
      cases e : roundsF j (y + c) b c with
      | none => simp only [e] at h; cases h
      | some q =>
        obtain ⟨l', z'⟩ := q
        simp only [e] at h
        cases h
        exact ⟨rfl, rfl, j, e⟩
theorem rz_nil {k : Nat} {y b c z : Int} (h : roundsF k y b c = some ([], z)) : goes y b c = false ∧ z = y := by
  unfold roundsF at h
  cases hg : goes y b c with
  | false =>
    rw [if_neg (by rw [hg]; exact fun z => nomatch z)] at h
    cases h
    exact ⟨rfl, rfl⟩
  | true =>
    rw [if_pos hg] at h
    cases k with
    | zero => cases h
    | succ j =>
      cases e : roundsF j (y + c) b c with
      | none => simp only [e] at h; cases h
      | some q =>
        obtain ⟨l', z'⟩ := q
        simp only [e] at h
        cases h
structure OutL (by_ a b c a' b' c' : Int) (p : Pr) : Prop where
  l1 : lineOf p by_ = some (by_, loopS "i" a b c)
  l2 : lineOf p (2 * by_) = some (2 * by_, loopS "j" a' b' c')
  l3 : lineOf p (3 * by_) = some (3 * by_, .say [bI, bJ])
  l4 : lineOf p (4 * by_) = some (4 * by_, .again "i")
  l5 : lineOf p (5 * by_) = some (5 * by_, .fin)
  b1 : lineBehind p by_ = 2 * by_
  b2 : lineBehind p (2 * by_) = 3 * by_
  b3 : lineBehind p (3 * by_) = 4 * by_
  b4 : lineBehind p (4 * by_) = 5 * by_
  g1 : againBehind p by_ "i" = some (4 * by_)
  g2 : againBehind p (2 * by_) "j" = none
  h0 : hasLine p 0 = false
  f : firstM p = Gs by_ [] [] []
  n : by_ ≠ 0
theorem out_lay {by_ : Int} (hb : by_ ∈ Bys) (a b c a' b' c' : Int) : OutL by_ a b c a' b' c' (mkP by_ (outS a b c a' b' c')) := by
  simp only [Bys, List.mem_cons, List.not_mem_nil, or_false] at hb
  rcases hb with rfl | rfl | rfl | rfl <;>
    exact ⟨by kernel_rfl, by kernel_rfl, by kernel_rfl, by kernel_rfl, by kernel_rfl, by kernel_rfl, by kernel_rfl, by kernel_rfl, by kernel_rfl, by kernel_rfl, by kernel_rfl, by kernel_rfl, by kernel_rfl, by decide⟩
theorem c_ok {c : Int} (h : c ∈ ([1, 2, -1, -2, 7] : List Int)) : c ≠ 0 ∧ c.natAbs ≤ 10 := by
  simp only [List.mem_cons, List.not_mem_nil, or_false] at h
  rcases h with rfl | rfl | rfl | rfl | rfl <;> decide
abbrev B1 (x : Int) : List (Str × Int) := [("i", x)]
abbrev B2 (x w : Int) : List (Str × Int) := [("i", x), ("j", w)]
theorem srt_i (x : Int) : sortB (putB [] "i" x) = (B1 x) := by kernel_rfl
theorem srt_j1 (x y : Int) : sortB (putB (B1 x) "j" y) = (B2 x y) := by kernel_rfl
theorem srt_j2 (x w y : Int) : sortB (putB (B2 x w) "j" y) = (B2 x y) := by kernel_rfl
theorem srt_i2 (x w y : Int) : sortB (putB (B2 x w) "i" y) = (B2 y w) := by kernel_rfl
theorem srt_ij (x w : Int) : sortB (B2 x w) = (B2 x w) := by kernel_rfl
theorem srt_1 (x : Int) : sortB (B1 x) = (B1 x) := by kernel_rfl
theorem lk_i (x w : Int) : look (B2 x w) "i" = some x := by kernel_rfl
theorem ws_ij (x w : Int) : exsM (B2 x w) [bI, bJ] = some [x, w] := by kernel_rfl
theorem out_loop {p : Pr} {by_ a b c a' b' c' z : Int} (L : OutL by_ a b c a' b' c' p) (hc : c ≠ 0) (hc' : c' ≠ 0) (ba : a'.natAbs ≤ 20) (bb : b'.natAbs ≤ 20) (bc : c'.natAbs ≤ 20) (hin : beyond a' b' c' = false) (hz : z.natAbs ≤ 20) :
    ∀ (r : List Int) (k : Nat) (x : Int) (B : List (Str × Int)) (acc : List (List Int)), roundsF k x b c = some (x :: r, z) → (∀ y ∈ x :: r, y.natAbs ≤ 20) → acc.length + r.length ≤ 1000 → (B = (B1 x) ∨ ∃ w, B = (B2 x w)) →
      RunK p (3 * (r.length + 1)) (Gs (2 * by_) B [.loop "i" by_ b c] acc) (Gs (5 * by_) (B2 z a') [] (acc ++ (x :: r).map fun y => [y, a'])) := by
  have hn := L.n
  intro r
  induction r with
  | nil =>
    intro k x B acc hr hy hacc hB
    obtain ⟨_, _, j, hr2⟩ := rz_cons hr
    obtain ⟨hg, rfl⟩ := rz_nil hr2
    rw [goes_beyond hc] at hg
    have hbe : beyond (x + c) b c = true := by simpa using hg
    have eB : sortB (putB B "j" a') = (B2 x a') := by rcases hB with rfl | ⟨w, rfl⟩ <;> kernel_rfl
    have hBl : B.length < 60 := by rcases hB with rfl | ⟨w, rfl⟩ <;> (show _ < 60; simp)
    have s1 := step_in (p := p) (n := 2 * by_) (bs := B) (pile := [.loop "i" by_ b c]) (said := acc) L.l2 (by omega) (by omega) (by omega) hc' hin hBl (by simp) L.b2 (by omega)
    rw [eB, show leftOf [Fr.loop "i" by_ b c] "j" ++ [.loop "j" (2 * by_) b' c'] = [.loop "i" by_ b c, .loop "j" (2 * by_) b' c'] by kernel_rfl] at s1
    have s2 := step_say (p := p) (n := 3 * by_) (pile := [.loop "i" by_ b c, .loop "j" (2 * by_) b' c']) (said := acc) L.l3 (ws_ij x a') (by simp only [List.length_cons, List.length_nil] at hacc; omega) L.b3 (by omega)
    rw [srt_ij] at s2
    have s3 := step_over (p := p) (n := 4 * by_) (bs := (B2 x a')) (pile := [.loop "i" by_ b c, .loop "j" (2 * by_) b' c']) (said := acc ++ [[x, a']]) (j := 0) L.l4 (by kernel_rfl) rfl (lk_i x a') (by omega) (by show 2 < 60; decide) hbe L.b4 (by omega)
    rw [srt_i2, List.take_zero] at s3
    exact (RunK.one rfl s1).trans ((RunK.one rfl s2).trans (RunK.one rfl s3))
  | cons x2 r ih =>
    intro k x B acc hr hy hacc hB
    obtain ⟨_, _, j, hr2⟩ := rz_cons hr
    obtain ⟨hg, e2, _⟩ := rz_cons hr2
    subst e2
    rw [goes_beyond hc] at hg
    have hbe : beyond (x + c) b c = false := by simpa using hg
    have hx2 : (x + c).natAbs ≤ 20 := hy _ (by simp)
    have eB : sortB (putB B "j" a') = (B2 x a') := by rcases hB with rfl | ⟨w, rfl⟩ <;> kernel_rfl
    have hBl : B.length < 60 := by rcases hB with rfl | ⟨w, rfl⟩ <;> (show _ < 60; simp)
    have s1 := step_in (p := p) (n := 2 * by_) (bs := B) (pile := [.loop "i" by_ b c]) (said := acc) L.l2 (by omega) (by omega) (by omega) hc' hin hBl (by simp) L.b2 (by omega)
    rw [eB, show leftOf [Fr.loop "i" by_ b c] "j" ++ [.loop "j" (2 * by_) b' c'] = [.loop "i" by_ b c, .loop "j" (2 * by_) b' c'] by kernel_rfl] at s1
    have s2 := step_say (p := p) (n := 3 * by_) (pile := [.loop "i" by_ b c, .loop "j" (2 * by_) b' c']) (said := acc) L.l3 (ws_ij x a') (by simp only [List.length_cons, List.length_nil] at hacc; omega) L.b3 (by omega)
    rw [srt_ij] at s2
    have s3 := step_on (p := p) (n := 4 * by_) (bs := (B2 x a')) (pile := [.loop "i" by_ b c, .loop "j" (2 * by_) b' c']) (said := acc ++ [[x, a']]) (j := 0) L.l4 (by kernel_rfl) rfl (lk_i x a') (by omega) (by show 2 < 60; decide) hbe L.b1 (by omega)
    rw [srt_i2, List.take_zero, List.nil_append] at s3
    have s4 := ih j (x + c) (B2 (x + c) a') (acc ++ [[x, a']]) hr2 (fun y h => hy y (List.mem_cons_of_mem _ h)) (by rw [List.length_append]; simp only [List.length_cons, List.length_nil] at hacc ⊢; omega) (.inr ⟨a', rfl⟩)
    rw [List.append_assoc] at s4
    have k4 := (RunK.one rfl s1).trans ((RunK.one rfl s2).trans ((RunK.one rfl s3).trans s4))
    rw [show 1 + (1 + (1 + 3 * (r.length + 1))) = 3 * (((x + c) :: r).length + 1) by simp only [List.length_cons]; omega] at k4
    exact k4
end K31
namespace K31
open PySem
theorem rz_all {k : Nat} {a b c z : Int} {l : List Int} (h : roundsF k a b c = some (l, z)) : (l = [] ∧ goes a b c = false ∧ z = a) ∨ ∃ r, l = a :: r ∧ goes a b c = true := by
  cases l with
  | nil =>
    obtain ⟨h1, h2⟩ := rz_nil h
    exact .inl ⟨rfl, h1, h2⟩
  | cons x r =>
    obtain ⟨h1, h2, _⟩ := rz_cons h
    exact .inr ⟨r, by rw [h2], h1⟩
theorem not_going (x : Str) (h : ¬ x = going) {n : Int} {bs : List (Str × Int)} {p : List Fr} {f : Option (Str × Int)} {s : List (List Int)} : ¬ (Sx.mk x n bs p f s).stand = going := h
theorem ne_ended : ¬ ("ended" : Str) = going := by decide +kernel
theorem ne_faulted : ¬ ("faulted" : Str) = going := by decide +kernel
theorem out_law {a b c a' b' c' by_ z z' : Int} {l l' : List Int} (h : Drn a b c) (h' : Drn a' b' c') (hb : by_ ∈ Bys) (r : roundsF 100 a b c = some (l, z)) (r' : roundsF 100 a' b' c' = some (l', z')) :
    runM by_ (outS a b c a' b' c') = if l ≠ [] ∧ l' = [] then some ⟨"faulted", 2 * by_, [("i", a)], [.loop "i" by_ b c], some ("again", 2 * by_), []⟩
      else some ⟨"ended", 0, if l = [] then [("i", z)] else [("i", z), ("j", a')], [], none, l.map fun x => [x, a']⟩ := by
  have L := out_lay hb a b c a' b' c'
  obtain ⟨l0, z0, e0, hlen, hx, hz⟩ := num_ok h
  rw [r] at e0
  cases e0
  obtain ⟨hc, hc10⟩ := c_ok h.c
  obtain ⟨hc', hc10'⟩ := c_ok h'.c
  have hn := L.n
  have A0 := h.a0
  have A1 := h.a1
  have B0 := h.b0
  have B1' := h.b1
  have A0' := h'.a0
  have A1' := h'.a1
  have B0' := h'.b0
  have B1'' := h'.b1
  unfold runM
  rw [L.f]
  rcases rz_all r with ⟨rfl, hg, rfl⟩ | ⟨q, rfl, hg⟩
  · rw [goes_beyond hc] at hg
    have hbe : beyond z b c = true := by simpa using hg
    have s1 := step_out (n := by_) (bs := []) (pile := []) (said := []) L.l1 (by omega) (by omega) (by omega) hc hbe (by decide) L.g1 L.b4 (by omega)
    rw [srt_i, show leftOf [] "i" = [] by kernel_rfl] at s1
    have s2 := step_fin (n := 5 * by_) (bs := B1 z) (pile := []) (said := []) L.l5
    rw [srt_1] at s2
    rw [if_neg (fun k => k.1 rfl), if_pos rfl]
    exact RunK.ends ((RunK.one rfl s1).trans (RunK.one rfl s2)) (not_going _ ne_ended) (by decide)
  · rw [goes_beyond hc] at hg
    have hbe : beyond a b c = false := by simpa using hg
    have s1 := step_in (n := by_) (bs := []) (pile := []) (said := []) L.l1 (by omega) (by omega) (by omega) hc hbe (by decide) (by decide) L.b1 (by omega)
    rw [srt_i, show leftOf [] "i" ++ [Fr.loop "i" by_ b c] = [.loop "i" by_ b c] by kernel_rfl] at s1
    rcases rz_all r' with ⟨rfl, hg', _⟩ | ⟨q', rfl, hg'⟩
    · rw [goes_beyond hc'] at hg'
      have hbe' : beyond a' b' c' = true := by simpa using hg'
      have s2 := step_none (n := 2 * by_) (bs := B1 a) (pile := [.loop "i" by_ b c]) (said := []) L.l2 (by omega) (by omega) (by omega) hc' hbe' (by show 1 < 60; decide) L.g2 L.h0
      rw [if_pos ⟨(fun k => nomatch k), rfl⟩]
      exact RunK.ends ((RunK.one rfl s1).trans (RunK.one rfl s2)) (not_going _ ne_faulted) (by decide)
    · rw [goes_beyond hc'] at hg'
      have hbe' : beyond a' b' c' = false := by simpa using hg'
      have s2 := out_loop L hc hc' (by omega) (by omega) (by omega) hbe' hz q 100 a (B1 a) [] r hx (by simp only [List.length_cons, List.length_nil] at hlen ⊢; omega) (.inl rfl)
      rw [List.nil_append] at s2
      have s3 := step_fin (n := 5 * by_) (bs := B2 z a') (pile := []) (said := (a :: q).map fun y => [y, a']) L.l5
      rw [srt_ij] at s3
      rw [if_neg (fun k => nomatch k.2), if_neg (fun k => nomatch k)]
      exact RunK.ends ((RunK.one rfl s1).trans (s2.trans (RunK.one rfl s3))) (not_going _ ne_ended) (by simp only [List.length_cons] at hlen; omega)
end K31
/-! loops in one another -/
namespace K31
open PySem
structure NestL (by_ a b c a' b' c' : Int) (p : Pr) : Prop where
  l1 : lineOf p by_ = some (by_, loopS "i" a b c)
  l2 : lineOf p (2 * by_) = some (2 * by_, loopS "j" a' b' c')
  l3 : lineOf p (3 * by_) = some (3 * by_, .say [bI, bJ])
  l4 : lineOf p (4 * by_) = some (4 * by_, .again "j")
  l5 : lineOf p (5 * by_) = some (5 * by_, .again "i")
  l6 : lineOf p (6 * by_) = some (6 * by_, .say [bI])
  l7 : lineOf p (7 * by_) = some (7 * by_, .fin)
  b1 : lineBehind p by_ = 2 * by_
  b2 : lineBehind p (2 * by_) = 3 * by_
  b3 : lineBehind p (3 * by_) = 4 * by_
  b4 : lineBehind p (4 * by_) = 5 * by_
  b5 : lineBehind p (5 * by_) = 6 * by_
  b6 : lineBehind p (6 * by_) = 7 * by_
  g1 : againBehind p by_ "i" = some (5 * by_)
  g2 : againBehind p (2 * by_) "j" = some (4 * by_)
  f : firstM p = Gs by_ [] [] []
  n : by_ ≠ 0
theorem nest_lay {by_ : Int} (hb : by_ ∈ Bys) (a b c a' b' c' : Int) : NestL by_ a b c a' b' c' (mkP by_ (nestS a b c a' b' c')) := by
  simp only [Bys, List.mem_cons, List.not_mem_nil, or_false] at hb
  rcases hb with rfl | rfl | rfl | rfl <;>
    exact ⟨by kernel_rfl, by kernel_rfl, by kernel_rfl, by kernel_rfl, by kernel_rfl, by kernel_rfl, by kernel_rfl, by kernel_rfl, by kernel_rfl, by kernel_rfl, by kernel_rfl, by kernel_rfl, by kernel_rfl, by kernel_rfl, by kernel_rfl, by kernel_rfl, by decide⟩
theorem lk_j (x w : Int) : look (B2 x w) "j" = some w := by kernel_rfl
theorem ws_i (x w : Int) : exsM (B2 x w) [bI] = some [x] := by kernel_rfl
theorem ws_i1 (x : Int) : exsM (B1 x) [bI] = some [x] := by kernel_rfl
theorem nest_in {p : Pr} {by_ a b c a' b' c' z' : Int} (L : NestL by_ a b c a' b' c' p) (hc' : c' ≠ 0) (hz' : z'.natAbs ≤ 20) (x : Int) :
    ∀ (r : List Int) (k : Nat) (y : Int) (acc : List (List Int)), roundsF k y b' c' = some (y :: r, z') → (∀ w ∈ y :: r, w.natAbs ≤ 20) → acc.length + r.length ≤ 1000 →
      RunK p (2 * (r.length + 1)) (Gs (3 * by_) (B2 x y) [.loop "i" by_ b c, .loop "j" (2 * by_) b' c'] acc) (Gs (5 * by_) (B2 x z') [.loop "i" by_ b c] (acc ++ (y :: r).map fun w => [x, w])) := by
  have hn := L.n
  intro r
  induction r with
  | nil =>
    intro k y acc hr hy hacc
    obtain ⟨_, _, j, hr2⟩ := rz_cons hr
    obtain ⟨hg, rfl⟩ := rz_nil hr2
    rw [goes_beyond hc'] at hg
    have hbe : beyond (y + c') b' c' = true := by simpa using hg
    have s2 := step_say (p := p) (n := 3 * by_) (pile := [.loop "i" by_ b c, .loop "j" (2 * by_) b' c']) (said := acc) L.l3 (ws_ij x y) (by simp only [List.length_nil] at hacc; omega) L.b3 (by omega)
    rw [srt_ij] at s2
    have s3 := step_over (p := p) (n := 4 * by_) (bs := B2 x y) (pile := [.loop "i" by_ b c, .loop "j" (2 * by_) b' c']) (said := acc ++ [[x, y]]) (j := 1) L.l4 (by kernel_rfl) rfl (lk_j x y) (by omega) (by show 2 < 60; decide) hbe L.b4 (by omega)
    rw [srt_j2, show List.take 1 [Fr.loop "i" by_ b c, .loop "j" (2 * by_) b' c'] = [.loop "i" by_ b c] from rfl] at s3
    exact (RunK.one rfl s2).trans (RunK.one rfl s3)
  | cons y2 r ih =>
    intro k y acc hr hy hacc
    obtain ⟨_, _, j, hr2⟩ := rz_cons hr
    obtain ⟨hg, e2, _⟩ := rz_cons hr2
    subst e2
    rw [goes_beyond hc'] at hg
    have hbe : beyond (y + c') b' c' = false := by simpa using hg
    have hy2 : (y + c').natAbs ≤ 20 := hy _ (by simp)
    have s2 := step_say (p := p) (n := 3 * by_) (pile := [.loop "i" by_ b c, .loop "j" (2 * by_) b' c']) (said := acc) L.l3 (ws_ij x y) (by simp only [List.length_cons] at hacc; omega) L.b3 (by omega)
    rw [srt_ij] at s2
    have s3 := step_on (p := p) (n := 4 * by_) (bs := B2 x y) (pile := [.loop "i" by_ b c, .loop "j" (2 * by_) b' c']) (said := acc ++ [[x, y]]) (j := 1) L.l4 (by kernel_rfl) rfl (lk_j x y) (by omega) (by show 2 < 60; decide) hbe L.b2 (by omega)
    rw [srt_j2, show List.take 1 [Fr.loop "i" by_ b c, .loop "j" (2 * by_) b' c'] ++ [.loop "j" (2 * by_) b' c'] = [.loop "i" by_ b c, .loop "j" (2 * by_) b' c'] from rfl] at s3
    have s4 := ih j (y + c') (acc ++ [[x, y]]) hr2 (fun w h => hy w (List.mem_cons_of_mem _ h)) (by rw [List.length_append]; simp only [List.length_cons, List.length_nil] at hacc ⊢; omega)
    rw [List.append_assoc] at s4
    have k4 := (RunK.one rfl s2).trans ((RunK.one rfl s3).trans s4)
    rw [show 1 + (1 + 2 * (r.length + 1)) = 2 * (((y + c') :: r).length + 1) by simp only [List.length_cons]; omega] at k4
    exact k4
theorem nest_inner {p : Pr} {by_ a b c a' b' c' z' : Int} {l' : List Int} (L : NestL by_ a b c a' b' c' p) (hc' : c' ≠ 0) (ba : a'.natAbs ≤ 20) (bb : b'.natAbs ≤ 20) (bc : c'.natAbs ≤ 20) (hz' : z'.natAbs ≤ 20) (r' : roundsF 100 a' b' c' = some (l', z')) (hl' : l'.length ≤ 8) (hx' : ∀ w ∈ l', w.natAbs ≤ 20)
    (x : Int) (B : List (Str × Int)) (hB : B = B1 x ∨ ∃ w, B = B2 x w) (acc : List (List Int)) (hacc : acc.length ≤ 900) :
    ∃ m, m ≤ 17 ∧ RunK p m (Gs (2 * by_) B [.loop "i" by_ b c] acc) (Gs (5 * by_) (B2 x z') [.loop "i" by_ b c] (acc ++ l'.map fun w => [x, w])) := by
  have hn := L.n
  have eB : sortB (putB B "j" a') = B2 x a' := by rcases hB with rfl | ⟨w, rfl⟩ <;> kernel_rfl
  have hBl : B.length < 60 := by rcases hB with rfl | ⟨w, rfl⟩ <;> (show _ < 60; simp)
  rcases rz_all r' with ⟨rfl, hg, rfl⟩ | ⟨q, rfl, hg⟩
  · rw [goes_beyond hc'] at hg
    have hbe : beyond z' b' c' = true := by simpa using hg
    have s1 := step_out (n := 2 * by_) (bs := B) (pile := [.loop "i" by_ b c]) (said := acc) L.l2 (by omega) (by omega) (by omega) hc' hbe hBl L.g2 L.b4 (by omega)
    rw [eB, show leftOf [Fr.loop "i" by_ b c] "j" = [.loop "i" by_ b c] by kernel_rfl] at s1
    refine ⟨1, by decide, ?_⟩
    rw [List.map_nil, List.append_nil]
    exact RunK.one rfl s1
  · rw [goes_beyond hc'] at hg
    have hbe : beyond a' b' c' = false := by simpa using hg
    have s1 := step_in (n := 2 * by_) (bs := B) (pile := [.loop "i" by_ b c]) (said := acc) L.l2 (by omega) (by omega) (by omega) hc' hbe hBl (by simp) L.b2 (by omega)
    rw [eB, show leftOf [Fr.loop "i" by_ b c] "j" ++ [.loop "j" (2 * by_) b' c'] = [.loop "i" by_ b c, .loop "j" (2 * by_) b' c'] by kernel_rfl] at s1
    have s2 := nest_in L hc' hz' x q 100 a' acc r' hx' (by simp only [List.length_cons] at hl'; omega)
    exact ⟨_, by simp only [List.length_cons] at hl'; omega, (RunK.one rfl s1).trans s2⟩
theorem nest_loop {p : Pr} {by_ a b c a' b' c' z z' : Int} {l' : List Int} (L : NestL by_ a b c a' b' c' p) (hc : c ≠ 0) (hc' : c' ≠ 0) (ba : a'.natAbs ≤ 20) (bb : b'.natAbs ≤ 20) (bc : c'.natAbs ≤ 20) (hz : z.natAbs ≤ 20) (hz' : z'.natAbs ≤ 20) (r' : roundsF 100 a' b' c' = some (l', z')) (hl' : l'.length ≤ 8) (hx' : ∀ w ∈ l', w.natAbs ≤ 20) :
    ∀ (r : List Int) (k : Nat) (x : Int) (B : List (Str × Int)) (acc : List (List Int)), roundsF k x b c = some (x :: r, z) → (∀ y ∈ x :: r, y.natAbs ≤ 20) → acc.length + 8 * r.length ≤ 900 → (B = B1 x ∨ ∃ w, B = B2 x w) →
      ∃ m, m ≤ 18 * (r.length + 1) ∧ RunK p m (Gs (2 * by_) B [.loop "i" by_ b c] acc) (Gs (6 * by_) (B2 z z') [] (acc ++ (x :: r).flatMap fun x => l'.map fun y => [x, y])) := by
  have hn := L.n
  intro r
  induction r with
  | nil =>
    intro k x B acc hr hy hacc hB
    obtain ⟨_, _, j, hr2⟩ := rz_cons hr
    obtain ⟨hg, rfl⟩ := rz_nil hr2
    rw [goes_beyond hc] at hg
    have hbe : beyond (x + c) b c = true := by simpa using hg
    obtain ⟨m, hm, s1⟩ := nest_inner L hc' ba bb bc hz' r' hl' hx' x B hB acc (by simp only [List.length_nil] at hacc; omega)
    have s3 := step_over (p := p) (n := 5 * by_) (bs := B2 x z') (pile := [.loop "i" by_ b c]) (said := acc ++ l'.map fun w => [x, w]) (j := 0) L.l5 (by kernel_rfl) rfl (lk_i x z') (by omega) (by show 2 < 60; decide) hbe L.b5 (by omega)
    rw [srt_i2, List.take_zero] at s3
    refine ⟨m + 1, by simp only [List.length_nil]; omega, ?_⟩
    rw [List.flatMap_cons, List.flatMap_nil, List.append_nil]
    exact s1.trans (RunK.one rfl s3)
  | cons x2 r ih =>
    intro k x B acc hr hy hacc hB
    obtain ⟨_, _, j, hr2⟩ := rz_cons hr
    obtain ⟨hg, e2, _⟩ := rz_cons hr2
    subst e2
    rw [goes_beyond hc] at hg
    have hbe : beyond (x + c) b c = false := by simpa using hg
    have hx2 : (x + c).natAbs ≤ 20 := hy _ (by simp)
    obtain ⟨m, hm, s1⟩ := nest_inner L hc' ba bb bc hz' r' hl' hx' x B hB acc (by simp only [List.length_cons] at hacc; omega)
    have s3 := step_on (p := p) (n := 5 * by_) (bs := B2 x z') (pile := [.loop "i" by_ b c]) (said := acc ++ l'.map fun w => [x, w]) (j := 0) L.l5 (by kernel_rfl) rfl (lk_i x z') (by omega) (by show 2 < 60; decide) hbe L.b1 (by omega)
    rw [srt_i2, List.take_zero, List.nil_append] at s3
    obtain ⟨m2, hm2, s4⟩ := ih j (x + c) (B2 (x + c) z') (acc ++ l'.map fun w => [x, w]) hr2 (fun y h => hy y (List.mem_cons_of_mem _ h)) (by rw [List.length_append, List.length_map]; simp only [List.length_cons] at hacc; omega) (.inr ⟨z', rfl⟩)
    refine ⟨m + (1 + m2), by simp only [List.length_cons]; omega, ?_⟩
    rw [List.append_assoc] at s4
    rw [List.flatMap_cons]
    exact s1.trans ((RunK.one rfl s3).trans s4)
theorem nest_law {a b c a' b' c' by_ z z' : Int} {l l' : List Int} (h : Drn a b c) (h' : Drn a' b' c') (hb : by_ ∈ Bys) (r : roundsF 100 a b c = some (l, z)) (r' : roundsF 100 a' b' c' = some (l', z')) :
    runM by_ (nestS a b c a' b' c') = some ⟨"ended", 0, if l = [] then [("i", z)] else [("i", z), ("j", z')], [], none, (l.flatMap fun x => l'.map fun y => [x, y]) ++ [[z]]⟩ := by
  have L := nest_lay hb a b c a' b' c'
  obtain ⟨l0, z0, e0, hlen, hx, hz⟩ := num_ok h
  rw [r] at e0
  cases e0
  obtain ⟨l0, z0, e0, hlen', hx', hz'⟩ := num_ok h'
  rw [r'] at e0
  cases e0
  obtain ⟨hc, hc10⟩ := c_ok h.c
  obtain ⟨hc', hc10'⟩ := c_ok h'.c
  have hn := L.n
  have A0 := h.a0
  have A1 := h.a1
  have B0 := h.b0
  have B1' := h.b1
  have A0' := h'.a0
  have A1' := h'.a1
  have B0' := h'.b0
  have B1'' := h'.b1
  unfold runM
  rw [L.f]
  rcases rz_all r with ⟨rfl, hg, rfl⟩ | ⟨q, rfl, hg⟩
  · rw [goes_beyond hc] at hg
    have hbe : beyond z b c = true := by simpa using hg
    have s1 := step_out (n := by_) (bs := []) (pile := []) (said := []) L.l1 (by omega) (by omega) (by omega) hc hbe (by decide) L.g1 L.b5 (by omega)
    rw [srt_i, show leftOf [] "i" = [] by kernel_rfl] at s1
    have s2 := step_say (p := mkP by_ (nestS z b c a' b' c')) (n := 6 * by_) (pile := []) (said := []) L.l6 (ws_i1 z) (by decide) L.b6 (by omega)
    rw [srt_1] at s2
    have s3 := step_fin (n := 7 * by_) (bs := B1 z) (pile := []) (said := [] ++ [[z]]) L.l7
    rw [srt_1] at s3
    rw [if_pos rfl]
    exact RunK.ends ((RunK.one rfl s1).trans ((RunK.one rfl s2).trans (RunK.one rfl s3))) (not_going _ ne_ended) (by decide)
  · rw [goes_beyond hc] at hg
    have hbe : beyond a b c = false := by simpa using hg
    have s1 := step_in (n := by_) (bs := []) (pile := []) (said := []) L.l1 (by omega) (by omega) (by omega) hc hbe (by decide) (by decide) L.b1 (by omega)
    rw [srt_i, show leftOf [] "i" ++ [Fr.loop "i" by_ b c] = [.loop "i" by_ b c] by kernel_rfl] at s1
    obtain ⟨m, hm, s2⟩ := nest_loop L hc hc' (by omega) (by omega) (by omega) hz hz' r' hlen' hx' q 100 a (B1 a) [] r hx (by simp only [List.length_cons, List.length_nil] at hlen ⊢; omega) (.inl rfl)
    rw [List.nil_append] at s2
    have hfl : ((a :: q).flatMap fun x => l'.map fun y => [x, y]).length < 5000 := by
      have gen : ∀ t : List Int, (t.flatMap fun x => l'.map fun y => [x, y]).length = t.length * l'.length := by
        intro t
        induction t with
        | nil => simp
        | cons x t ih => rw [List.flatMap_cons, List.length_append, ih, List.length_map, List.length_cons, Nat.succ_mul, Nat.add_comm]
      rw [gen]
      have k := Nat.mul_le_mul hlen hlen'
      omega
    have s3 := step_say (p := mkP by_ (nestS a b c a' b' c')) (n := 6 * by_) (pile := []) (said := (a :: q).flatMap fun x => l'.map fun y => [x, y]) L.l6 (ws_i z z') hfl L.b6 (by omega)
    rw [srt_ij] at s3
    have s4 := step_fin (n := 7 * by_) (bs := B2 z z') (pile := []) (said := ((a :: q).flatMap fun x => l'.map fun y => [x, y]) ++ [[z]]) L.l7
    rw [srt_ij] at s4
    rw [if_neg (fun k => nomatch k)]
    exact RunK.ends ((RunK.one rfl s1).trans (s2.trans ((RunK.one rfl s3).trans (RunK.one rfl s4)))) (not_going _ ne_ended) (by simp only [List.length_cons] at hlen; omega)
end K31
/-! loops in a called part -/
namespace K31
open PySem
abbrev BJ (v : Int) : List (Str × Int) := [("j", v)]
structure CallL (by_ many a b c : Int) (p : Pr) : Prop where
  l1 : lineOf p by_ = some (by_, loopS "j" 1 many 1)
  l2 : lineOf p (2 * by_) = some (2 * by_, .call (6 * by_))
  l3 : lineOf p (3 * by_) = some (3 * by_, .say [bI])
  l4 : lineOf p (4 * by_) = some (4 * by_, .again "j")
  l5 : lineOf p (5 * by_) = some (5 * by_, .fin)
  l6 : lineOf p (6 * by_) = some (6 * by_, loopS "i" a b c)
  b1 : lineBehind p by_ = 2 * by_
  b2 : lineBehind p (2 * by_) = 3 * by_
  b3 : lineBehind p (3 * by_) = 4 * by_
  b4 : lineBehind p (4 * by_) = 5 * by_
  b6 : lineBehind p (6 * by_) = 7 * by_
  h6 : hasLine p (6 * by_) = true
  h0 : hasLine p 0 = false
  f : firstM p = Gs by_ [] [] []
  n : by_ ≠ 0
theorem callL_call {by_ : Int} (hb : by_ ∈ Bys) (many a b c : Int) (x : Str) : CallL by_ many a b c (mkP by_ (callS many a b c x)) := by
  simp only [Bys, List.mem_cons, List.not_mem_nil, or_false] at hb
  rcases hb with rfl | rfl | rfl | rfl <;>
    exact ⟨by kernel_rfl, by kernel_rfl, by kernel_rfl, by kernel_rfl, by kernel_rfl, by kernel_rfl, by kernel_rfl, by kernel_rfl, by kernel_rfl, by kernel_rfl, by kernel_rfl, by kernel_rfl, by kernel_rfl, by kernel_rfl, by decide⟩
theorem callL_early {by_ : Int} (hb : by_ ∈ Bys) (many a b c : Int) : CallL by_ many a b c (mkP by_ (earlyS many a b c)) := by
  simp only [Bys, List.mem_cons, List.not_mem_nil, or_false] at hb
  rcases hb with rfl | rfl | rfl | rfl <;>
    exact ⟨by kernel_rfl, by kernel_rfl, by kernel_rfl, by kernel_rfl, by kernel_rfl, by kernel_rfl, by kernel_rfl, by kernel_rfl, by kernel_rfl, by kernel_rfl, by kernel_rfl, by kernel_rfl, by kernel_rfl, by kernel_rfl, by decide⟩
theorem srt_j0 (v : Int) : sortB (putB [] "j" v) = BJ v := by kernel_rfl
theorem srt_j (v : Int) : sortB (BJ v) = BJ v := by kernel_rfl
theorem srt_ji {B : List (Str × Int)} {v : Int} (h : B = BJ v ∨ ∃ u, B = B2 u v) (a : Int) : sortB (putB B "i" a) = B2 a v := by
  rcases h with rfl | ⟨u, rfl⟩ <;> kernel_rfl
theorem srt_B {B : List (Str × Int)} {v : Int} (h : B = BJ v ∨ ∃ u, B = B2 u v) : sortB B = B := by
  rcases h with rfl | ⟨u, rfl⟩ <;> kernel_rfl
theorem len_B {B : List (Str × Int)} {v : Int} (h : B = BJ v ∨ ∃ u, B = B2 u v) : B.length < 60 := by
  rcases h with rfl | ⟨u, rfl⟩ <;> (show _ < 60; simp)
/-- a called part that comes back -/
def Part (p : Pr) (by_ many w : Int) : Prop := ∀ (v : Int) (B : List (Str × Int)) (acc : List (List Int)), (B = BJ v ∨ ∃ u, B = B2 u v) → v.natAbs ≤ 20 →
  ∃ m, m ≤ 20 ∧ RunK p m (Gs (6 * by_) B [.loop "j" by_ many 1, .call (2 * by_)] acc) (Gs (3 * by_) (B2 w v) [.loop "j" by_ many 1] acc)
theorem call_loop {p : Pr} {by_ many a b c w : Int} (L : CallL by_ many a b c p) (hp : Part p by_ many w) (hm : many.natAbs ≤ 10) :
    ∀ (n : Nat) (v : Int) (B : List (Str × Int)) (acc : List (List Int)), v + n = many → 1 ≤ v → (B = BJ v ∨ ∃ u, B = B2 u v) → acc.length + n ≤ 100 →
      ∃ m, m ≤ 25 * (n + 1) ∧ RunK p m (Gs (2 * by_) B [.loop "j" by_ many 1] acc) (Gs (5 * by_) (B2 w (many + 1)) [] (acc ++ List.replicate (n + 1) [w])) := by
  have hn := L.n
  intro n
  induction n with
  | zero =>
    intro v B acc hv h1 hB hacc
    have s1 := step_call (p := p) (n := 2 * by_) (bs := B) (pile := [.loop "j" by_ many 1]) (said := acc) L.l2 L.h6 (by simp)
    rw [srt_B hB] at s1
    obtain ⟨m, hm2, s2⟩ := hp v B acc hB (by omega)
    have s3 := step_say (p := p) (n := 3 * by_) (bs := B2 w v) (pile := [.loop "j" by_ many 1]) (said := acc) L.l3 (ws_i w v) (by omega) L.b3 (by omega)
    rw [srt_ij] at s3
    have hbe : beyond (v + 1) many 1 = true := by unfold beyond; rw [if_pos (by decide)]; exact decide_eq_true (by omega)
    have s4 := step_over (p := p) (n := 4 * by_) (bs := B2 w v) (pile := [.loop "j" by_ many 1]) (said := acc ++ [[w]]) (j := 0) L.l4 (by kernel_rfl) rfl (lk_j w v) (by omega) (by show 2 < 60; decide) hbe L.b4 (by omega)
    rw [srt_j2, List.take_zero] at s4
    have ev : v + 1 = many + 1 := by omega
    rw [ev] at s4
    exact ⟨1 + (m + (1 + 1)), by omega, (RunK.one rfl s1).trans (s2.trans ((RunK.one rfl s3).trans (RunK.one rfl s4)))⟩
  | succ n ih =>
    intro v B acc hv h1 hB hacc
    have s1 := step_call (p := p) (n := 2 * by_) (bs := B) (pile := [.loop "j" by_ many 1]) (said := acc) L.l2 L.h6 (by simp)
    rw [srt_B hB] at s1
    obtain ⟨m, hm2, s2⟩ := hp v B acc hB (by omega)
    have s3 := step_say (p := p) (n := 3 * by_) (bs := B2 w v) (pile := [.loop "j" by_ many 1]) (said := acc) L.l3 (ws_i w v) (by omega) L.b3 (by omega)
    rw [srt_ij] at s3
    have hbe : beyond (v + 1) many 1 = false := by unfold beyond; rw [if_pos (by decide)]; exact decide_eq_false (by omega)
    have s4 := step_on (p := p) (n := 4 * by_) (bs := B2 w v) (pile := [.loop "j" by_ many 1]) (said := acc ++ [[w]]) (j := 0) L.l4 (by kernel_rfl) rfl (lk_j w v) (by omega) (by show 2 < 60; decide) hbe L.b1 (by omega)
    rw [srt_j2, List.take_zero, List.nil_append] at s4
    obtain ⟨m2, hm3, s5⟩ := ih (v + 1) (B2 w (v + 1)) (acc ++ [[w]]) (by omega) (by omega) (.inr ⟨w, rfl⟩) (by rw [List.length_append, List.length_singleton]; omega)
    rw [List.append_assoc] at s5
    refine ⟨1 + (m + (1 + (1 + m2))), by omega, ?_⟩
    rw [List.replicate_succ]
    exact (RunK.one rfl s1).trans (s2.trans ((RunK.one rfl s3).trans ((RunK.one rfl s4).trans s5)))
theorem call_all {p : Pr} {by_ many a b c w : Int} (L : CallL by_ many a b c p) (hp : Part p by_ many w) (h1 : 1 ≤ many) (h2 : many ≤ 4) :
    walkM p 1000 (firstM p) = some ⟨"ended", 0, [("i", w), ("j", many + 1)], [], none, List.replicate many.toNat [w]⟩ := by
  have hn := L.n
  rw [L.f]
  have hbe : beyond 1 many 1 = false := by unfold beyond; rw [if_pos (by decide)]; exact decide_eq_false (by omega)
  have s1 := step_in (n := by_) (bs := []) (pile := []) (said := []) L.l1 (by decide) (by omega) (by decide) (by decide) hbe (by decide) (by decide) L.b1 (by omega)
  rw [srt_j0, show leftOf [] "j" ++ [Fr.loop "j" by_ many 1] = [.loop "j" by_ many 1] by kernel_rfl] at s1
  obtain ⟨m, hm, s2⟩ := call_loop L hp (by omega) (many - 1).toNat 1 (BJ 1) [] (by omega) (by decide) (.inl rfl) (by simp only [List.length_nil]; omega)
  rw [List.nil_append, show (many - 1).toNat + 1 = many.toNat by omega] at s2
  have s3 := step_fin (n := 5 * by_) (bs := B2 w (many + 1)) (pile := []) (said := List.replicate many.toNat [w]) L.l5
  rw [srt_ij] at s3
  exact RunK.ends ((RunK.one rfl s1).trans (s2.trans (RunK.one rfl s3))) (not_going _ ne_ended) (by omega)
end K31
namespace K31
open PySem
abbrev FJ (by_ many : Int) : Fr := .loop "j" by_ many 1
abbrev FI (by_ b c : Int) : Fr := .loop "i" (6 * by_) b c
structure PartI (by_ : Int) (p : Pr) : Prop where
  l7 : lineOf p (7 * by_) = some (7 * by_, .again "i")
  l8 : lineOf p (8 * by_) = some (8 * by_, .back)
  b7 : lineBehind p (7 * by_) = 8 * by_
  g6 : againBehind p (6 * by_) "i" = some (7 * by_)
theorem part_i {by_ : Int} (hb : by_ ∈ Bys) (many a b c : Int) : PartI by_ (mkP by_ (callS many a b c "i")) := by
  simp only [Bys, List.mem_cons, List.not_mem_nil, or_false] at hb
  rcases hb with rfl | rfl | rfl | rfl <;> exact ⟨by kernel_rfl, by kernel_rfl, by kernel_rfl, by kernel_rfl⟩
structure PartE (by_ : Int) (p : Pr) : Prop where
  l7 : lineOf p (7 * by_) = some (7 * by_, .back)
  l9 : lineOf p (9 * by_) = some (9 * by_, .back)
  b8 : lineBehind p (8 * by_) = 9 * by_
  g6 : againBehind p (6 * by_) "i" = some (8 * by_)
theorem part_e {by_ : Int} (hb : by_ ∈ Bys) (many a b c : Int) : PartE by_ (mkP by_ (earlyS many a b c)) := by
  simp only [Bys, List.mem_cons, List.not_mem_nil, or_false] at hb
  rcases hb with rfl | rfl | rfl | rfl <;> exact ⟨by kernel_rfl, by kernel_rfl, by kernel_rfl, by kernel_rfl⟩
structure PartJ (by_ : Int) (p : Pr) : Prop where
  l7 : lineOf p (7 * by_) = some (7 * by_, .again "j")
  g6 : againBehind p (6 * by_) "i" = none
theorem part_j {by_ : Int} (hb : by_ ∈ Bys) (many a b c : Int) : PartJ by_ (mkP by_ (callS many a b c "j")) := by
  simp only [Bys, List.mem_cons, List.not_mem_nil, or_false] at hb
  rcases hb with rfl | rfl | rfl | rfl <;> exact ⟨by kernel_rfl, by kernel_rfl⟩
/-- the rounds of the called part -/
theorem i_loop {p : Pr} {by_ many a b c z v : Int} (L : CallL by_ many a b c p) (I : PartI by_ p) (hc : c ≠ 0) (hz : z.natAbs ≤ 20) (acc : List (List Int)) :
    ∀ (r : List Int) (k : Nat) (x : Int), roundsF k x b c = some (x :: r, z) → (∀ y ∈ x :: r, y.natAbs ≤ 20) →
      RunK p (r.length + 1) (Gs (7 * by_) (B2 x v) [FJ by_ many, .call (2 * by_), FI by_ b c] acc) (Gs (8 * by_) (B2 z v) [FJ by_ many, .call (2 * by_)] acc) := by
  have hn := L.n
  intro r
  induction r with
  | nil =>
    intro k x hr hy
    obtain ⟨_, _, j, hr2⟩ := rz_cons hr
    obtain ⟨hg, rfl⟩ := rz_nil hr2
    rw [goes_beyond hc] at hg
    have hbe : beyond (x + c) b c = true := by simpa using hg
    have s := step_over (p := p) (n := 7 * by_) (bs := B2 x v) (pile := [FJ by_ many, .call (2 * by_), FI by_ b c]) (said := acc) (j := 2) I.l7 (by kernel_rfl) rfl (lk_i x v) (by omega) (by show 2 < 60; decide) hbe I.b7 (by omega)
    rw [srt_i2, show List.take 2 [FJ by_ many, Fr.call (2 * by_), FI by_ b c] = [FJ by_ many, .call (2 * by_)] from rfl] at s
    exact RunK.one rfl s
  | cons x2 r ih =>
    intro k x hr hy
    obtain ⟨_, _, j, hr2⟩ := rz_cons hr
    obtain ⟨hg, e2, _⟩ := rz_cons hr2
    subst e2
    rw [goes_beyond hc] at hg
    have hbe : beyond (x + c) b c = false := by simpa using hg
    have hx2 : (x + c).natAbs ≤ 20 := hy _ (by simp)
    have s := step_on (p := p) (n := 7 * by_) (bs := B2 x v) (pile := [FJ by_ many, .call (2 * by_), FI by_ b c]) (said := acc) (j := 2) I.l7 (by kernel_rfl) rfl (lk_i x v) (by omega) (by show 2 < 60; decide) hbe L.b6 (by omega)
    rw [srt_i2, show List.take 2 [FJ by_ many, Fr.call (2 * by_), FI by_ b c] ++ [.loop "i" (6 * by_) b c] = [FJ by_ many, .call (2 * by_), FI by_ b c] from rfl] at s
    have s2 := ih j (x + c) hr2 (fun y h => hy y (List.mem_cons_of_mem _ h))
    have k4 := (RunK.one rfl s).trans s2
    rw [show 1 + (r.length + 1) = ((x + c) :: r).length + 1 by simp only [List.length_cons]; omega] at k4
    exact k4
theorem part_i_ok {p : Pr} {by_ many a b c z : Int} {l : List Int} (L : CallL by_ many a b c p) (I : PartI by_ p) (h : Drn a b c) (r : roundsF 100 a b c = some (l, z)) : Part p by_ many z := by
  obtain ⟨l0, z0, e0, hlen, hx, hz⟩ := num_ok h
  rw [r] at e0
  cases e0
  obtain ⟨hc, hc10⟩ := c_ok h.c
  have hn := L.n
  have A0 := h.a0
  have A1 := h.a1
  have B0 := h.b0
  have B1' := h.b1
  intro v B acc hB hv
  have sb := fun (w : Int) => step_back (p := p) (n := 8 * by_) (bs := B2 w v) (pile := [FJ by_ many, .call (2 * by_)]) (said := acc) (j := 1) I.l8 (by kernel_rfl) rfl L.b2 (by omega)
  rcases rz_all r with ⟨rfl, hg, rfl⟩ | ⟨q, rfl, hg⟩
  · rw [goes_beyond hc] at hg
    have hbe : beyond z b c = true := by simpa using hg
    have s1 := step_out (n := 6 * by_) (bs := B) (pile := [FJ by_ many, .call (2 * by_)]) (said := acc) L.l6 (by omega) (by omega) (by omega) hc hbe (len_B hB) I.g6 I.b7 (by omega)
    rw [srt_ji hB, show leftOf [FJ by_ many, Fr.call (2 * by_)] "i" = [FJ by_ many, .call (2 * by_)] by kernel_rfl] at s1
    have s2 := sb z
    rw [srt_ij, show List.take 1 [FJ by_ many, Fr.call (2 * by_)] = [FJ by_ many] from rfl] at s2
    exact ⟨2, by decide, (RunK.one rfl s1).trans (RunK.one rfl s2)⟩
  · rw [goes_beyond hc] at hg
    have hbe : beyond a b c = false := by simpa using hg
    have s1 := step_in (n := 6 * by_) (bs := B) (pile := [FJ by_ many, .call (2 * by_)]) (said := acc) L.l6 (by omega) (by omega) (by omega) hc hbe (len_B hB) (by show 2 < 50; decide) L.b6 (by omega)
    rw [srt_ji hB, show leftOf [FJ by_ many, Fr.call (2 * by_)] "i" ++ [.loop "i" (6 * by_) b c] = [FJ by_ many, .call (2 * by_), FI by_ b c] by kernel_rfl] at s1
    have s2 := i_loop (v := v) L I hc hz acc q 100 a r hx
    have s3 := sb z
    rw [srt_ij, show List.take 1 [FJ by_ many, Fr.call (2 * by_)] = [FJ by_ many] from rfl] at s3
    exact ⟨1 + (q.length + 1 + 1), by simp only [List.length_cons] at hlen; omega, (RunK.one rfl s1).trans (s2.trans (RunK.one rfl s3))⟩
theorem part_e_ok {p : Pr} {by_ many a b c : Int} (L : CallL by_ many a b c p) (I : PartE by_ p) (h : Drn a b c) : Part p by_ many a := by
  obtain ⟨hc, hc10⟩ := c_ok h.c
  have hn := L.n
  have A0 := h.a0
  have A1 := h.a1
  have B0 := h.b0
  have B1' := h.b1
  intro v B acc hB hv
  cases hbe : beyond a b c with
  | true =>
    have s1 := step_out (n := 6 * by_) (bs := B) (pile := [FJ by_ many, .call (2 * by_)]) (said := acc) L.l6 (by omega) (by omega) (by omega) hc hbe (len_B hB) I.g6 I.b8 (by omega)
    rw [srt_ji hB, show leftOf [FJ by_ many, Fr.call (2 * by_)] "i" = [FJ by_ many, .call (2 * by_)] by kernel_rfl] at s1
    have s2 := step_back (p := p) (n := 9 * by_) (bs := B2 a v) (pile := [FJ by_ many, .call (2 * by_)]) (said := acc) (j := 1) I.l9 (by kernel_rfl) rfl L.b2 (by omega)
    rw [srt_ij, show List.take 1 [FJ by_ many, Fr.call (2 * by_)] = [FJ by_ many] from rfl] at s2
    exact ⟨2, by decide, (RunK.one rfl s1).trans (RunK.one rfl s2)⟩
  | false =>
    have s1 := step_in (n := 6 * by_) (bs := B) (pile := [FJ by_ many, .call (2 * by_)]) (said := acc) L.l6 (by omega) (by omega) (by omega) hc hbe (len_B hB) (by show 2 < 50; decide) L.b6 (by omega)
    rw [srt_ji hB, show leftOf [FJ by_ many, Fr.call (2 * by_)] "i" ++ [.loop "i" (6 * by_) b c] = [FJ by_ many, .call (2 * by_), FI by_ b c] by kernel_rfl] at s1
    have s2 := step_back (p := p) (n := 7 * by_) (bs := B2 a v) (pile := [FJ by_ many, .call (2 * by_), FI by_ b c]) (said := acc) (j := 1) I.l7 (by kernel_rfl) rfl L.b2 (by omega)
    rw [srt_ij, show List.take 1 [FJ by_ many, Fr.call (2 * by_), FI by_ b c] = [FJ by_ many] from rfl] at s2
    exact ⟨2, by decide, (RunK.one rfl s1).trans (RunK.one rfl s2)⟩
theorem call_i {many a b c by_ z : Int} {l : List Int} (h1 : 1 ≤ many) (h2 : many ≤ 4) (h : Drn a b c) (hb : by_ ∈ Bys) (r : roundsF 100 a b c = some (l, z)) :
    runM by_ (callS many a b c "i") = some ⟨"ended", 0, [("i", z), ("j", many + 1)], [], none, List.replicate many.toNat [z]⟩ :=
  call_all (callL_call hb many a b c "i") (part_i_ok (callL_call hb many a b c "i") (part_i hb many a b c) h r) h1 h2
theorem early_law {many a b c by_ : Int} (h1 : 1 ≤ many) (h2 : many ≤ 4) (h : Drn a b c) (hb : by_ ∈ Bys) :
    runM by_ (earlyS many a b c) = some ⟨"ended", 0, [("i", a), ("j", many + 1)], [], none, List.replicate many.toNat [a]⟩ :=
  call_all (callL_early hb many a b c) (part_e_ok (callL_early hb many a b c) (part_e hb many a b c) h) h1 h2
theorem call_j {many a b c by_ z : Int} {l : List Int} (h1 : 1 ≤ many) (h2 : many ≤ 4) (h : Drn a b c) (hb : by_ ∈ Bys) (r : roundsF 100 a b c = some (l, z)) :
    runM by_ (callS many a b c "j") = if l = [] then some ⟨"faulted", 6 * by_, [("j", 1)], [.loop "j" by_ many 1, .call (2 * by_)], some ("again", 6 * by_), []⟩
      else some ⟨"faulted", 7 * by_, [("i", a), ("j", 1)], [.loop "j" by_ many 1, .call (2 * by_), .loop "i" (6 * by_) b c], some ("again", 7 * by_), []⟩ := by
  have L := callL_call hb many a b c "j"
  have J := part_j hb many a b c
  obtain ⟨hc, hc10⟩ := c_ok h.c
  have hn := L.n
  have A0 := h.a0
  have A1 := h.a1
  have B0 := h.b0
  have B1' := h.b1
  unfold runM
  rw [L.f]
  have hbe0 : beyond 1 many 1 = false := by unfold beyond; rw [if_pos (by decide)]; exact decide_eq_false (by omega)
  have s1 := step_in (n := by_) (bs := []) (pile := []) (said := []) L.l1 (by decide) (by omega) (by decide) (by decide) hbe0 (by decide) (by decide) L.b1 (by omega)
  rw [srt_j0, show leftOf [] "j" ++ [Fr.loop "j" by_ many 1] = [.loop "j" by_ many 1] by kernel_rfl] at s1
  have s2 := step_call (n := 2 * by_) (bs := BJ 1) (pile := [.loop "j" by_ many 1]) (said := []) L.l2 L.h6 (by simp)
  rw [srt_j] at s2
  rcases rz_all r with ⟨rfl, hg, rfl⟩ | ⟨q, rfl, hg⟩
  · rw [goes_beyond hc] at hg
    have hbe : beyond z b c = true := by simpa using hg
    have s3 := step_none (n := 6 * by_) (bs := BJ 1) (pile := [FJ by_ many, .call (2 * by_)]) (said := []) L.l6 (by omega) (by omega) (by omega) hc hbe (by show 1 < 60; decide) J.g6 L.h0
    rw [if_pos rfl]
    exact RunK.ends ((RunK.one rfl s1).trans ((RunK.one rfl s2).trans (RunK.one rfl s3))) (not_going _ ne_faulted) (by decide)
  · rw [goes_beyond hc] at hg
    have hbe : beyond a b c = false := by simpa using hg
    have s3 := step_in (n := 6 * by_) (bs := BJ 1) (pile := [FJ by_ many, .call (2 * by_)]) (said := []) L.l6 (by omega) (by omega) (by omega) hc hbe (by show 1 < 60; decide) (by show 2 < 50; decide) L.b6 (by omega)
    rw [srt_ji (.inl rfl), show leftOf [FJ by_ many, Fr.call (2 * by_)] "i" ++ [.loop "i" (6 * by_) b c] = [FJ by_ many, .call (2 * by_), FI by_ b c] by kernel_rfl] at s3
    have s4 := step_again0 (n := 7 * by_) (bs := B2 a 1) (pile := [FJ by_ many, .call (2 * by_), FI by_ b c]) (said := []) J.l7 (by kernel_rfl) L.h0
    rw [if_neg (fun k => nomatch k)]
    exact RunK.ends ((RunK.one rfl s1).trans ((RunK.one rfl s2).trans ((RunK.one rfl s3).trans (RunK.one rfl s4)))) (not_going _ ne_faulted) (by decide)
end K31
/-! equal data are equal -/
namespace K31
open PySem PySem.Spec PyProof.Rows L2
section
variable {K : PySem.W.Frag} {H : Hp}
mutual
theorem eqW_dp : ∀ {v u : V} (d : PyData) (n : Nat), d.depth < n → Dp K H v d → Dp K H u d → EqW K H n v u
  | _, _, _, 0, h, _, _ => absurd h (Nat.not_lt_zero _)
  | _, _, .none, n + 1, _, h1, h2 => by cases h1; cases h2; exact .inl ⟨rfl, rfl⟩
  | _, _, .bool b, n + 1, _, h1, h2 => by cases h1; cases h2; exact .inl ⟨rfl, rfl⟩
  | _, _, .int i, n + 1, _, h1, h2 => by cases h1; cases h2; exact .inl ⟨rfl, rfl⟩
  | _, _, .str x, n + 1, _, h1, h2 => by cases h1; cases h2; exact .inl ⟨rfl, rfl⟩
  | _, _, .list ds, n + 1, hd, h1, h2 => by
    cases h1 with
    | lst a1 b1 =>
      cases h2 with
      | lst a2 b2 =>
        have hn : PyData.depthAll ds < n := by simp only [PyData.depth] at hd; omega
        exact .inr (.inr (.inl (.inl ⟨_, _, _, _, rfl, rfl, a1, a2, eqW_all ds n hn b1 b2⟩)))
  | _, _, .tuple ds, n + 1, hd, h1, h2 => by
    cases h1 with
    | tup a1 b1 =>
      cases h2 with
      | tup a2 b2 =>
        have hn : PyData.depthAll ds < n := by simp only [PyData.depth] at hd; omega
        exact .inr (.inr (.inr ⟨_, _, _, _, rfl, rfl, a1, a2, eqW_all ds n hn b1 b2⟩))
  | _, _, .dict _, n + 1, _, h1, _ => by cases h1
theorem eqW_all : ∀ {vs us : List V} (ds : List PyData) (n : Nat), PyData.depthAll ds < n → DpAll K H vs ds → DpAll K H us ds → Paired (EqW K H n) vs us
  | _, _, [], n, _, h1, h2 => by cases h1; cases h2; exact .nil
  | _, _, d :: ds, n, hd, h1, h2 => by
    cases h1 with
    | cons a1 b1 =>
      cases h2 with
      | cons a2 b2 =>
        simp only [PyData.depthAll] at hd
        exact .cons (eqW_dp d n (by omega) a1 a2) (eqW_all ds n (by omega) b1 b2)
end
theorem eqW_box {b b' : Addr} {bs : List (Str × Int)} (nd : NdB bs) (n : Nat) (h1 : H b = some (.dK (bxs bs))) (h2 : H b' = some (.dK (bxs bs))) : EqW K H (n + 2) (.ref b) (.ref b') := by
  refine .inr (.inr (.inl (.inr ⟨b, b', _, _, rfl, rfl, h1, h2, rfl, fun p hp => ?_⟩)))
  obtain ⟨q, hq, rfl⟩ := List.mem_map.mp hp
  exact ⟨.int q.2, look_val (look_mem nd hq), .inl ⟨rfl, rfl⟩⟩
theorem eqW_str (x : Str) (n : Nat) : EqW K H (n + 1) (.str x) (.str x) := .inl ⟨rfl, rfl⟩
theorem eqW_int (x : Int) (n : Nat) : EqW K H (n + 1) (.int x) (.int x) := .inl ⟨rfl, rfl⟩
theorem row_deep (r : List Int) : (rowD r).depth ≤ 1 := by
  unfold rowD
  simp only [PyData.depth, ints_deep]
  omega
theorem rows_deep : ∀ l : List (List Int), PyData.depthAll (l.map rowD) ≤ 1
  | [] => by simp [PyData.depthAll]
  | r :: l => by
    have h1 := row_deep r
    have h2 := rows_deep l
    simp only [List.map_cons, PyData.depthAll]
    omega
theorem fr_deep (f : Fr) : (frD f).depth ≤ 1 := by cases f <;> simp [frD, PyData.depth, PyData.depthAll]
theorem frs_deep : ∀ l : List Fr, PyData.depthAll (l.map frD) ≤ 1
  | [] => by simp [PyData.depthAll]
  | r :: l => by
    have h1 := fr_deep r
    have h2 := frs_deep l
    simp only [List.map_cons, PyData.depthAll]
    omega
theorem pile_deep (l : List Fr) : (pileD l).depth < 10 := by
  have h := frs_deep l
  unfold pileD
  simp only [PyData.depth]
  omega
theorem fault_deep (o : Option (Str × Int)) : (faultD o).depth < 10 := by cases o <;> simp [faultD, PyData.depth, PyData.depthAll]
theorem eqW_said {l l' : Addr} {ys ys' : List V} {said : List (List Int)} (h1 : SqL K H l ys) (h2 : SqL K H l' ys') (d1 : DpAll K H ys (said.map rowD)) (d2 : DpAll K H ys' (said.map rowD)) : EqW K H 10 (.ref l) (.ref l') :=
  .inr (.inr (.inl (.inl ⟨_, _, _, _, rfl, rfl, h1, h2, eqW_all _ 9 (by have := rows_deep said; omega) d1 d2⟩)))
/-- the six parts of what a program comes to -/
theorem eq_six {t t' b b' l l' : Addr} {vp vp' vf vf' : V} {st : Str} {at_ : Int} {bs : List (Str × Int)} {pile : List Fr} {fault : Option (Str × Int)} {said : List (List Int)} {ys ys' : List V} (nd : NdB bs)
    (t1 : SqT K H t [.str st, .int at_, .ref b, vp, vf, .ref l]) (t2 : SqT K H t' [.str st, .int at_, .ref b', vp', vf', .ref l']) (b1 : H b = some (.dK (bxs bs))) (b2 : H b' = some (.dK (bxs bs)))
    (p1 : Dp K H vp (pileD pile)) (p2 : Dp K H vp' (pileD pile)) (f1 : Dp K H vf (faultD fault)) (f2 : Dp K H vf' (faultD fault)) (l1 : SqL K H l ys) (l2 : SqL K H l' ys') (d1 : DpAll K H ys (said.map rowD)) (d2 : DpAll K H ys' (said.map rowD)) :
    EqT K H (EqW K H 10) (.ref t) (.ref t') :=
  ⟨t, t', _, _, rfl, rfl, t1, t2, .cons (eqW_str st 9) (.cons (eqW_int at_ 9) (.cons (eqW_box nd 8 b1 b2) (.cons (eqW_dp _ 10 (pile_deep pile) p1 p2) (.cons (eqW_dp _ 10 (fault_deep fault) f1 f2) (.cons (eqW_said l1 l2 d1 d2) .nil)))))⟩
theorem eq_four {t t' b b' l l' : Addr} {vp vp' vf vf' : V} {bs : List (Str × Int)} {pile : List Fr} {fault : Option (Str × Int)} {said : List (List Int)} {ys ys' : List V} (nd : NdB bs)
    (t1 : SqT K H t [.ref b, vp, vf, .ref l]) (t2 : SqT K H t' [.ref b', vp', vf', .ref l']) (b1 : H b = some (.dK (bxs bs))) (b2 : H b' = some (.dK (bxs bs)))
    (p1 : Dp K H vp (pileD pile)) (p2 : Dp K H vp' (pileD pile)) (f1 : Dp K H vf (faultD fault)) (f2 : Dp K H vf' (faultD fault)) (l1 : SqL K H l ys) (l2 : SqL K H l' ys') (d1 : DpAll K H ys (said.map rowD)) (d2 : DpAll K H ys' (said.map rowD)) :
    EqT K H (EqW K H 10) (.ref t) (.ref t') :=
  ⟨t, t', _, _, rfl, rfl, t1, t2, .cons (eqW_box nd 8 b1 b2) (.cons (eqW_dp _ 10 (pile_deep pile) p1 p2) (.cons (eqW_dp _ 10 (fault_deep fault) f1 f2) (.cons (eqW_said l1 l2 d1 d2) .nil)))⟩
end
end K31
/-! the law's rights: loops in one another -/
namespace K31
open PySem PySem.Spec PyProof.Rows L2
section
variable {P : Program} {w : World} {K : PySem.W.Frag} {mg : Str → Option Value} {base : Heap}
def spRight (K : PySem.W.Frag) (m : Int) : Sp := fun vs H Q _ => ∃ (d : Addr) (by_ N : Int), vs = [.ref d, .int by_] ∧ by_ ∈ Bys ∧ N + m ≤ 900 ∧ PenS K H d N ∧ ∀ H', Kx [d] H H' → PenS K H' d (N + m) → Q (.bl true) H'
theorem by_rng {b : Int} (h : b ∈ Bys) : 0 ≤ b ∧ b ≤ 500 := by
  simp only [Bys, List.mem_cons, List.not_mem_nil, or_false] at h
  omega
theorem nol_rows (l : List (List Int)) : ∀ d ∈ l.map rowD, NoL d := fun d hd => by
  obtain ⟨r, _, rfl⟩ := List.mem_map.mp hd
  exact .tup fun x hx => by
    obtain ⟨n, _, rfl⟩ := List.mem_map.mp hx
    exact .int n
theorem nm_num (n : Int) : nmE (numE n) = true := by unfold numE; split <;> rfl
theorem nm_i : PyData.strOk "i" = true := by decide +kernel
theorem nm_j : PyData.strOk "j" = true := by decide +kernel
theorem nm_c : PyData.strOk "c" = true := by decide +kernel
theorem nm_bI : nmE bI = true := nm_i
theorem nm_bJ : nmE bJ = true := nm_j
theorem nm_bC : nmE bC = true := nm_c
theorem nm_loop {x : Str} (h : PyData.strOk x = true) (a b c : Int) : nmS (loopS x a b c) = true := by simp [loopS, nmS, nm_num, h]
theorem nest_ok (a b c a' b' c' : Int) : StsOk (nestS a b c a' b' c') := by
  refine ⟨by show 7 ≤ 20; decide, fun st hst => ?_, fun st hst => ?_⟩
  · simp only [nestS, List.mem_cons, List.not_mem_nil, or_false] at hst
    rcases hst with rfl | rfl | rfl | rfl | rfl | rfl | rfl
    · exact ⟨by show 3 ≤ 100; decide, nm_loop nm_i _ _ _⟩
    · exact ⟨by show 3 ≤ 100; decide, nm_loop nm_j _ _ _⟩
    · exact ⟨by show 2 ≤ 100; decide, by simp [nmS, nm_bI, nm_bJ]⟩
    · exact ⟨by show 0 ≤ 100; decide, nm_j⟩
    · exact ⟨by show 0 ≤ 100; decide, nm_i⟩
    · exact ⟨by show 1 ≤ 100; decide, by simp [nmS, nm_bI]⟩
    · exact ⟨by show 0 ≤ 100; decide, rfl⟩
  · simp only [nestS, List.mem_cons, List.not_mem_nil, or_false] at hst
    rcases hst with rfl | rfl | rfl | rfl | rfl | rfl | rfl <;> exact trivial
theorem sc_law_nested_right : FnScope ["_law_pen_here", "_law_by", "_law_body", "_law_said", "_law_worth", "_law_boxes", "_law_one", "_law_later", "_law_i", "_law_j", "_law_rounds_here", "_law_behind_i", "_law_inner", "_law_behind_j", "_law_other"] ["_law_pen_here", "_law_by"] (defScope s_law_nested_right) :=
  ⟨rfl, rfl, rfl, by decide +kernel, rfl, by decide +kernel, by decide +kernel⟩
theorem gf_law_nested_right (T : Txt w K mg) : Gf P w K mg base 10 "_law_nested_right" (spRight K 6) := by
  have nd := sc_law_nested_right.nd
  refine gf_mk T.law_nested_right sc_law_nested_right (fun vs H Q E h => ?_) (fun _ _ _ _ _ _ us hl => match us, hl with | [_, _], _ => rfl) (fun f cdv A outer s H vs Q E hr h => ?_)
  · obtain ⟨d, by_, N, rfl, hby, hN, hp, q⟩ := h
    rfl
  obtain ⟨d, by_, N, rfl, hby, hN, hp, q⟩ := h
  have hu := hu_of hr
  have G_three := (gf_law_three (P := P) (base := base) T)
  have G_loop := (gf_law_loop_line (P := P) (base := base) T)
  have G_rounds := (gf_law_rounds (P := P) (base := base) T)
  have G_comes := (gf_law_comes_to (P := P) (base := base) T)
  have G_draw := (gf_law_draw (P := P) (base := base) T)
  refine ⟨_, (pss_cons (ps_par (i := 6) (j := 7) (by rfl) nd rfl rfl (by decide) rfl rfl (pa_cons (pe_callG G_three (hr.mono (by decide)) (pa_cons (pv 0) pa_nil)) (pa_cons (pe_callG G_three (hr.mono (by decide)) (pa_cons (pv 0) pa_nil)) pa_nil)) (by rfl))
    (pss_cons (ps_asg (pe_tup (pa_cons (pe_tup (pa_cons pe_str (pa_cons pe_str pa_nil))) (pa_cons (pe_tup (pa_cons pe_str (pa_cons pe_str pa_nil))) pa_nil))) (pg_tup (n := 2) (by rfl) (pgs_cons (gN 8 nd) (pgs_cons (gN 9 nd) pgs_nil))))
    (pss_cons (sT 2 nd (pe_lst (pa_cons (pe_callG G_loop (hr.mono (by decide)) (pa_cons pe_str (pa_cons (pe_ix (r := rIxT K) ix_tup (pv 6) pe_int (fun _ _ => rfl)) (pa_cons (pe_ix (r := rIxT K) ix_tup (pv 6) pe_int (fun _ _ => rfl)) (pa_cons (pe_ix (r := rIxT K) ix_tup (pv 6) pe_int (fun _ _ => rfl)) pa_nil))))) (pa_cons (pe_callG G_loop (hr.mono (by decide)) (pa_cons pe_str (pa_cons (pe_ix (r := rIxT K) ix_tup (pv 7) pe_int (fun _ _ => rfl)) (pa_cons (pe_ix (r := rIxT K) ix_tup (pv 7) pe_int (fun _ _ => rfl)) (pa_cons (pe_ix (r := rIxT K) ix_tup (pv 7) pe_int (fun _ _ => rfl)) pa_nil))))) pa_nil))))
    (pss_cons (sT 2 nd (pe_op op_cat (pv 2) (pe_lst (pa_cons (pe_tup (pa_cons pe_str (pa_cons (pe_tup (pa_cons (pv 8) (pa_cons (pv 9) pa_nil))) pa_nil))) (pa_cons (pe_tup (pa_cons pe_str (pa_cons pe_str pa_nil))) (pa_cons (pe_tup (pa_cons pe_str (pa_cons pe_str pa_nil))) (pa_cons (pe_tup (pa_cons pe_str (pa_cons (pe_tup (pa_cons (pv 8) pa_nil)) pa_nil))) (pa_cons (pe_tup (pa_cons pe_str pa_nil)) pa_nil))))))))
    (pss_cons (ps_asg (pe_callG G_rounds (hr.mono (by decide)) (pa_cons (pe_ix (r := rIxT K) ix_tup (pv 6) pe_int (fun _ _ => rfl)) (pa_cons (pe_ix (r := rIxT K) ix_tup (pv 6) pe_int (fun _ _ => rfl)) (pa_cons (pe_ix (r := rIxT K) ix_tup (pv 6) pe_int (fun _ _ => rfl)) pa_nil)))) (pg_tup (n := 2) (by rfl) (pgs_cons (gN 10 nd) (pgs_cons (gN 11 nd) pgs_nil))))
    (pss_cons (ps_asg (pe_callG G_rounds (hr.mono (by decide)) (pa_cons (pe_ix (r := rIxT K) ix_tup (pv 7) pe_int (fun _ _ => rfl)) (pa_cons (pe_ix (r := rIxT K) ix_tup (pv 7) pe_int (fun _ _ => rfl)) (pa_cons (pe_ix (r := rIxT K) ix_tup (pv 7) pe_int (fun _ _ => rfl)) pa_nil)))) (pg_tup (n := 2) (by rfl) (pgs_cons (gN 12 nd) (pgs_cons (gN 13 nd) pgs_nil))))
    (pss_cons (sT 3 nd (pe_lst pa_nil))
    (pss_cons (ps_for PassesOwn.never rfl (pi_list (pv 10)) (gN 4 nd)
      (pss_one (ps_expr (pe_bm PySem.F.plainAttrs_list PySem.F.slot_list_extend PySem.F.type_list_extend mt_extend (pv 3) (pa_cons (pe_lc (own := [("_law_other", 14)]) (g := (gName 14)) (by rfl) nd (pi_list (pv 12)) (blkOk_by (own := [("_law_other", 14)]) (N := ["_law_pen_here", "_law_by", "_law_body", "_law_said", "_law_worth", "_law_boxes", "_law_one", "_law_later", "_law_i", "_law_j", "_law_rounds_here", "_law_behind_i", "_law_inner", "_law_behind_j", "_law_other"]) (sc := defScope s_law_nested_right) (by decide +kernel)) (fun _ _ _ _ _ => (gN 14 nd)) (fun _ _ _ _ _ => pts_nil) (fun _ _ _ _ _ => (pe_tup (pa_cons (pv 4) (pa_cons (pv 14) pa_nil))))) pa_nil)))))
    (pss_cons (sT 5 nd (pe_disp (pps_cons pe_str (pv 11) pps_nil) (by rfl) (by rfl) (fun z => by cases z) (by decide)))
    (pss_cons (ps_if (pt_cmpR (op_neD hr.units) (pv 10) (pe_lst pa_nil) (nomark _))
      (pss_one (ps_dput hu (pv 5) pe_str (pv 13) rfl))
      pss_nil)
    (pss_one (ps_ret (pe_cmpR (op_eqW hr.units) (pe_callG G_comes (hr.mono (by decide)) (pa_cons (pv 2) (pa_cons (pv 1) pa_nil))) (pe_tup (pa_cons pe_str (pa_cons pe_int (pa_cons (pv 5) (pa_cons (pe_tup pa_nil) (pa_cons pe_non (pa_cons (pe_op op_cat (pv 3) (pe_lst (pa_cons (pe_tup (pa_cons (pv 11) pa_nil)) pa_nil))) pa_nil))))))) (nomark _)))))))))))))), ?_⟩
  simp only [cxK, cxK2, L2.start, List.map, List.length, List.replicate, List.append, HAppend.hAppend, Append.append]
  refine ⟨_, rfl, d, N, rfl, by omega, hp, fun J1 t1 a b c kJ1 p1 ht1 a0 a1 b0 b1 cm => ?_⟩
  refine ⟨_, rfl, d, N + 3, rfl, by omega, p1, fun J2 t2 a' b' c' kJ2 p2 ht2 a0' a1' b0' b1' cm' => ⟨_, _, rfl, ?_⟩⟩
  have kd := kJ1.trans kJ2
  replace ht1 := kJ2.sqT ht1
  clear kJ1 kJ2 p1
  have hD : Drn a b c := ⟨a0, a1, b0, b1, cm⟩
  have hD' : Drn a' b' c' := ⟨a0', a1', b0', b1', cm'⟩
  obtain ⟨l, z, hr1, hl8, hlx, hzx⟩ := num_ok hD
  obtain ⟨l', z', hr2, hl8', hlx', hzx'⟩ := num_ok hD'
  have hb := by_rng hby
  simp only [List.set]
  refine ⟨(by show 2 ≤ sizeLine; decide), fun ti n_ti => ?_⟩
  have kJ3 : Kx [] J2 (upd J2 ti (.tup [.str "box", .str "i"])) := .new n_ti
  have di : Dp K (upd J2 ti (.tup [.str "box", .str "i"])) (.ref ti) (lfD (.box "i")) := tup_new n_ti (.cons (.str _) (.cons (.str _) .nil))
  generalize upd J2 ti (.tup [.str "box", .str "i"]) = J3 at kJ3 di ⊢
  replace kd := kd.trans (kJ3.sub (fun _ z => nomatch z))
  replace p2 := p2.keep kJ3
  replace ht1 := kJ3.sqT ht1
  replace ht2 := kJ3.sqT ht2
  refine ⟨(by show 2 ≤ sizeLine; decide), fun tj n_tj => ?_⟩
  have kJ4 : Kx [] J3 (upd J3 tj (.tup [.str "box", .str "j"])) := .new n_tj
  have dj : Dp K (upd J3 tj (.tup [.str "box", .str "j"])) (.ref tj) (lfD (.box "j")) := tup_new n_tj (.cons (.str _) (.cons (.str _) .nil))
  generalize upd J3 tj (.tup [.str "box", .str "j"]) = J4 at kJ4 dj ⊢
  replace kd := kd.trans (kJ4.sub (fun _ z => nomatch z))
  replace p2 := p2.keep kJ4
  replace ht1 := kJ4.sqT ht1
  replace ht2 := kJ4.sqT ht2
  replace di := kJ4.dp _ di
  refine ⟨(by show 2 ≤ sizeLine; decide), fun tij n_tij => ?_⟩
  have kJ5 : Kx [] J4 (upd J4 tij (.tup [.ref ti, .ref tj])) := .new n_tij
  have hij : SqT K (upd J4 tij (.tup [.ref ti, .ref tj])) tij [.ref ti, .ref tj] := .inl (.inl upd_same)
  generalize upd J4 tij (.tup [.ref ti, .ref tj]) = J5 at kJ5 hij ⊢
  replace kd := kd.trans (kJ5.sub (fun _ z => nomatch z))
  replace p2 := p2.keep kJ5
  replace ht1 := kJ5.sqT ht1
  replace ht2 := kJ5.sqT ht2
  replace di := kJ5.dp _ di
  replace dj := kJ5.dp _ dj
  refine ⟨tij, _, rfl, hij, rfl, _, _, rfl, _, _, rfl, rfl, ?_⟩
  clear hij
  simp only [List.set]
  refine ⟨_, rfl, t1, _, _, _, rfl, rfl, ht1, atI_nat (j := 0) rfl, _, rfl, t1, _, _, _, rfl, rfl, ht1, atI_nat (j := 1) rfl, _, rfl, t1, _, _, _, rfl, rfl, ht1, atI_nat (j := 2) rfl, "i", a, b, c, rfl, fun J6 r0 kJ6 s0 => ?_⟩
  replace kd := kd.trans (kJ6.sub (fun _ z => nomatch z))
  replace p2 := p2.keep kJ6
  replace ht1 := kJ6.sqT ht1
  replace ht2 := kJ6.sqT ht2
  replace di := kJ6.dp _ di
  replace dj := kJ6.dp _ dj
  refine ⟨_, rfl, t2, _, _, _, rfl, rfl, ht2, atI_nat (j := 0) rfl, _, rfl, t2, _, _, _, rfl, rfl, ht2, atI_nat (j := 1) rfl, _, rfl, t2, _, _, _, rfl, rfl, ht2, atI_nat (j := 2) rfl, "j", a', b', c', rfl, fun J7 r1 kJ7 s1 => ?_⟩
  replace kd := kd.trans (kJ7.sub (fun _ z => nomatch z))
  replace p2 := p2.keep kJ7
  replace ht1 := kJ7.sqT ht1
  replace ht2 := kJ7.sqT ht2
  replace di := kJ7.dp _ di
  replace dj := kJ7.dp _ dj
  replace s0 := kJ7.dp _ s0
  refine ⟨(by show 2 ≤ sizeLine; decide), fun lb n_lb => ?_⟩
  have kJ8 : Kx [] J7 (upd J7 lb (.lst [r0, r1])) := .new n_lb
  have hlb : (upd J7 lb (.lst [r0, r1])) lb = some (.lst [r0, r1]) := upd_same
  generalize upd J7 lb (.lst [r0, r1]) = J8 at kJ8 hlb ⊢
  replace kd := kd.trans (kJ8.sub (fun _ z => nomatch z))
  replace p2 := p2.keep kJ8
  replace ht1 := kJ8.sqT ht1
  replace ht2 := kJ8.sqT ht2
  replace di := kJ8.dp _ di
  replace dj := kJ8.dp _ dj
  replace s0 := kJ8.dp _ s0
  replace s1 := kJ8.dp _ s1
  simp only [List.set]
  refine ⟨_, rfl, _, rfl, _, rfl, (by show 2 ≤ sizeLine; decide), fun q2i n_q2i => ?_⟩
  have kJ9 : Kx [] J8 (upd J8 q2i (.tup [.ref ti, .ref tj])) := .new n_q2i
  have s2i : Dp K (upd J8 q2i (.tup [.ref ti, .ref tj])) (.ref q2i) (.tuple ([bI, bJ] |>.map exD)) := tup_new n_q2i (.cons di (.cons dj (.nil)))
  generalize upd J8 q2i (.tup [.ref ti, .ref tj]) = J9 at kJ9 s2i ⊢
  replace kd := kd.trans (kJ9.sub (fun _ z => nomatch z))
  replace p2 := p2.keep kJ9
  replace ht1 := kJ9.sqT ht1
  replace ht2 := kJ9.sqT ht2
  replace di := kJ9.dp _ di
  replace dj := kJ9.dp _ dj
  replace s0 := kJ9.dp _ s0
  replace s1 := kJ9.dp _ s1
  replace hlb := kJ9.same _ _ hlb
  refine ⟨(by show 2 ≤ sizeLine; decide), fun q2 n_q2 => ?_⟩
  have kJ10 : Kx [] J9 (upd J9 q2 (.tup [.str "say", .ref q2i])) := .new n_q2
  have s2 : Dp K (upd J9 q2 (.tup [.str "say", .ref q2i])) (.ref q2) (smD (.say [bI, bJ])) := tup_new n_q2 (.cons (.str _) (.cons s2i .nil))
  generalize upd J9 q2 (.tup [.str "say", .ref q2i]) = J10 at kJ10 s2 ⊢
  replace kd := kd.trans (kJ10.sub (fun _ z => nomatch z))
  replace p2 := p2.keep kJ10
  replace ht1 := kJ10.sqT ht1
  replace ht2 := kJ10.sqT ht2
  replace di := kJ10.dp _ di
  replace dj := kJ10.dp _ dj
  replace s0 := kJ10.dp _ s0
  replace s1 := kJ10.dp _ s1
  replace hlb := kJ10.same _ _ hlb
  replace s2i := kJ10.dp _ s2i
  refine ⟨(by show 2 ≤ sizeLine; decide), fun q3 n_q3 => ?_⟩
  have kJ11 : Kx [] J10 (upd J10 q3 (.tup [.str "again", .str "j"])) := .new n_q3
  have s3 : Dp K (upd J10 q3 (.tup [.str "again", .str "j"])) (.ref q3) (smD (.again "j")) := tup_new n_q3 (.cons (.str _) (.cons (.str _) .nil))
  generalize upd J10 q3 (.tup [.str "again", .str "j"]) = J11 at kJ11 s3 ⊢
  replace kd := kd.trans (kJ11.sub (fun _ z => nomatch z))
  replace p2 := p2.keep kJ11
  replace ht1 := kJ11.sqT ht1
  replace ht2 := kJ11.sqT ht2
  replace di := kJ11.dp _ di
  replace dj := kJ11.dp _ dj
  replace s0 := kJ11.dp _ s0
  replace s1 := kJ11.dp _ s1
  replace hlb := kJ11.same _ _ hlb
  replace s2i := kJ11.dp _ s2i
  replace s2 := kJ11.dp _ s2
  refine ⟨(by show 2 ≤ sizeLine; decide), fun q4 n_q4 => ?_⟩
  have kJ12 : Kx [] J11 (upd J11 q4 (.tup [.str "again", .str "i"])) := .new n_q4
  have s4 : Dp K (upd J11 q4 (.tup [.str "again", .str "i"])) (.ref q4) (smD (.again "i")) := tup_new n_q4 (.cons (.str _) (.cons (.str _) .nil))
  generalize upd J11 q4 (.tup [.str "again", .str "i"]) = J12 at kJ12 s4 ⊢
  replace kd := kd.trans (kJ12.sub (fun _ z => nomatch z))
  replace p2 := p2.keep kJ12
  replace ht1 := kJ12.sqT ht1
  replace ht2 := kJ12.sqT ht2
  replace di := kJ12.dp _ di
  replace dj := kJ12.dp _ dj
  replace s0 := kJ12.dp _ s0
  replace s1 := kJ12.dp _ s1
  replace hlb := kJ12.same _ _ hlb
  replace s2i := kJ12.dp _ s2i
  replace s2 := kJ12.dp _ s2
  replace s3 := kJ12.dp _ s3
  refine ⟨_, rfl, (by show 1 ≤ sizeLine; decide), fun q5i n_q5i => ?_⟩
  have kJ13 : Kx [] J12 (upd J12 q5i (.tup [.ref ti])) := .new n_q5i
  have s5i : Dp K (upd J12 q5i (.tup [.ref ti])) (.ref q5i) (.tuple ([bI] |>.map exD)) := tup_new n_q5i (.cons di (.nil))
  generalize upd J12 q5i (.tup [.ref ti]) = J13 at kJ13 s5i ⊢
  replace kd := kd.trans (kJ13.sub (fun _ z => nomatch z))
  replace p2 := p2.keep kJ13
  replace ht1 := kJ13.sqT ht1
  replace ht2 := kJ13.sqT ht2
  replace di := kJ13.dp _ di
  replace dj := kJ13.dp _ dj
  replace s0 := kJ13.dp _ s0
  replace s1 := kJ13.dp _ s1
  replace hlb := kJ13.same _ _ hlb
  replace s2i := kJ13.dp _ s2i
  replace s2 := kJ13.dp _ s2
  replace s3 := kJ13.dp _ s3
  replace s4 := kJ13.dp _ s4
  refine ⟨(by show 2 ≤ sizeLine; decide), fun q5 n_q5 => ?_⟩
  have kJ14 : Kx [] J13 (upd J13 q5 (.tup [.str "say", .ref q5i])) := .new n_q5
  have s5 : Dp K (upd J13 q5 (.tup [.str "say", .ref q5i])) (.ref q5) (smD (.say [bI])) := tup_new n_q5 (.cons (.str _) (.cons s5i .nil))
  generalize upd J13 q5 (.tup [.str "say", .ref q5i]) = J14 at kJ14 s5 ⊢
  replace kd := kd.trans (kJ14.sub (fun _ z => nomatch z))
  replace p2 := p2.keep kJ14
  replace ht1 := kJ14.sqT ht1
  replace ht2 := kJ14.sqT ht2
  replace di := kJ14.dp _ di
  replace dj := kJ14.dp _ dj
  replace s0 := kJ14.dp _ s0
  replace s1 := kJ14.dp _ s1
  replace hlb := kJ14.same _ _ hlb
  replace s2i := kJ14.dp _ s2i
  replace s2 := kJ14.dp _ s2
  replace s3 := kJ14.dp _ s3
  replace s4 := kJ14.dp _ s4
  replace s5i := kJ14.dp _ s5i
  refine ⟨(by show 1 ≤ sizeLine; decide), fun q6 n_q6 => ?_⟩
  have kJ15 : Kx [] J14 (upd J14 q6 (.tup [.str "end"])) := .new n_q6
  have s6 : Dp K (upd J14 q6 (.tup [.str "end"])) (.ref q6) (smD .fin) := tup_new n_q6 (.cons (.str _) .nil)
  generalize upd J14 q6 (.tup [.str "end"]) = J15 at kJ15 s6 ⊢
  replace kd := kd.trans (kJ15.sub (fun _ z => nomatch z))
  replace p2 := p2.keep kJ15
  replace ht1 := kJ15.sqT ht1
  replace ht2 := kJ15.sqT ht2
  replace di := kJ15.dp _ di
  replace dj := kJ15.dp _ dj
  replace s0 := kJ15.dp _ s0
  replace s1 := kJ15.dp _ s1
  replace hlb := kJ15.same _ _ hlb
  replace s2i := kJ15.dp _ s2i
  replace s2 := kJ15.dp _ s2
  replace s3 := kJ15.dp _ s3
  replace s4 := kJ15.dp _ s4
  replace s5i := kJ15.dp _ s5i
  replace s5 := kJ15.dp _ s5
  refine ⟨(by show 5 ≤ sizeLine; decide), fun l2 n_l2 => ?_⟩
  have kJ16 : Kx [] J15 (upd J15 l2 (.lst [.ref q2, .ref q3, .ref q4, .ref q5, .ref q6])) := .new n_l2
  have hl2 : (upd J15 l2 (.lst [.ref q2, .ref q3, .ref q4, .ref q5, .ref q6])) l2 = some (.lst [.ref q2, .ref q3, .ref q4, .ref q5, .ref q6]) := upd_same
  generalize upd J15 l2 (.lst [.ref q2, .ref q3, .ref q4, .ref q5, .ref q6]) = J16 at kJ16 hl2 ⊢
  replace kd := kd.trans (kJ16.sub (fun _ z => nomatch z))
  replace p2 := p2.keep kJ16
  replace ht1 := kJ16.sqT ht1
  replace ht2 := kJ16.sqT ht2
  replace di := kJ16.dp _ di
  replace dj := kJ16.dp _ dj
  replace s0 := kJ16.dp _ s0
  replace s1 := kJ16.dp _ s1
  replace hlb := kJ16.same _ _ hlb
  replace s2i := kJ16.dp _ s2i
  replace s2 := kJ16.dp _ s2
  replace s3 := kJ16.dp _ s3
  replace s4 := kJ16.dp _ s4
  replace s5i := kJ16.dp _ s5i
  replace s5 := kJ16.dp _ s5
  replace s6 := kJ16.dp _ s6
  refine ⟨lb, l2, _, _, rfl, rfl, hlb, hl2, (by show 2 + 5 ≤ sizeLine; decide), fun body n_body => ?_⟩
  have kJ17 : Kx [] J16 (upd J16 body (.lst ([r0, r1] ++ [.ref q2, .ref q3, .ref q4, .ref q5, .ref q6]))) := .new n_body
  have hbody : SqL K (upd J16 body (.lst ([r0, r1] ++ [.ref q2, .ref q3, .ref q4, .ref q5, .ref q6]))) body [r0, r1, .ref q2, .ref q3, .ref q4, .ref q5, .ref q6] := .inl (.inl upd_same)
  generalize upd J16 body (.lst ([r0, r1] ++ [.ref q2, .ref q3, .ref q4, .ref q5, .ref q6])) = J17 at kJ17 hbody ⊢
  replace kd := kd.trans (kJ17.sub (fun _ z => nomatch z))
  replace p2 := p2.keep kJ17
  replace ht1 := kJ17.sqT ht1
  replace ht2 := kJ17.sqT ht2
  replace di := kJ17.dp _ di
  replace dj := kJ17.dp _ dj
  replace s0 := kJ17.dp _ s0
  replace s1 := kJ17.dp _ s1
  replace hlb := kJ17.same _ _ hlb
  replace s2i := kJ17.dp _ s2i
  replace s2 := kJ17.dp _ s2
  replace s3 := kJ17.dp _ s3
  replace s4 := kJ17.dp _ s4
  replace s5i := kJ17.dp _ s5i
  replace s5 := kJ17.dp _ s5
  replace s6 := kJ17.dp _ s6
  replace hl2 := kJ17.same _ _ hl2
  simp only [List.set]
  refine ⟨_, rfl, t1, _, _, _, rfl, rfl, ht1, atI_nat (j := 0) rfl, _, rfl, t1, _, _, _, rfl, rfl, ht1, atI_nat (j := 1) rfl, _, rfl, t1, _, _, _, rfl, rfl, ht1, atI_nat (j := 2) rfl, a, b, c, z, l, rfl, hr1, fun J18 x1 la kJ18 hx1 hla => ?_⟩
  replace kd := kd.trans (kJ18.sub (fun _ z => nomatch z))
  replace p2 := p2.keep kJ18
  replace ht1 := kJ18.sqT ht1
  replace ht2 := kJ18.sqT ht2
  replace di := kJ18.dp _ di
  replace dj := kJ18.dp _ dj
  replace s0 := kJ18.dp _ s0
  replace s1 := kJ18.dp _ s1
  replace hlb := kJ18.same _ _ hlb
  replace s2i := kJ18.dp _ s2i
  replace s2 := kJ18.dp _ s2
  replace s3 := kJ18.dp _ s3
  replace s4 := kJ18.dp _ s4
  replace s5i := kJ18.dp _ s5i
  replace s5 := kJ18.dp _ s5
  replace s6 := kJ18.dp _ s6
  replace hl2 := kJ18.same _ _ hl2
  replace hbody := kJ18.sqL hbody
  refine ⟨x1, _, rfl, hx1, rfl, _, _, rfl, _, _, rfl, rfl, ?_⟩
  simp only [List.set]
  refine ⟨_, rfl, t2, _, _, _, rfl, rfl, ht2, atI_nat (j := 0) rfl, _, rfl, t2, _, _, _, rfl, rfl, ht2, atI_nat (j := 1) rfl, _, rfl, t2, _, _, _, rfl, rfl, ht2, atI_nat (j := 2) rfl, a', b', c', z', l', rfl, hr2, fun J19 x2 la2 kJ19 hx2 hla2 => ?_⟩
  replace kd := kd.trans (kJ19.sub (fun _ z => nomatch z))
  replace p2 := p2.keep kJ19
  replace ht1 := kJ19.sqT ht1
  replace ht2 := kJ19.sqT ht2
  replace di := kJ19.dp _ di
  replace dj := kJ19.dp _ dj
  replace s0 := kJ19.dp _ s0
  replace s1 := kJ19.dp _ s1
  replace hlb := kJ19.same _ _ hlb
  replace s2i := kJ19.dp _ s2i
  replace s2 := kJ19.dp _ s2
  replace s3 := kJ19.dp _ s3
  replace s4 := kJ19.dp _ s4
  replace s5i := kJ19.dp _ s5i
  replace s5 := kJ19.dp _ s5
  replace s6 := kJ19.dp _ s6
  replace hl2 := kJ19.same _ _ hl2
  replace hbody := kJ19.sqL hbody
  replace hx1 := kJ19.sqT hx1
  replace hla := kJ19.same _ _ hla
  refine ⟨x2, _, rfl, hx2, rfl, _, _, rfl, _, _, rfl, rfl, ?_⟩
  simp only [List.set]
  have hsts : DpAll K J19 [r0, r1, .ref q2, .ref q3, .ref q4, .ref q5, .ref q6] ((nestS a b c a' b' c').map smD) := .cons s0 (.cons s1 (.cons s2 (.cons s3 (.cons s4 (.cons s5 (.cons s6 .nil))))))
  refine ⟨(by show 0 ≤ sizeLine; decide), fun ls nls => ?_⟩
  simp only [List.set]
  have kL : Kx [] J19 (upd J19 ls (.lst [])) := .new nls
  refine ⟨_, rfl, la, rfl, ⟨_, .inl (.inl (kL.same _ _ hla))⟩, for_list (K := K) (a := la) (xs := l.map V.int) (fun i σ H' => Kx [] J19 H' ∧ (∃ v4 v14, σ = [some (.ref d), some (.int by_), some (.ref body), some (.ref ls), v4, none, some (.ref t1), some (.ref t2), some (.ref ti), some (.ref tj), some (.ref la), some (.int z), some (.ref la2), some (.int z'), v14]) ∧ ∃ ys, H' ls = some (.lst ys) ∧ ys.length ≤ 8 * i ∧ DpAll K H' ys (((l.take i).flatMap fun x => l'.map fun y => [x, y]).map rowD)) ⟨kL, ⟨none, none, rfl⟩, [], upd_same, Nat.le_refl _, by rw [List.take_zero]; exact .nil⟩ (fun i σ H' _ h => .inl (.inl (h.1.same _ _ hla))) ?_ ?_⟩
  · rintro i x σ H' hx ⟨k1, ⟨v4, v14, rfl⟩, ys, hls, hyl, hyd⟩
    rw [List.getElem?_map] at hx
    cases hli : l[i]? with
    | none => rw [hli] at hx; cases hx
    | some x0 =>
      rw [hli] at hx
      cases hx
      have hstep : l.take (i + 1) = l.take i ++ [x0] := by
        obtain ⟨h1, h2⟩ := List.getElem?_eq_some_iff.mp hli
        rw [List.take_succ_eq_append_getElem h1, h2]
      show tDrop _ _ _ _
      simp only [List.set]
      refine ⟨_, rfl, .inl ⟨rfl, _, .inl (.inl hls)⟩, _, rfl, la2, rfl, ⟨_, .inl (.inl (k1.same _ _ hla2))⟩, fun D hD => lc_list (K := K) (a := la2) (xs := l'.map V.int) (fun j H'' => Kx [] H' H'' ∧ ∃ zs, H'' D = some (.lst zs) ∧ DpAll K H'' zs (((l'.take j).map fun y => [x0, y]).map rowD)) ⟨.new hD, [], upd_same, by rw [List.take_zero]; exact .nil⟩ (fun j H'' _ h => .inl (.inl ((k1.trans h.1).same _ _ hla2))) ?_ ?_⟩
      · rintro j y H'' hy ⟨k2, zs, hz, hzd⟩
        rw [List.getElem?_map] at hy
        cases hlj : l'[j]? with
        | none => rw [hlj] at hy; cases hy
        | some y0 =>
          rw [hlj] at hy
          cases hy
          have hzl : zs.length ≤ 8 := by
            rw [dpa_len hzd, List.length_map, List.length_map, List.length_take]
            omega
          refine ⟨rfl, _, rfl, _, rfl, (by show 2 ≤ sizeLine; decide), fun t nt => ?_⟩
          have k3 : Kx [] H'' (upd H'' t (.tup [.int x0, .int y0])) := .new nt
          have D3 : Dp K (upd H'' t (.tup [.int x0, .int y0])) (.ref t) (rowD [x0, y0]) := tup_new nt (.cons (.int _) (.cons (.int _) .nil))
          have hz3 := k3.same _ _ hz
          refine ⟨_, hz3, small1000 (by omega), (k2.trans k3).grow hD, zs ++ [.ref t], upd_same, ?_⟩
          obtain ⟨h1, h2⟩ := List.getElem?_eq_some_iff.mp hlj
          rw [List.take_succ_eq_append_getElem h1, h2, List.map_append, List.map_append]
          exact dpa_up hz3 _ (fun dd hd => by
            rcases List.mem_append.mp hd with hd | hd
            · exact nol_rows _ dd hd
            · exact nol_rows [_] dd hd) (dpa_app (k3.dpAll _ hzd) (.cons D3 .nil))
      · rintro H'' ⟨k2, zs, hz, hzd⟩
        rw [List.length_map, List.take_length] at hzd
        have hzl : zs.length ≤ 8 := by
          rw [dpa_len hzd, List.length_map, List.length_map]
          exact hl8'
        have hls2 := k2.same _ _ hls
        have hil : i < l.length := (List.getElem?_eq_some_iff.mp hli).1
        refine ⟨ls, D, ys, zs, rfl, rfl, hls2, hz, (by rw [sizeLine_eq]; omega), (k1.trans k2).grow nls, ⟨_, _, rfl⟩, ys ++ zs, upd_same, by rw [List.length_append]; omega, ?_⟩
        rw [hstep, List.flatMap_append, List.map_append]
        refine dpa_up hls2 _ (fun dd hd => by
          rcases List.mem_append.mp hd with hd | hd
          · exact nol_rows _ dd hd
          · exact nol_rows _ dd hd) (dpa_app (k2.dpAll _ hyd) ?_)
        rw [List.flatMap_cons, List.flatMap_nil, List.append_nil]
        exact hzd
  · rintro σ H' ⟨k1, ⟨v4, v14, rfl⟩, ys, hls, hyl, hyd⟩
    rw [List.length_map] at hyl
    rw [List.length_map, List.take_length] at hyd
    intro bx nbx
    have kJbx : J19 bx = none := k1.live _ nbx
    refine ⟨_, rfl, upd_same, [(Sum.inr "i", .int z)], rfl, (by show 1 ≤ 15; decide), ?_⟩
    rw [show mergeK [] [((Sum.inr "i" : Key), V.int z)] = bxs [("i", z)] by kernel_rfl]
    have kb : Kx [] H' (upd (upd H' bx (.dK [])) bx (.dK (bxs [("i", z)]))) := (Kx.new (ks := []) nbx).grow nbx
    have hbx : upd (upd H' bx (.dK [])) bx (.dK (bxs [("i", z)])) bx = some (.dK (bxs [("i", z)])) := upd_same
    replace hls := kb.same _ _ hls
    replace hyd := kb.dpAll _ hyd
    replace k1 := k1.trans kb
    generalize upd (upd H' bx (.dK [])) bx (.dK (bxs [("i", z)])) = H2 at kb hbx hls hyd k1 ⊢
    simp only [List.set]
    refine ⟨_, rfl, (by show 0 ≤ sizeLine; decide), fun l0 nl0 => ?_⟩
    have k2 : Kx [] H2 (upd H2 l0 (.lst [])) := .new nl0
    refine ⟨.list (l.map .int), .list ([].map .int), .lst (.inl (.inl ((k1.trans k2).same _ _ hla))) (dpa_ints l), .lst (.inl (.inl upd_same)) .nil, ints_shaped _, ints_shaped [], _, rfl, ?_⟩
    rw [show PyData.eqv (.list (l.map .int)) (.list (([] : List Int).map .int)) = decide (l = []) by cases l <;> simp [PyData.eqv, PyData.eqvAll]]
    replace hbx := k2.same _ _ hbx
    replace hls := k2.same _ _ hls
    replace hyd := k2.dpAll _ hyd
    replace k1 := k1.trans k2
    generalize upd H2 l0 (.lst []) = H3 at hbx hls hyd k1 ⊢
    by_cases hl0 : l = []
    · rw [decide_eq_true hl0]
      refine iteF ?_
      refine ⟨_, rfl, _, rfl, body, _, nestS a b c a' b' c', by_, _, rfl, k1.sqL hbody, k1.dpAll _ hsts, nest_ok _ _ _ _ _ _, hb.1, hb.2, nest_law hD hD' hby hr1 hr2, fun H4 t b4 vp vf l4 ys4 k4 ht hb4 hvp hvf hl4 hd4 nd4 => ?_⟩
      refine ⟨_, rfl, (by show 0 ≤ sizeLine; decide), fun e0 ne0 => ?_⟩
      have k5 : Kx [] H4 (upd H4 e0 (.tup [])) := .new ne0
      have he5 : SqT K (upd H4 e0 (.tup [])) e0 [] := .inl (.inl upd_same)
      generalize upd H4 e0 (.tup []) = H5 at k5 he5 ⊢
      refine ⟨_, rfl, _, rfl, (by show 1 ≤ sizeLine; decide), fun tz ntz => ?_⟩
      have k6 : Kx [] H5 (upd H5 tz (.tup [.int z])) := .new ntz
      have D6 : Dp K (upd H5 tz (.tup [.int z])) (.ref tz) (rowD [z]) := tup_new ntz (.cons (.int _) .nil)
      generalize upd H5 tz (.tup [.int z]) = H6 at k6 D6 ⊢
      refine ⟨(by show 1 ≤ sizeLine; decide), fun lz nlz => ?_⟩
      have k7 : Kx [] H6 (upd H6 lz (.lst [.ref tz])) := .new nlz
      have hlz : upd H6 lz (.lst [.ref tz]) lz = some (.lst [.ref tz]) := upd_same
      replace D6 := k7.dp _ D6
      generalize upd H6 lz (.lst [.ref tz]) = H7 at k7 D6 hlz ⊢
      have k47 := (k5.trans k6).trans k7
      refine ⟨ls, lz, _, _, rfl, rfl, (k4.trans k47).same _ _ hls, hlz, (by show _ + 1 ≤ sizeLine; rw [sizeLine_eq]; omega), fun lw nlw => ?_⟩
      have k8 : Kx [] H7 (upd H7 lw (.lst (ys ++ [.ref tz]))) := .new nlw
      have hlw : upd H7 lw (.lst (ys ++ [.ref tz])) lw = some (.lst (ys ++ [.ref tz])) := upd_same
      have hyd8 := (k8.dpAll _ (k47.dpAll _ (k4.dpAll _ hyd)))
      replace D6 := k8.dp _ D6
      generalize upd H7 lw (.lst (ys ++ [.ref tz])) = H8 at k8 hlw hyd8 D6 ⊢
      have k48 := k47.trans k8
      refine ⟨(by show 6 ≤ sizeLine; decide), fun tt ntt => ?_⟩
      have k9 : Kx [] H8 (upd H8 tt (.tup [.str "ended", .int 0, .ref bx, .ref e0, .non, .ref lw])) := .new ntt
      have k49 := k48.trans k9
      have kall := (k1.trans k4).trans k49
      have ebx : (if l = [] then ([("i", z)] : List (Str × Int)) else ([("i", z), ("j", z')] : List (Str × Int))) = ([("i", z)] : List (Str × Int)) := by simp [hl0]
      rw [ebx] at hb4 nd4
      refine ⟨10, by decide, eq_six (said := (l.flatMap fun x => l'.map fun y => [x, y]) ++ [[z]]) (pile := []) (fault := none) nd4 (k49.sqT ht) (.inl (.inl upd_same)) (k49.same _ _ hb4) ((k4.trans k49).same _ _ hbx) (k49.dp _ hvp) (.tup (((k6.trans k7).trans (k8.trans k9)).sqT he5) .nil) (k49.dp _ hvf) .non (.inl (.inl (k49.same _ _ hl4))) (.inl (.inl (k9.same _ _ hlw))) (k49.dpAll _ hd4) ?_, ?_⟩
      · rw [List.map_append]
        exact k9.dpAll _ (dpa_app hyd8 (.cons D6 .nil))
      · exact q _ (kd.trans (kall.sub (fun _ z => nomatch z))) ((p2.keep kall).mono (by omega))
    · rw [decide_eq_false hl0]
      refine iteT ?_
      refine ⟨_, rfl, _, rfl, bx, _, rfl, dput (k := Sum.inr "j") hbx (by show 1 ≤ 1000; decide), ?_⟩
      rw [show putK (bxs [("i", z)]) (Sum.inr "j" : Key) (.int z') = bxs [("i", z), ("j", z')] by kernel_rfl]
      have nb3 : J19 bx = none := kJbx
      replace hls : upd H3 bx (.dK (bxs [("i", z), ("j", z')])) ls = _ := (upd_ne (ne_of hls hbx (by intro zz; cases zz))).trans hls
      replace hyd := (Kx.put (ks := [bx]) (kvs' := bxs [("i", z), ("j", z')]) hbx (by simp)).dpAll _ hyd
      replace k1 := k1.old (o := .dK (bxs [("i", z), ("j", z')])) nb3
      replace hbx : upd H3 bx (.dK (bxs [("i", z), ("j", z')])) bx = some (.dK (bxs [("i", z), ("j", z')])) := upd_same
      generalize upd H3 bx (.dK (bxs [("i", z), ("j", z')])) = H3 at hbx hls hyd k1 ⊢
      refine ⟨_, rfl, _, rfl, body, _, nestS a b c a' b' c', by_, _, rfl, k1.sqL hbody, k1.dpAll _ hsts, nest_ok _ _ _ _ _ _, hb.1, hb.2, nest_law hD hD' hby hr1 hr2, fun H4 t b4 vp vf l4 ys4 k4 ht hb4 hvp hvf hl4 hd4 nd4 => ?_⟩
      refine ⟨_, rfl, (by show 0 ≤ sizeLine; decide), fun e0 ne0 => ?_⟩
      have k5 : Kx [] H4 (upd H4 e0 (.tup [])) := .new ne0
      have he5 : SqT K (upd H4 e0 (.tup [])) e0 [] := .inl (.inl upd_same)
      generalize upd H4 e0 (.tup []) = H5 at k5 he5 ⊢
      refine ⟨_, rfl, _, rfl, (by show 1 ≤ sizeLine; decide), fun tz ntz => ?_⟩
      have k6 : Kx [] H5 (upd H5 tz (.tup [.int z])) := .new ntz
      have D6 : Dp K (upd H5 tz (.tup [.int z])) (.ref tz) (rowD [z]) := tup_new ntz (.cons (.int _) .nil)
      generalize upd H5 tz (.tup [.int z]) = H6 at k6 D6 ⊢
      refine ⟨(by show 1 ≤ sizeLine; decide), fun lz nlz => ?_⟩
      have k7 : Kx [] H6 (upd H6 lz (.lst [.ref tz])) := .new nlz
      have hlz : upd H6 lz (.lst [.ref tz]) lz = some (.lst [.ref tz]) := upd_same
      replace D6 := k7.dp _ D6
      generalize upd H6 lz (.lst [.ref tz]) = H7 at k7 D6 hlz ⊢
      have k47 := (k5.trans k6).trans k7
      refine ⟨ls, lz, _, _, rfl, rfl, (k4.trans k47).same _ _ hls, hlz, (by show _ + 1 ≤ sizeLine; rw [sizeLine_eq]; omega), fun lw nlw => ?_⟩
      have k8 : Kx [] H7 (upd H7 lw (.lst (ys ++ [.ref tz]))) := .new nlw
      have hlw : upd H7 lw (.lst (ys ++ [.ref tz])) lw = some (.lst (ys ++ [.ref tz])) := upd_same
      have hyd8 := (k8.dpAll _ (k47.dpAll _ (k4.dpAll _ hyd)))
      replace D6 := k8.dp _ D6
      generalize upd H7 lw (.lst (ys ++ [.ref tz])) = H8 at k8 hlw hyd8 D6 ⊢
      have k48 := k47.trans k8
      refine ⟨(by show 6 ≤ sizeLine; decide), fun tt ntt => ?_⟩
      have k9 : Kx [] H8 (upd H8 tt (.tup [.str "ended", .int 0, .ref bx, .ref e0, .non, .ref lw])) := .new ntt
      have k49 := k48.trans k9
      have kall := (k1.trans k4).trans k49
      have ebx : (if l = [] then ([("i", z)] : List (Str × Int)) else ([("i", z), ("j", z')] : List (Str × Int))) = ([("i", z), ("j", z')] : List (Str × Int)) := by simp [hl0]
      rw [ebx] at hb4 nd4
      refine ⟨10, by decide, eq_six (said := (l.flatMap fun x => l'.map fun y => [x, y]) ++ [[z]]) (pile := []) (fault := none) nd4 (k49.sqT ht) (.inl (.inl upd_same)) (k49.same _ _ hb4) ((k4.trans k49).same _ _ hbx) (k49.dp _ hvp) (.tup (((k6.trans k7).trans (k8.trans k9)).sqT he5) .nil) (k49.dp _ hvf) .non (.inl (.inl (k49.same _ _ hl4))) (.inl (.inl (k9.same _ _ hlw))) (k49.dpAll _ hd4) ?_, ?_⟩
      · rw [List.map_append]
        exact k9.dpAll _ (dpa_app hyd8 (.cons D6 .nil))
      · exact q _ (kd.trans (kall.sub (fun _ z => nomatch z))) ((p2.keep kall).mono (by omega))
end
end K31
/-! the law's rights: the outer loop closed while the inner one stands -/
namespace K31
open PySem PySem.Spec PyProof.Rows L2
section
variable {P : Program} {w : World} {K : PySem.W.Frag} {mg : Str → Option Value} {base : Heap}
theorem out_ok (a b c a' b' c' : Int) : StsOk (outS a b c a' b' c') := by
  refine ⟨by show 5 ≤ 20; decide, fun st hst => ?_, fun st hst => ?_⟩
  · simp only [outS, List.mem_cons, List.not_mem_nil, or_false] at hst
    rcases hst with rfl | rfl | rfl | rfl | rfl
    · exact ⟨by show 3 ≤ 100; decide, nm_loop nm_i _ _ _⟩
    · exact ⟨by show 3 ≤ 100; decide, nm_loop nm_j _ _ _⟩
    · exact ⟨by show 2 ≤ 100; decide, by simp [nmS, nm_bI, nm_bJ]⟩
    · exact ⟨by show 0 ≤ 100; decide, nm_i⟩
    · exact ⟨by show 0 ≤ 100; decide, rfl⟩
  · simp only [outS, List.mem_cons, List.not_mem_nil, or_false] at hst
    rcases hst with rfl | rfl | rfl | rfl | rfl <;> exact trivial
theorem sc_law_outer_right : FnScope ["_law_pen_here", "_law_by", "_law_body", "_law_inner", "_law_found", "_law_boxes", "_law_one", "_law_later", "_law_i", "_law_j", "_law_rounds_here", "_law_behind_i", "_law_frame", "_law_worth"] ["_law_pen_here", "_law_by"] (defScope s_law_outer_right) :=
  ⟨rfl, rfl, rfl, by decide +kernel, rfl, by decide +kernel, by decide +kernel⟩
theorem gf_law_outer_right (T : Txt w K mg) : Gf P w K mg base 10 "_law_outer_right" (spRight K 6) := by
  have nd := sc_law_outer_right.nd
  refine gf_mk T.law_outer_right sc_law_outer_right (fun vs H Q E h => ?_) (fun _ _ _ _ _ _ us hl => match us, hl with | [_, _], _ => rfl) (fun f cdv A outer s H vs Q E hr h => ?_)
  · obtain ⟨d, by_, N, rfl, hby, hN, hp, q⟩ := h
    rfl
  obtain ⟨d, by_, N, rfl, hby, hN, hp, q⟩ := h
  have hu := hu_of hr
  have G_three := (gf_law_three (P := P) (base := base) T)
  have G_loop := (gf_law_loop_line (P := P) (base := base) T)
  have G_rounds := (gf_law_rounds (P := P) (base := base) T)
  have G_comes := (gf_law_comes_to (P := P) (base := base) T)
  have G_draw := (gf_law_draw (P := P) (base := base) T)
  refine ⟨_, (pss_cons (ps_asg (pe_tup (pa_cons (pe_callG G_three (hr.mono (by decide)) (pa_cons (pv 0) pa_nil)) (pa_cons (pe_callG G_three (hr.mono (by decide)) (pa_cons (pv 0) pa_nil)) pa_nil))) (pg_tup (n := 2) (by rfl) (pgs_cons (gN 6 nd) (pgs_cons (gN 7 nd) pgs_nil))))
    (pss_cons (ps_asg (pe_tup (pa_cons (pe_tup (pa_cons pe_str (pa_cons pe_str pa_nil))) (pa_cons (pe_tup (pa_cons pe_str (pa_cons pe_str pa_nil))) pa_nil))) (pg_tup (n := 2) (by rfl) (pgs_cons (gN 8 nd) (pgs_cons (gN 9 nd) pgs_nil))))
    (pss_cons (sT 2 nd (pe_lst (pa_cons (pe_callG G_loop (hr.mono (by decide)) (pa_cons pe_str (pa_cons (pe_ix (r := rIxT K) ix_tup (pv 6) pe_int (fun _ _ => rfl)) (pa_cons (pe_ix (r := rIxT K) ix_tup (pv 6) pe_int (fun _ _ => rfl)) (pa_cons (pe_ix (r := rIxT K) ix_tup (pv 6) pe_int (fun _ _ => rfl)) pa_nil))))) (pa_cons (pe_callG G_loop (hr.mono (by decide)) (pa_cons pe_str (pa_cons (pe_ix (r := rIxT K) ix_tup (pv 7) pe_int (fun _ _ => rfl)) (pa_cons (pe_ix (r := rIxT K) ix_tup (pv 7) pe_int (fun _ _ => rfl)) (pa_cons (pe_ix (r := rIxT K) ix_tup (pv 7) pe_int (fun _ _ => rfl)) pa_nil))))) pa_nil))))
    (pss_cons (sT 2 nd (pe_op op_cat (pv 2) (pe_lst (pa_cons (pe_tup (pa_cons pe_str (pa_cons (pe_tup (pa_cons (pv 8) (pa_cons (pv 9) pa_nil))) pa_nil))) (pa_cons (pe_tup (pa_cons pe_str (pa_cons pe_str pa_nil))) (pa_cons (pe_tup (pa_cons pe_str pa_nil)) pa_nil))))))
    (pss_cons (ps_asg (pe_callG G_rounds (hr.mono (by decide)) (pa_cons (pe_ix (r := rIxT K) ix_tup (pv 6) pe_int (fun _ _ => rfl)) (pa_cons (pe_ix (r := rIxT K) ix_tup (pv 6) pe_int (fun _ _ => rfl)) (pa_cons (pe_ix (r := rIxT K) ix_tup (pv 6) pe_int (fun _ _ => rfl)) pa_nil)))) (pg_tup (n := 2) (by rfl) (pgs_cons (gN 10 nd) (pgs_cons (gN 11 nd) pgs_nil))))
    (pss_cons (sT 3 nd (pe_ix (r := rIxT K) ix_tup (pe_callG G_rounds (hr.mono (by decide)) (pa_cons (pe_ix (r := rIxT K) ix_tup (pv 7) pe_int (fun _ _ => rfl)) (pa_cons (pe_ix (r := rIxT K) ix_tup (pv 7) pe_int (fun _ _ => rfl)) (pa_cons (pe_ix (r := rIxT K) ix_tup (pv 7) pe_int (fun _ _ => rfl)) pa_nil)))) pe_int (fun _ _ => rfl)))
    (pss_cons (sT 4 nd (pe_callG G_comes (hr.mono (by decide)) (pa_cons (pv 2) (pa_cons (pv 1) pa_nil))))
    (pss_cons (ps_if (PW.pt (pw_and (pt_cmpR (op_neD hr.units) (pv 10) (pe_lst pa_nil) (nomark _)) (pw_and1 (pt_cmpR (op_eqD hr.units) (pv 3) (pe_lst pa_nil) (nomark _)))))
      (pss_cons (sT 12 nd (pe_tup (pa_cons pe_str (pa_cons pe_str (pa_cons (pv 1) (pa_cons (pe_ix (r := rIxT K) ix_tup (pv 6) pe_int (fun _ _ => rfl)) (pa_cons (pe_ix (r := rIxT K) ix_tup (pv 6) pe_int (fun _ _ => rfl)) pa_nil)))))))
      (pss_one (ps_ret (pe_cmpR (op_eqW hr.units) (pv 4) (pe_tup (pa_cons pe_str (pa_cons (pe_op op_mul pe_int (pv 1)) (pa_cons (pe_disp (pps_cons pe_str (pe_ix (r := rIxT K) ix_tup (pv 6) pe_int (fun _ _ => rfl)) pps_nil) (by rfl) (by rfl) (fun z => by cases z) (by decide)) (pa_cons (pe_tup (pa_cons (pv 12) pa_nil)) (pa_cons (pe_tup (pa_cons pe_str (pa_cons (pe_op op_mul pe_int (pv 1)) pa_nil))) (pa_cons (pe_lst pa_nil) pa_nil))))))) (nomark _)))))
      pss_nil)
    (pss_cons (sT 5 nd (pe_disp (pps_cons pe_str (pv 11) pps_nil) (by rfl) (by rfl) (fun z => by cases z) (by decide)))
    (pss_cons (ps_if (pt_cmpR (op_neD hr.units) (pv 10) (pe_lst pa_nil) (nomark _))
      (pss_one (ps_dput hu (pv 5) pe_str (pe_ix (r := rIxT K) ix_tup (pv 7) pe_int (fun _ _ => rfl)) rfl))
      pss_nil)
    (pss_one (ps_ret (pe_cmpR (op_eqW hr.units) (pv 4) (pe_tup (pa_cons pe_str (pa_cons pe_int (pa_cons (pv 5) (pa_cons (pe_tup pa_nil) (pa_cons pe_non (pa_cons (pe_lc (own := [("_law_worth", 13)]) (g := (gName 13)) (by rfl) nd (pi_list (pv 10)) (blkOk_by (own := [("_law_worth", 13)]) (N := ["_law_pen_here", "_law_by", "_law_body", "_law_inner", "_law_found", "_law_boxes", "_law_one", "_law_later", "_law_i", "_law_j", "_law_rounds_here", "_law_behind_i", "_law_frame", "_law_worth"]) (sc := defScope s_law_outer_right) (by decide +kernel)) (fun _ _ _ _ _ => (gN 13 nd)) (fun _ _ _ _ _ => pts_nil) (fun _ _ _ _ _ => (pe_tup (pa_cons (pv 13) (pa_cons (pe_ix (r := rIxT K) ix_tup (pv 7) pe_int (fun _ _ => rfl)) pa_nil))))) pa_nil))))))) (nomark _)))))))))))))), ?_⟩
  simp only [cxK, cxK2, L2.start, List.map, List.length, List.replicate, List.append, HAppend.hAppend, Append.append]
  refine ⟨_, rfl, d, N, rfl, by omega, hp, fun J1 t1 a b c kJ1 p1 ht1 a0 a1 b0 b1 cm => ?_⟩
  refine ⟨_, rfl, d, N + 3, rfl, by omega, p1, fun J2 t2 a' b' c' kJ2 p2 ht2 a0' a1' b0' b1' cm' => ?_⟩
  have kd := kJ1.trans kJ2
  replace ht1 := kJ2.sqT ht1
  clear kJ1 kJ2 p1
  have hD : Drn a b c := ⟨a0, a1, b0, b1, cm⟩
  have hD' : Drn a' b' c' := ⟨a0', a1', b0', b1', cm'⟩
  obtain ⟨l, z, hr1, hl8, hlx, hzx⟩ := num_ok hD
  obtain ⟨l', z', hr2, hl8', hlx', hzx'⟩ := num_ok hD'
  have hb := by_rng hby
  refine ⟨(by show 2 ≤ sizeLine; decide), fun t12 n_t12 => ?_⟩
  have kJ3 : Kx [] J2 (upd J2 t12 (.tup [.ref t1, .ref t2])) := .new n_t12
  have ht12 : SqT K (upd J2 t12 (.tup [.ref t1, .ref t2])) t12 [.ref t1, .ref t2] := .inl (.inl upd_same)
  generalize upd J2 t12 (.tup [.ref t1, .ref t2]) = J3 at kJ3 ht12 ⊢
  replace kd := kd.trans (kJ3.sub (fun _ z => nomatch z))
  replace p2 := p2.keep kJ3
  replace ht1 := kJ3.sqT ht1
  replace ht2 := kJ3.sqT ht2
  refine ⟨t12, _, rfl, ht12, rfl, _, _, rfl, _, _, rfl, rfl, ?_⟩
  clear ht12
  simp only [List.set]
  refine ⟨(by show 2 ≤ sizeLine; decide), fun ti n_ti => ?_⟩
  have kJ4 : Kx [] J3 (upd J3 ti (.tup [.str "box", .str "i"])) := .new n_ti
  have di : Dp K (upd J3 ti (.tup [.str "box", .str "i"])) (.ref ti) (lfD (.box "i")) := tup_new n_ti (.cons (.str _) (.cons (.str _) .nil))
  generalize upd J3 ti (.tup [.str "box", .str "i"]) = J4 at kJ4 di ⊢
  replace kd := kd.trans (kJ4.sub (fun _ z => nomatch z))
  replace p2 := p2.keep kJ4
  replace ht1 := kJ4.sqT ht1
  replace ht2 := kJ4.sqT ht2
  refine ⟨(by show 2 ≤ sizeLine; decide), fun tj n_tj => ?_⟩
  have kJ5 : Kx [] J4 (upd J4 tj (.tup [.str "box", .str "j"])) := .new n_tj
  have dj : Dp K (upd J4 tj (.tup [.str "box", .str "j"])) (.ref tj) (lfD (.box "j")) := tup_new n_tj (.cons (.str _) (.cons (.str _) .nil))
  generalize upd J4 tj (.tup [.str "box", .str "j"]) = J5 at kJ5 dj ⊢
  replace kd := kd.trans (kJ5.sub (fun _ z => nomatch z))
  replace p2 := p2.keep kJ5
  replace ht1 := kJ5.sqT ht1
  replace ht2 := kJ5.sqT ht2
  replace di := kJ5.dp _ di
  refine ⟨(by show 2 ≤ sizeLine; decide), fun tij n_tij => ?_⟩
  have kJ6 : Kx [] J5 (upd J5 tij (.tup [.ref ti, .ref tj])) := .new n_tij
  have hij : SqT K (upd J5 tij (.tup [.ref ti, .ref tj])) tij [.ref ti, .ref tj] := .inl (.inl upd_same)
  generalize upd J5 tij (.tup [.ref ti, .ref tj]) = J6 at kJ6 hij ⊢
  replace kd := kd.trans (kJ6.sub (fun _ z => nomatch z))
  replace p2 := p2.keep kJ6
  replace ht1 := kJ6.sqT ht1
  replace ht2 := kJ6.sqT ht2
  replace di := kJ6.dp _ di
  replace dj := kJ6.dp _ dj
  refine ⟨tij, _, rfl, hij, rfl, _, _, rfl, _, _, rfl, rfl, ?_⟩
  clear hij
  simp only [List.set]
  refine ⟨_, rfl, t1, _, _, _, rfl, rfl, ht1, atI_nat (j := 0) rfl, _, rfl, t1, _, _, _, rfl, rfl, ht1, atI_nat (j := 1) rfl, _, rfl, t1, _, _, _, rfl, rfl, ht1, atI_nat (j := 2) rfl, "i", a, b, c, rfl, fun J7 r0 kJ7 s0 => ?_⟩
  replace kd := kd.trans (kJ7.sub (fun _ z => nomatch z))
  replace p2 := p2.keep kJ7
  replace ht1 := kJ7.sqT ht1
  replace ht2 := kJ7.sqT ht2
  replace di := kJ7.dp _ di
  replace dj := kJ7.dp _ dj
  refine ⟨_, rfl, t2, _, _, _, rfl, rfl, ht2, atI_nat (j := 0) rfl, _, rfl, t2, _, _, _, rfl, rfl, ht2, atI_nat (j := 1) rfl, _, rfl, t2, _, _, _, rfl, rfl, ht2, atI_nat (j := 2) rfl, "j", a', b', c', rfl, fun J8 r1 kJ8 s1 => ?_⟩
  replace kd := kd.trans (kJ8.sub (fun _ z => nomatch z))
  replace p2 := p2.keep kJ8
  replace ht1 := kJ8.sqT ht1
  replace ht2 := kJ8.sqT ht2
  replace di := kJ8.dp _ di
  replace dj := kJ8.dp _ dj
  replace s0 := kJ8.dp _ s0
  refine ⟨(by show 2 ≤ sizeLine; decide), fun lb n_lb => ?_⟩
  have kJ9 : Kx [] J8 (upd J8 lb (.lst [r0, r1])) := .new n_lb
  have hlb : (upd J8 lb (.lst [r0, r1])) lb = some (.lst [r0, r1]) := upd_same
  generalize upd J8 lb (.lst [r0, r1]) = J9 at kJ9 hlb ⊢
  replace kd := kd.trans (kJ9.sub (fun _ z => nomatch z))
  replace p2 := p2.keep kJ9
  replace ht1 := kJ9.sqT ht1
  replace ht2 := kJ9.sqT ht2
  replace di := kJ9.dp _ di
  replace dj := kJ9.dp _ dj
  replace s0 := kJ9.dp _ s0
  replace s1 := kJ9.dp _ s1
  simp only [List.set]
  refine ⟨_, rfl, _, rfl, _, rfl, (by show 2 ≤ sizeLine; decide), fun q2i n_q2i => ?_⟩
  have kJ10 : Kx [] J9 (upd J9 q2i (.tup [.ref ti, .ref tj])) := .new n_q2i
  have s2i : Dp K (upd J9 q2i (.tup [.ref ti, .ref tj])) (.ref q2i) (.tuple ([bI, bJ] |>.map exD)) := tup_new n_q2i (.cons di (.cons dj (.nil)))
  generalize upd J9 q2i (.tup [.ref ti, .ref tj]) = J10 at kJ10 s2i ⊢
  replace kd := kd.trans (kJ10.sub (fun _ z => nomatch z))
  replace p2 := p2.keep kJ10
  replace ht1 := kJ10.sqT ht1
  replace ht2 := kJ10.sqT ht2
  replace di := kJ10.dp _ di
  replace dj := kJ10.dp _ dj
  replace s0 := kJ10.dp _ s0
  replace s1 := kJ10.dp _ s1
  replace hlb := kJ10.same _ _ hlb
  refine ⟨(by show 2 ≤ sizeLine; decide), fun q2 n_q2 => ?_⟩
  have kJ11 : Kx [] J10 (upd J10 q2 (.tup [.str "say", .ref q2i])) := .new n_q2
  have s2 : Dp K (upd J10 q2 (.tup [.str "say", .ref q2i])) (.ref q2) (smD (.say [bI, bJ])) := tup_new n_q2 (.cons (.str _) (.cons s2i .nil))
  generalize upd J10 q2 (.tup [.str "say", .ref q2i]) = J11 at kJ11 s2 ⊢
  replace kd := kd.trans (kJ11.sub (fun _ z => nomatch z))
  replace p2 := p2.keep kJ11
  replace ht1 := kJ11.sqT ht1
  replace ht2 := kJ11.sqT ht2
  replace di := kJ11.dp _ di
  replace dj := kJ11.dp _ dj
  replace s0 := kJ11.dp _ s0
  replace s1 := kJ11.dp _ s1
  replace hlb := kJ11.same _ _ hlb
  replace s2i := kJ11.dp _ s2i
  refine ⟨(by show 2 ≤ sizeLine; decide), fun q3 n_q3 => ?_⟩
  have kJ12 : Kx [] J11 (upd J11 q3 (.tup [.str "again", .str "i"])) := .new n_q3
  have s3 : Dp K (upd J11 q3 (.tup [.str "again", .str "i"])) (.ref q3) (smD (.again "i")) := tup_new n_q3 (.cons (.str _) (.cons (.str _) .nil))
  generalize upd J11 q3 (.tup [.str "again", .str "i"]) = J12 at kJ12 s3 ⊢
  replace kd := kd.trans (kJ12.sub (fun _ z => nomatch z))
  replace p2 := p2.keep kJ12
  replace ht1 := kJ12.sqT ht1
  replace ht2 := kJ12.sqT ht2
  replace di := kJ12.dp _ di
  replace dj := kJ12.dp _ dj
  replace s0 := kJ12.dp _ s0
  replace s1 := kJ12.dp _ s1
  replace hlb := kJ12.same _ _ hlb
  replace s2i := kJ12.dp _ s2i
  replace s2 := kJ12.dp _ s2
  refine ⟨(by show 1 ≤ sizeLine; decide), fun q4 n_q4 => ?_⟩
  have kJ13 : Kx [] J12 (upd J12 q4 (.tup [.str "end"])) := .new n_q4
  have s4 : Dp K (upd J12 q4 (.tup [.str "end"])) (.ref q4) (smD .fin) := tup_new n_q4 (.cons (.str _) .nil)
  generalize upd J12 q4 (.tup [.str "end"]) = J13 at kJ13 s4 ⊢
  replace kd := kd.trans (kJ13.sub (fun _ z => nomatch z))
  replace p2 := p2.keep kJ13
  replace ht1 := kJ13.sqT ht1
  replace ht2 := kJ13.sqT ht2
  replace di := kJ13.dp _ di
  replace dj := kJ13.dp _ dj
  replace s0 := kJ13.dp _ s0
  replace s1 := kJ13.dp _ s1
  replace hlb := kJ13.same _ _ hlb
  replace s2i := kJ13.dp _ s2i
  replace s2 := kJ13.dp _ s2
  replace s3 := kJ13.dp _ s3
  refine ⟨(by show 3 ≤ sizeLine; decide), fun l2 n_l2 => ?_⟩
  have kJ14 : Kx [] J13 (upd J13 l2 (.lst [.ref q2, .ref q3, .ref q4])) := .new n_l2
  have hl2 : (upd J13 l2 (.lst [.ref q2, .ref q3, .ref q4])) l2 = some (.lst [.ref q2, .ref q3, .ref q4]) := upd_same
  generalize upd J13 l2 (.lst [.ref q2, .ref q3, .ref q4]) = J14 at kJ14 hl2 ⊢
  replace kd := kd.trans (kJ14.sub (fun _ z => nomatch z))
  replace p2 := p2.keep kJ14
  replace ht1 := kJ14.sqT ht1
  replace ht2 := kJ14.sqT ht2
  replace di := kJ14.dp _ di
  replace dj := kJ14.dp _ dj
  replace s0 := kJ14.dp _ s0
  replace s1 := kJ14.dp _ s1
  replace hlb := kJ14.same _ _ hlb
  replace s2i := kJ14.dp _ s2i
  replace s2 := kJ14.dp _ s2
  replace s3 := kJ14.dp _ s3
  replace s4 := kJ14.dp _ s4
  refine ⟨lb, l2, _, _, rfl, rfl, hlb, hl2, (by show 2 + 3 ≤ sizeLine; decide), fun body n_body => ?_⟩
  have kJ15 : Kx [] J14 (upd J14 body (.lst ([r0, r1] ++ [.ref q2, .ref q3, .ref q4]))) := .new n_body
  have hbody : SqL K (upd J14 body (.lst ([r0, r1] ++ [.ref q2, .ref q3, .ref q4]))) body [r0, r1, .ref q2, .ref q3, .ref q4] := .inl (.inl upd_same)
  generalize upd J14 body (.lst ([r0, r1] ++ [.ref q2, .ref q3, .ref q4])) = J15 at kJ15 hbody ⊢
  replace kd := kd.trans (kJ15.sub (fun _ z => nomatch z))
  replace p2 := p2.keep kJ15
  replace ht1 := kJ15.sqT ht1
  replace ht2 := kJ15.sqT ht2
  replace di := kJ15.dp _ di
  replace dj := kJ15.dp _ dj
  replace s0 := kJ15.dp _ s0
  replace s1 := kJ15.dp _ s1
  replace hlb := kJ15.same _ _ hlb
  replace s2i := kJ15.dp _ s2i
  replace s2 := kJ15.dp _ s2
  replace s3 := kJ15.dp _ s3
  replace s4 := kJ15.dp _ s4
  replace hl2 := kJ15.same _ _ hl2
  simp only [List.set]
  refine ⟨_, rfl, t1, _, _, _, rfl, rfl, ht1, atI_nat (j := 0) rfl, _, rfl, t1, _, _, _, rfl, rfl, ht1, atI_nat (j := 1) rfl, _, rfl, t1, _, _, _, rfl, rfl, ht1, atI_nat (j := 2) rfl, a, b, c, z, l, rfl, hr1, fun J16 x1 la kJ16 hx1 hla => ?_⟩
  replace kd := kd.trans (kJ16.sub (fun _ z => nomatch z))
  replace p2 := p2.keep kJ16
  replace ht1 := kJ16.sqT ht1
  replace ht2 := kJ16.sqT ht2
  replace di := kJ16.dp _ di
  replace dj := kJ16.dp _ dj
  replace s0 := kJ16.dp _ s0
  replace s1 := kJ16.dp _ s1
  replace hlb := kJ16.same _ _ hlb
  replace s2i := kJ16.dp _ s2i
  replace s2 := kJ16.dp _ s2
  replace s3 := kJ16.dp _ s3
  replace s4 := kJ16.dp _ s4
  replace hl2 := kJ16.same _ _ hl2
  replace hbody := kJ16.sqL hbody
  refine ⟨x1, _, rfl, hx1, rfl, _, _, rfl, _, _, rfl, rfl, ?_⟩
  simp only [List.set]
  refine ⟨_, rfl, t2, _, _, _, rfl, rfl, ht2, atI_nat (j := 0) rfl, _, rfl, t2, _, _, _, rfl, rfl, ht2, atI_nat (j := 1) rfl, _, rfl, t2, _, _, _, rfl, rfl, ht2, atI_nat (j := 2) rfl, a', b', c', z', l', rfl, hr2, fun J17 x2 la2 kJ17 hx2 hla2 => ?_⟩
  replace kd := kd.trans (kJ17.sub (fun _ z => nomatch z))
  replace p2 := p2.keep kJ17
  replace ht1 := kJ17.sqT ht1
  replace ht2 := kJ17.sqT ht2
  replace di := kJ17.dp _ di
  replace dj := kJ17.dp _ dj
  replace s0 := kJ17.dp _ s0
  replace s1 := kJ17.dp _ s1
  replace hlb := kJ17.same _ _ hlb
  replace s2i := kJ17.dp _ s2i
  replace s2 := kJ17.dp _ s2
  replace s3 := kJ17.dp _ s3
  replace s4 := kJ17.dp _ s4
  replace hl2 := kJ17.same _ _ hl2
  replace hbody := kJ17.sqL hbody
  replace hx1 := kJ17.sqT hx1
  replace hla := kJ17.same _ _ hla
  refine ⟨x2, _, _, _, rfl, rfl, hx2, atI_nat (j := 0) rfl, ?_⟩
  simp only [List.set]
  have hsts : DpAll K J17 [r0, r1, .ref q2, .ref q3, .ref q4] ((outS a b c a' b' c').map smD) := .cons s0 (.cons s1 (.cons s2 (.cons s3 (.cons s4 .nil))))
  have hrun := out_law hD hD' hby hr1 hr2
  by_cases hcond : l ≠ [] ∧ l' = []
  · rw [if_pos hcond] at hrun
    refine ⟨_, rfl, _, rfl, body, _, outS a b c a' b' c', by_, _, rfl, hbody, hsts, out_ok _ _ _ _ _ _, hb.1, hb.2, hrun, fun G0 ft fb vp vf fl ys kG ht hfb hvp hvf hfl hys hnd => ?_⟩
    replace kd := kd.trans (kG.sub (fun _ z => nomatch z))
    replace p2 := p2.keep kG
    replace ht1 := kG.sqT ht1
    replace ht2 := kG.sqT ht2
    replace di := kG.dp _ di
    replace dj := kG.dp _ dj
    replace s0 := kG.dp _ s0
    replace s1 := kG.dp _ s1
    replace hlb := kG.same _ _ hlb
    replace s2i := kG.dp _ s2i
    replace s2 := kG.dp _ s2
    replace s3 := kG.dp _ s3
    replace s4 := kG.dp _ s4
    replace hl2 := kG.same _ _ hl2
    replace hbody := kG.sqL hbody
    replace hx1 := kG.sqT hx1
    replace hla := kG.same _ _ hla
    replace hx2 := kG.sqT hx2
    replace hla2 := kG.same _ _ hla2
    simp only [List.set]
    refine ⟨_, rfl, (by show 0 ≤ sizeLine; decide), fun m0 n_m0 => ?_⟩
    have kJ19 : Kx [] G0 (upd G0 m0 (.lst [])) := .new n_m0
    have h_m0 : (upd G0 m0 (.lst [])) m0 = some (.lst []) := upd_same
    generalize upd G0 m0 (.lst []) = J19 at kJ19 h_m0 ⊢
    replace kd := kd.trans (kJ19.sub (fun _ z => nomatch z))
    replace p2 := p2.keep kJ19
    replace ht1 := kJ19.sqT ht1
    replace ht2 := kJ19.sqT ht2
    replace di := kJ19.dp _ di
    replace dj := kJ19.dp _ dj
    replace s0 := kJ19.dp _ s0
    replace s1 := kJ19.dp _ s1
    replace hlb := kJ19.same _ _ hlb
    replace s2i := kJ19.dp _ s2i
    replace s2 := kJ19.dp _ s2
    replace s3 := kJ19.dp _ s3
    replace s4 := kJ19.dp _ s4
    replace hl2 := kJ19.same _ _ hl2
    replace hbody := kJ19.sqL hbody
    replace hx1 := kJ19.sqT hx1
    replace hla := kJ19.same _ _ hla
    replace hx2 := kJ19.sqT hx2
    replace hla2 := kJ19.same _ _ hla2
    replace ht := kJ19.sqT ht
    replace hfb := kJ19.same _ _ hfb
    replace hvp := kJ19.dp _ hvp
    replace hvf := kJ19.dp _ hvf
    replace hfl := kJ19.same _ _ hfl
    replace hys := kJ19.dpAll _ hys
    refine ⟨.list (l.map .int), .list ([].map .int), .lst (.inl (.inl hla)) (dpa_ints l), .lst (.inl (.inl h_m0)) .nil, ints_shaped _, ints_shaped [], _, rfl, ?_⟩
    rw [show PyData.eqv (.list (l.map .int)) (.list (([] : List Int).map .int)) = decide (l = []) by cases l <;> simp [PyData.eqv, PyData.eqvAll]]
    rw [decide_eq_false hcond.1]
    refine iteT ?_
    refine ⟨_, rfl, (by show 0 ≤ sizeLine; decide), fun m1 n_m1 => ?_⟩
    have kJ21 : Kx [] J19 (upd J19 m1 (.lst [])) := .new n_m1
    have h_m1 : (upd J19 m1 (.lst [])) m1 = some (.lst []) := upd_same
    generalize upd J19 m1 (.lst []) = J21 at kJ21 h_m1 ⊢
    replace kd := kd.trans (kJ21.sub (fun _ z => nomatch z))
    replace p2 := p2.keep kJ21
    replace ht1 := kJ21.sqT ht1
    replace ht2 := kJ21.sqT ht2
    replace di := kJ21.dp _ di
    replace dj := kJ21.dp _ dj
    replace s0 := kJ21.dp _ s0
    replace s1 := kJ21.dp _ s1
    replace hlb := kJ21.same _ _ hlb
    replace s2i := kJ21.dp _ s2i
    replace s2 := kJ21.dp _ s2
    replace s3 := kJ21.dp _ s3
    replace s4 := kJ21.dp _ s4
    replace hl2 := kJ21.same _ _ hl2
    replace hbody := kJ21.sqL hbody
    replace hx1 := kJ21.sqT hx1
    replace hla := kJ21.same _ _ hla
    replace hx2 := kJ21.sqT hx2
    replace hla2 := kJ21.same _ _ hla2
    replace ht := kJ21.sqT ht
    replace hfb := kJ21.same _ _ hfb
    replace hvp := kJ21.dp _ hvp
    replace hvf := kJ21.dp _ hvf
    replace hfl := kJ21.same _ _ hfl
    replace hys := kJ21.dpAll _ hys
    replace h_m0 := kJ21.same _ _ h_m0
    refine ⟨.list (l'.map .int), .list ([].map .int), .lst (.inl (.inl hla2)) (dpa_ints l'), .lst (.inl (.inl h_m1)) .nil, ints_shaped _, ints_shaped [], _, rfl, ?_⟩
    rw [show PyData.eqv (.list (l'.map .int)) (.list (([] : List Int).map .int)) = decide (l' = []) by cases l' <;> simp [PyData.eqv, PyData.eqvAll]]
    rw [decide_eq_true hcond.2]
    refine iteT ?_
    refine ⟨_, rfl, _, rfl, t1, _, _, _, rfl, rfl, ht1, atI_nat (j := 1) rfl, _, rfl, t1, _, _, _, rfl, rfl, ht1, atI_nat (j := 2) rfl, (by show 5 ≤ sizeLine; decide), fun fr n_fr => ?_⟩
    have kJ22 : Kx [] J21 (upd J21 fr (.tup [.str "loop", .str "i", .int by_, .int b, .int c])) := .new n_fr
    have dfr : Dp K (upd J21 fr (.tup [.str "loop", .str "i", .int by_, .int b, .int c])) (.ref fr) (frD (.loop "i" by_ b c)) := tup_new n_fr (.cons (.str _) (.cons (.str _) (.cons (.int _) (.cons (.int _) (.cons (.int _) .nil)))))
    generalize upd J21 fr (.tup [.str "loop", .str "i", .int by_, .int b, .int c]) = J22 at kJ22 dfr ⊢
    replace kd := kd.trans (kJ22.sub (fun _ z => nomatch z))
    replace p2 := p2.keep kJ22
    replace ht1 := kJ22.sqT ht1
    replace ht2 := kJ22.sqT ht2
    replace di := kJ22.dp _ di
    replace dj := kJ22.dp _ dj
    replace s0 := kJ22.dp _ s0
    replace s1 := kJ22.dp _ s1
    replace hlb := kJ22.same _ _ hlb
    replace s2i := kJ22.dp _ s2i
    replace s2 := kJ22.dp _ s2
    replace s3 := kJ22.dp _ s3
    replace s4 := kJ22.dp _ s4
    replace hl2 := kJ22.same _ _ hl2
    replace hbody := kJ22.sqL hbody
    replace hx1 := kJ22.sqT hx1
    replace hla := kJ22.same _ _ hla
    replace hx2 := kJ22.sqT hx2
    replace hla2 := kJ22.same _ _ hla2
    replace ht := kJ22.sqT ht
    replace hfb := kJ22.same _ _ hfb
    replace hvp := kJ22.dp _ hvp
    replace hvf := kJ22.dp _ hvf
    replace hfl := kJ22.same _ _ hfl
    replace hys := kJ22.dpAll _ hys
    replace h_m0 := kJ22.same _ _ h_m0
    replace h_m1 := kJ22.same _ _ h_m1
    simp only [List.set]
    refine ⟨_, rfl, _, rfl, _, _, rfl, rfl, .inl ⟨by decide, by decide⟩, ?_⟩
    intro bx n_bx
    refine ⟨_, rfl, t1, _, _, _, rfl, rfl, ((Kx.new (ks := []) n_bx).sqT ht1), atI_nat (j := 0) rfl, upd_same, [(Sum.inr "i", .int a)], rfl, (by show 1 ≤ 15; decide), ?_⟩
    rw [show mergeK [] [((Sum.inr "i" : Key), V.int a)] = bxs [("i", a)] by kernel_rfl]
    have kJ23 : Kx [] J22 (upd (upd J22 bx (.dK [])) bx (.dK (bxs [("i", a)]))) := (Kx.new (ks := []) n_bx).grow n_bx
    have hbx : (upd (upd J22 bx (.dK [])) bx (.dK (bxs [("i", a)]))) bx = some (.dK (bxs [("i", a)])) := upd_same
    generalize upd (upd J22 bx (.dK [])) bx (.dK (bxs [("i", a)])) = J23 at kJ23 hbx ⊢
    replace kd := kd.trans (kJ23.sub (fun _ z => nomatch z))
    replace p2 := p2.keep kJ23
    replace ht1 := kJ23.sqT ht1
    replace ht2 := kJ23.sqT ht2
    replace di := kJ23.dp _ di
    replace dj := kJ23.dp _ dj
    replace s0 := kJ23.dp _ s0
    replace s1 := kJ23.dp _ s1
    replace hlb := kJ23.same _ _ hlb
    replace s2i := kJ23.dp _ s2i
    replace s2 := kJ23.dp _ s2
    replace s3 := kJ23.dp _ s3
    replace s4 := kJ23.dp _ s4
    replace hl2 := kJ23.same _ _ hl2
    replace hbody := kJ23.sqL hbody
    replace hx1 := kJ23.sqT hx1
    replace hla := kJ23.same _ _ hla
    replace hx2 := kJ23.sqT hx2
    replace hla2 := kJ23.same _ _ hla2
    replace ht := kJ23.sqT ht
    replace hfb := kJ23.same _ _ hfb
    replace hvp := kJ23.dp _ hvp
    replace hvf := kJ23.dp _ hvf
    replace hfl := kJ23.same _ _ hfl
    replace hys := kJ23.dpAll _ hys
    replace h_m0 := kJ23.same _ _ h_m0
    replace h_m1 := kJ23.same _ _ h_m1
    replace dfr := kJ23.dp _ dfr
    refine ⟨_, rfl, (by show 1 ≤ sizeLine; decide), fun pt n_pt => ?_⟩
    have kJ24 : Kx [] J23 (upd J23 pt (.tup [.ref fr])) := .new n_pt
    have dpt : Dp K (upd J23 pt (.tup [.ref fr])) (.ref pt) (pileD [.loop "i" by_ b c]) := tup_new n_pt (.cons dfr .nil)
    generalize upd J23 pt (.tup [.ref fr]) = J24 at kJ24 dpt ⊢
    replace kd := kd.trans (kJ24.sub (fun _ z => nomatch z))
    replace p2 := p2.keep kJ24
    replace ht1 := kJ24.sqT ht1
    replace ht2 := kJ24.sqT ht2
    replace di := kJ24.dp _ di
    replace dj := kJ24.dp _ dj
    replace s0 := kJ24.dp _ s0
    replace s1 := kJ24.dp _ s1
    replace hlb := kJ24.same _ _ hlb
    replace s2i := kJ24.dp _ s2i
    replace s2 := kJ24.dp _ s2
    replace s3 := kJ24.dp _ s3
    replace s4 := kJ24.dp _ s4
    replace hl2 := kJ24.same _ _ hl2
    replace hbody := kJ24.sqL hbody
    replace hx1 := kJ24.sqT hx1
    replace hla := kJ24.same _ _ hla
    replace hx2 := kJ24.sqT hx2
    replace hla2 := kJ24.same _ _ hla2
    replace ht := kJ24.sqT ht
    replace hfb := kJ24.same _ _ hfb
    replace hvp := kJ24.dp _ hvp
    replace hvf := kJ24.dp _ hvf
    replace hfl := kJ24.same _ _ hfl
    replace hys := kJ24.dpAll _ hys
    replace h_m0 := kJ24.same _ _ h_m0
    replace h_m1 := kJ24.same _ _ h_m1
    replace dfr := kJ24.dp _ dfr
    replace hbx := kJ24.same _ _ hbx
    refine ⟨_, rfl, _, _, rfl, rfl, .inl ⟨by decide, by decide⟩, (by show 2 ≤ sizeLine; decide), fun ft2 n_ft2 => ?_⟩
    have kJ25 : Kx [] J24 (upd J24 ft2 (.tup [.str "again", .int (2 * by_)])) := .new n_ft2
    have dft : Dp K (upd J24 ft2 (.tup [.str "again", .int (2 * by_)])) (.ref ft2) (faultD (some ("again", 2 * by_))) := tup_new n_ft2 (.cons (.str _) (.cons (.int _) .nil))
    generalize upd J24 ft2 (.tup [.str "again", .int (2 * by_)]) = J25 at kJ25 dft ⊢
    replace kd := kd.trans (kJ25.sub (fun _ z => nomatch z))
    replace p2 := p2.keep kJ25
    replace ht1 := kJ25.sqT ht1
    replace ht2 := kJ25.sqT ht2
    replace di := kJ25.dp _ di
    replace dj := kJ25.dp _ dj
    replace s0 := kJ25.dp _ s0
    replace s1 := kJ25.dp _ s1
    replace hlb := kJ25.same _ _ hlb
    replace s2i := kJ25.dp _ s2i
    replace s2 := kJ25.dp _ s2
    replace s3 := kJ25.dp _ s3
    replace s4 := kJ25.dp _ s4
    replace hl2 := kJ25.same _ _ hl2
    replace hbody := kJ25.sqL hbody
    replace hx1 := kJ25.sqT hx1
    replace hla := kJ25.same _ _ hla
    replace hx2 := kJ25.sqT hx2
    replace hla2 := kJ25.same _ _ hla2
    replace ht := kJ25.sqT ht
    replace hfb := kJ25.same _ _ hfb
    replace hvp := kJ25.dp _ hvp
    replace hvf := kJ25.dp _ hvf
    replace hfl := kJ25.same _ _ hfl
    replace hys := kJ25.dpAll _ hys
    replace h_m0 := kJ25.same _ _ h_m0
    replace h_m1 := kJ25.same _ _ h_m1
    replace dfr := kJ25.dp _ dfr
    replace hbx := kJ25.same _ _ hbx
    replace dpt := kJ25.dp _ dpt
    refine ⟨(by show 0 ≤ sizeLine; decide), fun el n_el => ?_⟩
    have kJ26 : Kx [] J25 (upd J25 el (.lst [])) := .new n_el
    have hel : (upd J25 el (.lst [])) el = some (.lst []) := upd_same
    generalize upd J25 el (.lst []) = J26 at kJ26 hel ⊢
    replace kd := kd.trans (kJ26.sub (fun _ z => nomatch z))
    replace p2 := p2.keep kJ26
    replace ht1 := kJ26.sqT ht1
    replace ht2 := kJ26.sqT ht2
    replace di := kJ26.dp _ di
    replace dj := kJ26.dp _ dj
    replace s0 := kJ26.dp _ s0
    replace s1 := kJ26.dp _ s1
    replace hlb := kJ26.same _ _ hlb
    replace s2i := kJ26.dp _ s2i
    replace s2 := kJ26.dp _ s2
    replace s3 := kJ26.dp _ s3
    replace s4 := kJ26.dp _ s4
    replace hl2 := kJ26.same _ _ hl2
    replace hbody := kJ26.sqL hbody
    replace hx1 := kJ26.sqT hx1
    replace hla := kJ26.same _ _ hla
    replace hx2 := kJ26.sqT hx2
    replace hla2 := kJ26.same _ _ hla2
    replace ht := kJ26.sqT ht
    replace hfb := kJ26.same _ _ hfb
    replace hvp := kJ26.dp _ hvp
    replace hvf := kJ26.dp _ hvf
    replace hfl := kJ26.same _ _ hfl
    replace hys := kJ26.dpAll _ hys
    replace h_m0 := kJ26.same _ _ h_m0
    replace h_m1 := kJ26.same _ _ h_m1
    replace dfr := kJ26.dp _ dfr
    replace hbx := kJ26.same _ _ hbx
    replace dpt := kJ26.dp _ dpt
    replace dft := kJ26.dp _ dft
    refine ⟨(by show 6 ≤ sizeLine; decide), fun tt n_tt => ?_⟩
    have kJ27 : Kx [] J26 (upd J26 tt (.tup [.str "faulted", .int (2 * by_), .ref bx, .ref pt, .ref ft2, .ref el])) := .new n_tt
    have htt : SqT K (upd J26 tt (.tup [.str "faulted", .int (2 * by_), .ref bx, .ref pt, .ref ft2, .ref el])) tt [.str "faulted", .int (2 * by_), .ref bx, .ref pt, .ref ft2, .ref el] := .inl (.inl upd_same)
    generalize upd J26 tt (.tup [.str "faulted", .int (2 * by_), .ref bx, .ref pt, .ref ft2, .ref el]) = J27 at kJ27 htt ⊢
    replace kd := kd.trans (kJ27.sub (fun _ z => nomatch z))
    replace p2 := p2.keep kJ27
    replace ht1 := kJ27.sqT ht1
    replace ht2 := kJ27.sqT ht2
    replace di := kJ27.dp _ di
    replace dj := kJ27.dp _ dj
    replace s0 := kJ27.dp _ s0
    replace s1 := kJ27.dp _ s1
    replace hlb := kJ27.same _ _ hlb
    replace s2i := kJ27.dp _ s2i
    replace s2 := kJ27.dp _ s2
    replace s3 := kJ27.dp _ s3
    replace s4 := kJ27.dp _ s4
    replace hl2 := kJ27.same _ _ hl2
    replace hbody := kJ27.sqL hbody
    replace hx1 := kJ27.sqT hx1
    replace hla := kJ27.same _ _ hla
    replace hx2 := kJ27.sqT hx2
    replace hla2 := kJ27.same _ _ hla2
    replace ht := kJ27.sqT ht
    replace hfb := kJ27.same _ _ hfb
    replace hvp := kJ27.dp _ hvp
    replace hvf := kJ27.dp _ hvf
    replace hfl := kJ27.same _ _ hfl
    replace hys := kJ27.dpAll _ hys
    replace h_m0 := kJ27.same _ _ h_m0
    replace h_m1 := kJ27.same _ _ h_m1
    replace dfr := kJ27.dp _ dfr
    replace hbx := kJ27.same _ _ hbx
    replace dpt := kJ27.dp _ dpt
    replace dft := kJ27.dp _ dft
    replace hel := kJ27.same _ _ hel
    refine ⟨10, by decide, eq_six (said := []) (pile := [.loop "i" by_ b c]) (fault := some ("again", 2 * by_)) hnd ht htt hfb hbx hvp dpt hvf dft (.inl (.inl hfl)) (.inl (.inl hel)) hys .nil, ?_⟩
    exact q _ kd (p2.mono (by omega))
  · rw [if_neg hcond] at hrun
    refine ⟨_, rfl, _, rfl, body, _, outS a b c a' b' c', by_, _, rfl, hbody, hsts, out_ok _ _ _ _ _ _, hb.1, hb.2, hrun, fun G0 ft fb vp vf fl ys kG ht hfb hvp hvf hfl hys hnd => ?_⟩
    replace kd := kd.trans (kG.sub (fun _ z => nomatch z))
    replace p2 := p2.keep kG
    replace ht1 := kG.sqT ht1
    replace ht2 := kG.sqT ht2
    replace di := kG.dp _ di
    replace dj := kG.dp _ dj
    replace s0 := kG.dp _ s0
    replace s1 := kG.dp _ s1
    replace hlb := kG.same _ _ hlb
    replace s2i := kG.dp _ s2i
    replace s2 := kG.dp _ s2
    replace s3 := kG.dp _ s3
    replace s4 := kG.dp _ s4
    replace hl2 := kG.same _ _ hl2
    replace hbody := kG.sqL hbody
    replace hx1 := kG.sqT hx1
    replace hla := kG.same _ _ hla
    replace hx2 := kG.sqT hx2
    replace hla2 := kG.same _ _ hla2
    simp only [List.set]
    -- the test
    refine ⟨_, rfl, (by show 0 ≤ sizeLine; decide), fun m0 n_m0 => ?_⟩
    have kJ19 : Kx [] G0 (upd G0 m0 (.lst [])) := .new n_m0
    have h_m0 : (upd G0 m0 (.lst [])) m0 = some (.lst []) := upd_same
    generalize upd G0 m0 (.lst []) = J19 at kJ19 h_m0 ⊢
    replace kd := kd.trans (kJ19.sub (fun _ z => nomatch z))
    replace p2 := p2.keep kJ19
    replace ht1 := kJ19.sqT ht1
    replace ht2 := kJ19.sqT ht2
    replace di := kJ19.dp _ di
    replace dj := kJ19.dp _ dj
    replace s0 := kJ19.dp _ s0
    replace s1 := kJ19.dp _ s1
    replace hlb := kJ19.same _ _ hlb
    replace s2i := kJ19.dp _ s2i
    replace s2 := kJ19.dp _ s2
    replace s3 := kJ19.dp _ s3
    replace s4 := kJ19.dp _ s4
    replace hl2 := kJ19.same _ _ hl2
    replace hbody := kJ19.sqL hbody
    replace hx1 := kJ19.sqT hx1
    replace hla := kJ19.same _ _ hla
    replace hx2 := kJ19.sqT hx2
    replace hla2 := kJ19.same _ _ hla2
    replace ht := kJ19.sqT ht
    replace hfb := kJ19.same _ _ hfb
    replace hvp := kJ19.dp _ hvp
    replace hvf := kJ19.dp _ hvf
    replace hfl := kJ19.same _ _ hfl
    replace hys := kJ19.dpAll _ hys
    refine ⟨.list (l.map .int), .list ([].map .int), .lst (.inl (.inl hla)) (dpa_ints l), .lst (.inl (.inl h_m0)) .nil, ints_shaped _, ints_shaped [], _, rfl, ?_⟩
    rw [show PyData.eqv (.list (l.map .int)) (.list (([] : List Int).map .int)) = decide (l = []) by cases l <;> simp [PyData.eqv, PyData.eqvAll]]
    by_cases hl0 : l = []
    · rw [decide_eq_true hl0]
      refine iteF (iteF ?_)
      intro bx n_bx
      refine ⟨_, rfl, upd_same, [(Sum.inr "i", .int z)], rfl, (by show 1 ≤ 15; decide), ?_⟩
      rw [show mergeK [] [((Sum.inr "i" : Key), V.int z)] = bxs [("i", z)] by kernel_rfl]
      have kJ20 : Kx [] J19 (upd (upd J19 bx (.dK [])) bx (.dK (bxs [("i", z)]))) := (Kx.new (ks := []) n_bx).grow n_bx
      have hbx : (upd (upd J19 bx (.dK [])) bx (.dK (bxs [("i", z)]))) bx = some (.dK (bxs [("i", z)])) := upd_same
      have kold : Kx [] J19 (upd (upd J19 bx (.dK [])) bx (.dK (bxs [("i", z)]))) := kJ20
      generalize upd (upd J19 bx (.dK [])) bx (.dK (bxs [("i", z)])) = J20 at kJ20 kold hbx ⊢
      replace kd := kd.trans (kJ20.sub (fun _ z => nomatch z))
      replace p2 := p2.keep kJ20
      replace ht1 := kJ20.sqT ht1
      replace ht2 := kJ20.sqT ht2
      replace di := kJ20.dp _ di
      replace dj := kJ20.dp _ dj
      replace s0 := kJ20.dp _ s0
      replace s1 := kJ20.dp _ s1
      replace hlb := kJ20.same _ _ hlb
      replace s2i := kJ20.dp _ s2i
      replace s2 := kJ20.dp _ s2
      replace s3 := kJ20.dp _ s3
      replace s4 := kJ20.dp _ s4
      replace hl2 := kJ20.same _ _ hl2
      replace hbody := kJ20.sqL hbody
      replace hx1 := kJ20.sqT hx1
      replace hla := kJ20.same _ _ hla
      replace hx2 := kJ20.sqT hx2
      replace hla2 := kJ20.same _ _ hla2
      replace ht := kJ20.sqT ht
      replace hfb := kJ20.same _ _ hfb
      replace hvp := kJ20.dp _ hvp
      replace hvf := kJ20.dp _ hvf
      replace hfl := kJ20.same _ _ hfl
      replace hys := kJ20.dpAll _ hys
      replace h_m0 := kJ20.same _ _ h_m0
      clear kold
      simp only [List.set]
      refine ⟨_, rfl, (by show 0 ≤ sizeLine; decide), fun m2 n_m2 => ?_⟩
      have kJ22 : Kx [] J20 (upd J20 m2 (.lst [])) := .new n_m2
      have h_m2 : (upd J20 m2 (.lst [])) m2 = some (.lst []) := upd_same
      generalize upd J20 m2 (.lst []) = J22 at kJ22 h_m2 ⊢
      replace kd := kd.trans (kJ22.sub (fun _ z => nomatch z))
      replace p2 := p2.keep kJ22
      replace ht1 := kJ22.sqT ht1
      replace ht2 := kJ22.sqT ht2
      replace di := kJ22.dp _ di
      replace dj := kJ22.dp _ dj
      replace s0 := kJ22.dp _ s0
      replace s1 := kJ22.dp _ s1
      replace hlb := kJ22.same _ _ hlb
      replace s2i := kJ22.dp _ s2i
      replace s2 := kJ22.dp _ s2
      replace s3 := kJ22.dp _ s3
      replace s4 := kJ22.dp _ s4
      replace hl2 := kJ22.same _ _ hl2
      replace hbody := kJ22.sqL hbody
      replace hx1 := kJ22.sqT hx1
      replace hla := kJ22.same _ _ hla
      replace hx2 := kJ22.sqT hx2
      replace hla2 := kJ22.same _ _ hla2
      replace ht := kJ22.sqT ht
      replace hfb := kJ22.same _ _ hfb
      replace hvp := kJ22.dp _ hvp
      replace hvf := kJ22.dp _ hvf
      replace hfl := kJ22.same _ _ hfl
      replace hys := kJ22.dpAll _ hys
      replace h_m0 := kJ22.same _ _ h_m0
      replace hbx := kJ22.same _ _ hbx
      refine ⟨.list (l.map .int), .list ([].map .int), .lst (.inl (.inl hla)) (dpa_ints l), .lst (.inl (.inl h_m2)) .nil, ints_shaped _, ints_shaped [], _, rfl, ?_⟩
      rw [show PyData.eqv (.list (l.map .int)) (.list (([] : List Int).map .int)) = decide (l = []) by cases l <;> simp [PyData.eqv, PyData.eqvAll]]
      rw [decide_eq_true hl0]
      refine iteF ?_
      refine ⟨_, rfl, _, rfl, (by show 0 ≤ sizeLine; decide), fun e0 n_e0 => ?_⟩
      have kJ23 : Kx [] J22 (upd J22 e0 (.tup [])) := .new n_e0
      have de0 : Dp K (upd J22 e0 (.tup [])) (.ref e0) (pileD []) := tup_new n_e0 .nil
      generalize upd J22 e0 (.tup []) = J23 at kJ23 de0 ⊢
      replace kd := kd.trans (kJ23.sub (fun _ z => nomatch z))
      replace p2 := p2.keep kJ23
      replace ht1 := kJ23.sqT ht1
      replace ht2 := kJ23.sqT ht2
      replace di := kJ23.dp _ di
      replace dj := kJ23.dp _ dj
      replace s0 := kJ23.dp _ s0
      replace s1 := kJ23.dp _ s1
      replace hlb := kJ23.same _ _ hlb
      replace s2i := kJ23.dp _ s2i
      replace s2 := kJ23.dp _ s2
      replace s3 := kJ23.dp _ s3
      replace s4 := kJ23.dp _ s4
      replace hl2 := kJ23.same _ _ hl2
      replace hbody := kJ23.sqL hbody
      replace hx1 := kJ23.sqT hx1
      replace hla := kJ23.same _ _ hla
      replace hx2 := kJ23.sqT hx2
      replace hla2 := kJ23.same _ _ hla2
      replace ht := kJ23.sqT ht
      replace hfb := kJ23.same _ _ hfb
      replace hvp := kJ23.dp _ hvp
      replace hvf := kJ23.dp _ hvf
      replace hfl := kJ23.same _ _ hfl
      replace hys := kJ23.dpAll _ hys
      replace h_m0 := kJ23.same _ _ h_m0
      replace hbx := kJ23.same _ _ hbx
      replace h_m2 := kJ23.same _ _ h_m2
      refine ⟨_, rfl, la, rfl, ⟨_, .inl (.inl hla)⟩, fun D hD => lc_list (K := K) (a := la) (xs := l.map V.int) (fun j H'' => Kx [] J23 H'' ∧ ∃ zs, H'' D = some (.lst zs) ∧ DpAll K H'' zs (((l.take j).map fun x => [x, a']).map rowD)) ⟨.new hD, [], upd_same, by rw [List.take_zero]; exact .nil⟩ (fun j H'' _ h => .inl (.inl (h.1.same _ _ hla))) ?_ ?_⟩
      · rintro j y H'' hy ⟨k2, zs, hz, hzd⟩
        rw [List.getElem?_map] at hy
        cases hlj : l[j]? with
        | none => rw [hlj] at hy; cases hy
        | some y0 =>
          rw [hlj] at hy
          cases hy
          have hzl : zs.length ≤ 8 := by
            rw [dpa_len hzd, List.length_map, List.length_map, List.length_take]
            omega
          refine ⟨rfl, _, rfl, _, rfl, t2, _, _, _, rfl, rfl, k2.sqT ht2, atI_nat (j := 0) rfl, (by show 2 ≤ sizeLine; decide), fun t nt => ?_⟩
          have k3 : Kx [] H'' (upd H'' t (.tup [.int y0, .int a'])) := .new nt
          have D3 : Dp K (upd H'' t (.tup [.int y0, .int a'])) (.ref t) (rowD [y0, a']) := tup_new nt (.cons (.int _) (.cons (.int _) .nil))
          have hz3 := k3.same _ _ hz
          refine ⟨_, hz3, small1000 (by omega), (k2.trans k3).grow hD, zs ++ [.ref t], upd_same, ?_⟩
          obtain ⟨h1, h2⟩ := List.getElem?_eq_some_iff.mp hlj
          rw [List.take_succ_eq_append_getElem h1, h2, List.map_append, List.map_append]
          exact dpa_up hz3 _ (fun dd hd => by
            rcases List.mem_append.mp hd with hd | hd
            · exact nol_rows _ dd hd
            · exact nol_rows [_] dd hd) (dpa_app (k3.dpAll _ hzd) (.cons D3 .nil))
      · rintro H9 ⟨kH9, zs, hz, hzd⟩
        rw [List.length_map, List.take_length] at hzd
        replace kd := kd.trans (kH9.sub (fun _ z => nomatch z))
        replace p2 := p2.keep kH9
        replace ht1 := kH9.sqT ht1
        replace ht2 := kH9.sqT ht2
        replace di := kH9.dp _ di
        replace dj := kH9.dp _ dj
        replace s0 := kH9.dp _ s0
        replace s1 := kH9.dp _ s1
        replace hlb := kH9.same _ _ hlb
        replace s2i := kH9.dp _ s2i
        replace s2 := kH9.dp _ s2
        replace s3 := kH9.dp _ s3
        replace s4 := kH9.dp _ s4
        replace hl2 := kH9.same _ _ hl2
        replace hbody := kH9.sqL hbody
        replace hx1 := kH9.sqT hx1
        replace hla := kH9.same _ _ hla
        replace hx2 := kH9.sqT hx2
        replace hla2 := kH9.same _ _ hla2
        replace ht := kH9.sqT ht
        replace hfb := kH9.same _ _ hfb
        replace hvp := kH9.dp _ hvp
        replace hvf := kH9.dp _ hvf
        replace hfl := kH9.same _ _ hfl
        replace hys := kH9.dpAll _ hys
        replace h_m0 := kH9.same _ _ h_m0
        replace hbx := kH9.same _ _ hbx
        replace h_m2 := kH9.same _ _ h_m2
        replace de0 := kH9.dp _ de0
        refine ⟨(by show 6 ≤ sizeLine; decide), fun tt n_tt => ?_⟩
        have kJ24 : Kx [] H9 (upd H9 tt (.tup [.str "ended", .int 0, .ref bx, .ref e0, .non, .ref D])) := .new n_tt
        have htt : SqT K (upd H9 tt (.tup [.str "ended", .int 0, .ref bx, .ref e0, .non, .ref D])) tt [.str "ended", .int 0, .ref bx, .ref e0, .non, .ref D] := .inl (.inl upd_same)
        generalize upd H9 tt (.tup [.str "ended", .int 0, .ref bx, .ref e0, .non, .ref D]) = J24 at kJ24 htt ⊢
        replace kd := kd.trans (kJ24.sub (fun _ z => nomatch z))
        replace p2 := p2.keep kJ24
        replace ht1 := kJ24.sqT ht1
        replace ht2 := kJ24.sqT ht2
        replace di := kJ24.dp _ di
        replace dj := kJ24.dp _ dj
        replace s0 := kJ24.dp _ s0
        replace s1 := kJ24.dp _ s1
        replace hlb := kJ24.same _ _ hlb
        replace s2i := kJ24.dp _ s2i
        replace s2 := kJ24.dp _ s2
        replace s3 := kJ24.dp _ s3
        replace s4 := kJ24.dp _ s4
        replace hl2 := kJ24.same _ _ hl2
        replace hbody := kJ24.sqL hbody
        replace hx1 := kJ24.sqT hx1
        replace hla := kJ24.same _ _ hla
        replace hx2 := kJ24.sqT hx2
        replace hla2 := kJ24.same _ _ hla2
        replace ht := kJ24.sqT ht
        replace hfb := kJ24.same _ _ hfb
        replace hvp := kJ24.dp _ hvp
        replace hvf := kJ24.dp _ hvf
        replace hfl := kJ24.same _ _ hfl
        replace hys := kJ24.dpAll _ hys
        replace h_m0 := kJ24.same _ _ h_m0
        replace hbx := kJ24.same _ _ hbx
        replace h_m2 := kJ24.same _ _ h_m2
        replace de0 := kJ24.dp _ de0
        replace hz := kJ24.same _ _ hz
        replace hzd := kJ24.dpAll _ hzd
        have ebx : (if l = [] then ([("i", z)] : List (Str × Int)) else ([("i", z), ("j", a')] : List (Str × Int))) = ([("i", z)] : List (Str × Int)) := by simp [hl0]
        rw [ebx] at hfb hnd
        refine ⟨10, by decide, eq_six (said := l.map fun x => [x, a']) (pile := []) (fault := none) hnd ht htt hfb hbx hvp de0 hvf .non (.inl (.inl hfl)) (.inl (.inl hz)) hys hzd, ?_⟩
        exact q _ kd (p2.mono (by omega))
    · rw [decide_eq_false hl0]
      refine iteT ?_
      refine ⟨_, rfl, (by show 0 ≤ sizeLine; decide), fun m1 n_m1 => ?_⟩
      have kJ21 : Kx [] J19 (upd J19 m1 (.lst [])) := .new n_m1
      have h_m1 : (upd J19 m1 (.lst [])) m1 = some (.lst []) := upd_same
      generalize upd J19 m1 (.lst []) = J21 at kJ21 h_m1 ⊢
      replace kd := kd.trans (kJ21.sub (fun _ z => nomatch z))
      replace p2 := p2.keep kJ21
      replace ht1 := kJ21.sqT ht1
      replace ht2 := kJ21.sqT ht2
      replace di := kJ21.dp _ di
      replace dj := kJ21.dp _ dj
      replace s0 := kJ21.dp _ s0
      replace s1 := kJ21.dp _ s1
      replace hlb := kJ21.same _ _ hlb
      replace s2i := kJ21.dp _ s2i
      replace s2 := kJ21.dp _ s2
      replace s3 := kJ21.dp _ s3
      replace s4 := kJ21.dp _ s4
      replace hl2 := kJ21.same _ _ hl2
      replace hbody := kJ21.sqL hbody
      replace hx1 := kJ21.sqT hx1
      replace hla := kJ21.same _ _ hla
      replace hx2 := kJ21.sqT hx2
      replace hla2 := kJ21.same _ _ hla2
      replace ht := kJ21.sqT ht
      replace hfb := kJ21.same _ _ hfb
      replace hvp := kJ21.dp _ hvp
      replace hvf := kJ21.dp _ hvf
      replace hfl := kJ21.same _ _ hfl
      replace hys := kJ21.dpAll _ hys
      replace h_m0 := kJ21.same _ _ h_m0
      refine ⟨.list (l'.map .int), .list ([].map .int), .lst (.inl (.inl hla2)) (dpa_ints l'), .lst (.inl (.inl h_m1)) .nil, ints_shaped _, ints_shaped [], _, rfl, ?_⟩
      rw [show PyData.eqv (.list (l'.map .int)) (.list (([] : List Int).map .int)) = decide (l' = []) by cases l' <;> simp [PyData.eqv, PyData.eqvAll]]
      rw [decide_eq_false (fun e => hcond ⟨hl0, e⟩)]
      refine iteF ?_
      intro bx n_bx
      refine ⟨_, rfl, upd_same, [(Sum.inr "i", .int z)], rfl, (by show 1 ≤ 15; decide), ?_⟩
      rw [show mergeK [] [((Sum.inr "i" : Key), V.int z)] = bxs [("i", z)] by kernel_rfl]
      have kJ22 : Kx [] J21 (upd (upd J21 bx (.dK [])) bx (.dK (bxs [("i", z)]))) := (Kx.new (ks := []) n_bx).grow n_bx
      have hbx : (upd (upd J21 bx (.dK [])) bx (.dK (bxs [("i", z)]))) bx = some (.dK (bxs [("i", z)])) := upd_same
      have kold : Kx [] J21 (upd (upd J21 bx (.dK [])) bx (.dK (bxs [("i", z)]))) := kJ22
      generalize upd (upd J21 bx (.dK [])) bx (.dK (bxs [("i", z)])) = J22 at kJ22 kold hbx ⊢
      simp only [List.set]
      refine ⟨_, rfl, (by show 0 ≤ sizeLine; decide), fun m2 n_m2 => ?_⟩
      have kJ23 : Kx [] J22 (upd J22 m2 (.lst [])) := .new n_m2
      have h_m2 : upd J22 m2 (.lst []) m2 = some (.lst []) := upd_same
      generalize upd J22 m2 (.lst []) = J23 at kJ23 h_m2 ⊢
      replace hbx := kJ23.same _ _ hbx
      replace kold := kold.trans kJ23
      refine ⟨.list (l.map .int), .list ([].map .int), .lst (.inl (.inl (kold.same _ _ hla))) (dpa_ints l), .lst (.inl (.inl h_m2)) .nil, ints_shaped _, ints_shaped [], _, rfl, ?_⟩
      rw [show PyData.eqv (.list (l.map .int)) (.list (([] : List Int).map .int)) = decide (l = []) by cases l <;> simp [PyData.eqv, PyData.eqvAll]]
      rw [decide_eq_false hl0]
      refine iteT ?_
      refine ⟨_, rfl, t2, _, _, _, rfl, rfl, (kold.sqT ht2), atI_nat (j := 0) rfl, _, rfl, bx, _, rfl, dput (k := Sum.inr "j") hbx (by show 1 ≤ 1000; decide), ?_⟩
      rw [show putK (bxs [("i", z)]) (Sum.inr "j" : Key) (.int a') = bxs [("i", z), ("j", a')] by kernel_rfl]
      replace kold := kold.old (o := .dK (bxs [("i", z), ("j", a')])) n_bx
      replace hbx : upd J23 bx (.dK (bxs [("i", z), ("j", a')])) bx = some (.dK (bxs [("i", z), ("j", a')])) := upd_same
      generalize upd J23 bx (.dK (bxs [("i", z), ("j", a')])) = J24 at kold hbx ⊢
      replace kd := kd.trans (kold.sub (fun _ z => nomatch z))
      replace p2 := p2.keep kold
      replace ht1 := kold.sqT ht1
      replace ht2 := kold.sqT ht2
      replace di := kold.dp _ di
      replace dj := kold.dp _ dj
      replace s0 := kold.dp _ s0
      replace s1 := kold.dp _ s1
      replace hlb := kold.same _ _ hlb
      replace s2i := kold.dp _ s2i
      replace s2 := kold.dp _ s2
      replace s3 := kold.dp _ s3
      replace s4 := kold.dp _ s4
      replace hl2 := kold.same _ _ hl2
      replace hbody := kold.sqL hbody
      replace hx1 := kold.sqT hx1
      replace hla := kold.same _ _ hla
      replace hx2 := kold.sqT hx2
      replace hla2 := kold.same _ _ hla2
      replace ht := kold.sqT ht
      replace hfb := kold.same _ _ hfb
      replace hvp := kold.dp _ hvp
      replace hvf := kold.dp _ hvf
      replace hfl := kold.same _ _ hfl
      replace hys := kold.dpAll _ hys
      replace h_m0 := kold.same _ _ h_m0
      replace h_m1 := kold.same _ _ h_m1
      refine ⟨_, rfl, _, rfl, (by show 0 ≤ sizeLine; decide), fun e0 n_e0 => ?_⟩
      have kJ25 : Kx [] J24 (upd J24 e0 (.tup [])) := .new n_e0
      have de0 : Dp K (upd J24 e0 (.tup [])) (.ref e0) (pileD []) := tup_new n_e0 .nil
      generalize upd J24 e0 (.tup []) = J25 at kJ25 de0 ⊢
      replace kd := kd.trans (kJ25.sub (fun _ z => nomatch z))
      replace p2 := p2.keep kJ25
      replace ht1 := kJ25.sqT ht1
      replace ht2 := kJ25.sqT ht2
      replace di := kJ25.dp _ di
      replace dj := kJ25.dp _ dj
      replace s0 := kJ25.dp _ s0
      replace s1 := kJ25.dp _ s1
      replace hlb := kJ25.same _ _ hlb
      replace s2i := kJ25.dp _ s2i
      replace s2 := kJ25.dp _ s2
      replace s3 := kJ25.dp _ s3
      replace s4 := kJ25.dp _ s4
      replace hl2 := kJ25.same _ _ hl2
      replace hbody := kJ25.sqL hbody
      replace hx1 := kJ25.sqT hx1
      replace hla := kJ25.same _ _ hla
      replace hx2 := kJ25.sqT hx2
      replace hla2 := kJ25.same _ _ hla2
      replace ht := kJ25.sqT ht
      replace hfb := kJ25.same _ _ hfb
      replace hvp := kJ25.dp _ hvp
      replace hvf := kJ25.dp _ hvf
      replace hfl := kJ25.same _ _ hfl
      replace hys := kJ25.dpAll _ hys
      replace h_m0 := kJ25.same _ _ h_m0
      replace h_m1 := kJ25.same _ _ h_m1
      replace hbx := kJ25.same _ _ hbx
      refine ⟨_, rfl, la, rfl, ⟨_, .inl (.inl hla)⟩, fun D hD => lc_list (K := K) (a := la) (xs := l.map V.int) (fun j H'' => Kx [] J25 H'' ∧ ∃ zs, H'' D = some (.lst zs) ∧ DpAll K H'' zs (((l.take j).map fun x => [x, a']).map rowD)) ⟨.new hD, [], upd_same, by rw [List.take_zero]; exact .nil⟩ (fun j H'' _ h => .inl (.inl (h.1.same _ _ hla))) ?_ ?_⟩
      · rintro j y H'' hy ⟨k2, zs, hz, hzd⟩
        rw [List.getElem?_map] at hy
        cases hlj : l[j]? with
        | none => rw [hlj] at hy; cases hy
        | some y0 =>
          rw [hlj] at hy
          cases hy
          have hzl : zs.length ≤ 8 := by
            rw [dpa_len hzd, List.length_map, List.length_map, List.length_take]
            omega
          refine ⟨rfl, _, rfl, _, rfl, t2, _, _, _, rfl, rfl, k2.sqT ht2, atI_nat (j := 0) rfl, (by show 2 ≤ sizeLine; decide), fun t nt => ?_⟩
          have k3 : Kx [] H'' (upd H'' t (.tup [.int y0, .int a'])) := .new nt
          have D3 : Dp K (upd H'' t (.tup [.int y0, .int a'])) (.ref t) (rowD [y0, a']) := tup_new nt (.cons (.int _) (.cons (.int _) .nil))
          have hz3 := k3.same _ _ hz
          refine ⟨_, hz3, small1000 (by omega), (k2.trans k3).grow hD, zs ++ [.ref t], upd_same, ?_⟩
          obtain ⟨h1, h2⟩ := List.getElem?_eq_some_iff.mp hlj
          rw [List.take_succ_eq_append_getElem h1, h2, List.map_append, List.map_append]
          exact dpa_up hz3 _ (fun dd hd => by
            rcases List.mem_append.mp hd with hd | hd
            · exact nol_rows _ dd hd
            · exact nol_rows [_] dd hd) (dpa_app (k3.dpAll _ hzd) (.cons D3 .nil))
      · rintro H9 ⟨kH9, zs, hz, hzd⟩
        rw [List.length_map, List.take_length] at hzd
        replace kd := kd.trans (kH9.sub (fun _ z => nomatch z))
        replace p2 := p2.keep kH9
        replace ht1 := kH9.sqT ht1
        replace ht2 := kH9.sqT ht2
        replace di := kH9.dp _ di
        replace dj := kH9.dp _ dj
        replace s0 := kH9.dp _ s0
        replace s1 := kH9.dp _ s1
        replace hlb := kH9.same _ _ hlb
        replace s2i := kH9.dp _ s2i
        replace s2 := kH9.dp _ s2
        replace s3 := kH9.dp _ s3
        replace s4 := kH9.dp _ s4
        replace hl2 := kH9.same _ _ hl2
        replace hbody := kH9.sqL hbody
        replace hx1 := kH9.sqT hx1
        replace hla := kH9.same _ _ hla
        replace hx2 := kH9.sqT hx2
        replace hla2 := kH9.same _ _ hla2
        replace ht := kH9.sqT ht
        replace hfb := kH9.same _ _ hfb
        replace hvp := kH9.dp _ hvp
        replace hvf := kH9.dp _ hvf
        replace hfl := kH9.same _ _ hfl
        replace hys := kH9.dpAll _ hys
        replace h_m0 := kH9.same _ _ h_m0
        replace h_m1 := kH9.same _ _ h_m1
        replace hbx := kH9.same _ _ hbx
        replace de0 := kH9.dp _ de0
        refine ⟨(by show 6 ≤ sizeLine; decide), fun tt n_tt => ?_⟩
        have kJ26 : Kx [] H9 (upd H9 tt (.tup [.str "ended", .int 0, .ref bx, .ref e0, .non, .ref D])) := .new n_tt
        have htt : SqT K (upd H9 tt (.tup [.str "ended", .int 0, .ref bx, .ref e0, .non, .ref D])) tt [.str "ended", .int 0, .ref bx, .ref e0, .non, .ref D] := .inl (.inl upd_same)
        generalize upd H9 tt (.tup [.str "ended", .int 0, .ref bx, .ref e0, .non, .ref D]) = J26 at kJ26 htt ⊢
        replace kd := kd.trans (kJ26.sub (fun _ z => nomatch z))
        replace p2 := p2.keep kJ26
        replace ht1 := kJ26.sqT ht1
        replace ht2 := kJ26.sqT ht2
        replace di := kJ26.dp _ di
        replace dj := kJ26.dp _ dj
        replace s0 := kJ26.dp _ s0
        replace s1 := kJ26.dp _ s1
        replace hlb := kJ26.same _ _ hlb
        replace s2i := kJ26.dp _ s2i
        replace s2 := kJ26.dp _ s2
        replace s3 := kJ26.dp _ s3
        replace s4 := kJ26.dp _ s4
        replace hl2 := kJ26.same _ _ hl2
        replace hbody := kJ26.sqL hbody
        replace hx1 := kJ26.sqT hx1
        replace hla := kJ26.same _ _ hla
        replace hx2 := kJ26.sqT hx2
        replace hla2 := kJ26.same _ _ hla2
        replace ht := kJ26.sqT ht
        replace hfb := kJ26.same _ _ hfb
        replace hvp := kJ26.dp _ hvp
        replace hvf := kJ26.dp _ hvf
        replace hfl := kJ26.same _ _ hfl
        replace hys := kJ26.dpAll _ hys
        replace h_m0 := kJ26.same _ _ h_m0
        replace h_m1 := kJ26.same _ _ h_m1
        replace hbx := kJ26.same _ _ hbx
        replace de0 := kJ26.dp _ de0
        replace hz := kJ26.same _ _ hz
        replace hzd := kJ26.dpAll _ hzd
        have ebx : (if l = [] then ([("i", z)] : List (Str × Int)) else ([("i", z), ("j", a')] : List (Str × Int))) = ([("i", z), ("j", a')] : List (Str × Int)) := by simp [hl0]
        rw [ebx] at hfb hnd
        refine ⟨10, by decide, eq_six (said := l.map fun x => [x, a']) (pile := []) (fault := none) hnd ht htt hfb hbx hvp de0 hvf .non (.inl (.inl hfl)) (.inl (.inl hz)) hys hzd, ?_⟩
        exact q _ kd (p2.mono (by omega))
end
end K31
/-! the law's rights: a loop begun again by its name, one left by a jump -/
namespace K31
open PySem PySem.Spec PyProof.Rows L2
section
variable {P : Program} {w : World} {K : PySem.W.Frag} {mg : Str → Option Value} {base : Heap}
theorem nm_set (e : Ex) (h : nmE e = true) : nmS (.set "c" e) = true := by simp [nmS, nm_c, h]
theorem nm_bx : nmL (.box "c") = true := nm_c
theorem nm_add : nmE (.add (.box "c") (.num 1)) = true := by simp [nmE, nm_bx]; rfl
theorem nm_eq (n : Int) : nmE (.eq (.box "c") (.num n)) = true := by simp [nmE, nm_bx]; rfl
theorem beg_ok (last turn : Int) : StsOk (begS last turn) := by
  refine ⟨by show 7 ≤ 20; decide, fun st hst => ?_, fun st hst => ?_⟩
  · simp only [begS, List.mem_cons, List.not_mem_nil, or_false] at hst
    rcases hst with rfl | rfl | rfl | rfl | rfl | rfl | rfl
    · exact ⟨by show 1 ≤ 100; decide, nm_set _ rfl⟩
    · exact ⟨by show 3 ≤ 100; decide, nm_loop nm_i _ _ _⟩
    · exact ⟨by show 1 ≤ 100; decide, nm_set _ nm_add⟩
    · exact ⟨by show 1 ≤ 100; decide, nm_eq _⟩
    · exact ⟨by show 0 ≤ 100; decide, nm_i⟩
    · exact ⟨by show 2 ≤ 100; decide, by simp [nmS, nm_bI, nm_bC]⟩
    · exact ⟨by show 0 ≤ 100; decide, rfl⟩
  · simp only [begS, List.mem_cons, List.not_mem_nil, or_false] at hst
    rcases hst with rfl | rfl | rfl | rfl | rfl | rfl | rfl <;> first | exact trivial | exact ⟨by decide, by decide⟩
theorem away_ok (last turn : Int) : StsOk (awayS last turn) := by
  refine ⟨by show 7 ≤ 20; decide, fun st hst => ?_, fun st hst => ?_⟩
  · simp only [awayS, List.mem_cons, List.not_mem_nil, or_false] at hst
    rcases hst with rfl | rfl | rfl | rfl | rfl | rfl | rfl
    · exact ⟨by show 1 ≤ 100; decide, nm_set _ rfl⟩
    · exact ⟨by show 3 ≤ 100; decide, nm_loop nm_i _ _ _⟩
    · exact ⟨by show 1 ≤ 100; decide, nm_set _ nm_add⟩
    · exact ⟨by show 1 ≤ 100; decide, nm_eq _⟩
    · exact ⟨by show 0 ≤ 100; decide, nm_i⟩
    · exact ⟨by show 2 ≤ 100; decide, by simp [nmS, nm_bI, nm_bC]⟩
    · exact ⟨by show 0 ≤ 100; decide, rfl⟩
  · simp only [awayS, List.mem_cons, List.not_mem_nil, or_false] at hst
    rcases hst with rfl | rfl | rfl | rfl | rfl | rfl | rfl <;> first | exact trivial | exact ⟨by decide, by decide⟩
theorem sc_law_begun_again_right : FnScope ["_law_pen_here", "_law_by", "_law_last", "_law_turn", "_law_c", "_law_body", "_law_due", "_law_away", "_law_found", "_law_frame"] ["_law_pen_here", "_law_by"] (defScope s_law_begun_again_right) :=
  ⟨rfl, rfl, rfl, by decide +kernel, rfl, by decide +kernel, by decide +kernel⟩
theorem gf_law_begun_again_right (T : Txt w K mg) : Gf P w K mg base 10 "_law_begun_again_right" (spRight K 2) := by
  have nd := sc_law_begun_again_right.nd
  refine gf_mk T.law_begun_again_right sc_law_begun_again_right (fun vs H Q E h => ?_) (fun _ _ _ _ _ _ us hl => match us, hl with | [_, _], _ => rfl) (fun f cdv A outer s H vs Q E hr h => ?_)
  · obtain ⟨d, by_, N, rfl, hby, hN, hp, q⟩ := h
    rfl
  obtain ⟨d, by_, N, rfl, hby, hN, hp, q⟩ := h
  have hu := hu_of hr
  have G_three := (gf_law_three (P := P) (base := base) T)
  have G_loop := (gf_law_loop_line (P := P) (base := base) T)
  have G_rounds := (gf_law_rounds (P := P) (base := base) T)
  have G_comes := (gf_law_comes_to (P := P) (base := base) T)
  have G_draw := (gf_law_draw (P := P) (base := base) T)
  refine ⟨_, (pss_cons (sT 2 nd (pe_op op_add pe_int (pe_callG G_draw (hr.mono (by decide)) (pa_cons (pv 0) (pa_cons pe_int pa_nil)))))
    (pss_cons (sT 3 nd (pe_op op_add pe_int (pe_callG G_draw (hr.mono (by decide)) (pa_cons (pv 0) (pa_cons pe_int pa_nil)))))
    (pss_cons (sT 4 nd (pe_tup (pa_cons pe_str (pa_cons pe_str pa_nil))))
    (pss_cons (sT 5 nd (pe_lst (pa_cons (pe_tup (pa_cons pe_str (pa_cons pe_str (pa_cons (pe_tup (pa_cons pe_str (pa_cons pe_int pa_nil))) pa_nil)))) (pa_cons (pe_callG G_loop (hr.mono (by decide)) (pa_cons pe_str (pa_cons pe_int (pa_cons (pv 2) (pa_cons pe_int pa_nil))))) (pa_cons (pe_tup (pa_cons pe_str (pa_cons pe_str (pa_cons (pe_tup (pa_cons pe_str (pa_cons (pv 4) (pa_cons (pe_tup (pa_cons pe_str (pa_cons pe_int pa_nil))) pa_nil)))) pa_nil)))) pa_nil)))))
    (pss_cons (sT 5 nd (pe_op op_cat (pv 5) (pe_lst (pa_cons (pe_tup (pa_cons pe_str (pa_cons (pe_tup (pa_cons pe_str (pa_cons (pv 4) (pa_cons (pe_tup (pa_cons pe_str (pa_cons (pv 3) pa_nil))) pa_nil)))) (pa_cons pe_int pa_nil)))) (pa_cons (pe_tup (pa_cons pe_str (pa_cons pe_str pa_nil))) (pa_cons (pe_tup (pa_cons pe_str (pa_cons (pe_tup (pa_cons (pv 4) (pa_cons (pe_tup (pa_cons pe_str (pa_cons pe_str pa_nil))) pa_nil))) pa_nil))) (pa_cons (pe_tup (pa_cons pe_str pa_nil)) pa_nil)))))))
    (pss_cons (sT 6 nd (pe_op op_add (pv 2) (pe_ifExp (pt_cmpR op_le (pv 3) (pv 2) (nomark _)) (pv 3) pe_int)))
    (pss_cons (ps_if (pt_cmpR (op_neW hr.units) (pe_slice sl_tupA (pe_callG G_comes (hr.mono (by decide)) (pa_cons (pv 5) (pa_cons (pv 1) pa_nil))) (po_some pe_int) po_none) (pe_tup (pa_cons (pe_disp (pps_cons pe_str (pv 6) (pps_cons pe_str (pe_op op_add (pv 2) pe_int) pps_nil)) (by rfl) (by rfl) (fun z => by cases z) (by decide)) (pa_cons (pe_tup pa_nil) (pa_cons pe_non (pa_cons (pe_lst (pa_cons (pe_tup (pa_cons (pv 6) (pa_cons (pe_op op_add (pv 2) pe_int) pa_nil))) pa_nil)) pa_nil))))) (nomark _))
      (pss_one (ps_ret pe_bl))
      pss_nil)
    (pss_cons (sT 7 nd (pe_op op_cat (pe_op op_cat (pe_slice sl_list (pv 5) po_none (po_some pe_int)) (pe_lst (pa_cons (pe_tup (pa_cons pe_str (pa_cons (pe_tup (pa_cons pe_str (pa_cons (pv 4) (pa_cons (pe_tup (pa_cons pe_str (pa_cons (pv 3) pa_nil))) pa_nil)))) (pa_cons pe_int pa_nil)))) pa_nil))) (pe_slice sl_list (pv 5) (po_some pe_int) po_none)))
    (pss_cons (sT 8 nd (pe_callG G_comes (hr.mono (by decide)) (pa_cons (pv 7) (pa_cons (pv 1) pa_nil))))
    (pss_cons (ps_if (pt_cmpR op_le (pv 3) (pv 2) (nomark _))
      (pss_cons (sT 9 nd (pe_tup (pa_cons pe_str (pa_cons pe_str (pa_cons (pe_op op_mul pe_int (pv 1)) (pa_cons (pv 2) (pa_cons pe_int pa_nil)))))))
      (pss_one (ps_ret (pe_cmpR (op_eqW hr.units) (pv 8) (pe_tup (pa_cons pe_str (pa_cons pe_int (pa_cons (pe_disp (pps_cons pe_str (pv 3) (pps_cons pe_str (pv 3) pps_nil)) (by rfl) (by rfl) (fun z => by cases z) (by decide)) (pa_cons (pe_tup (pa_cons (pv 9) pa_nil)) (pa_cons pe_non (pa_cons (pe_lst (pa_cons (pe_tup (pa_cons (pv 3) (pa_cons (pv 3) pa_nil))) pa_nil)) pa_nil))))))) (nomark _)))))
      pss_nil)
    (pss_one (ps_ret (pe_cmpR (op_eqW hr.units) (pe_slice sl_tupA (pv 8) (po_some pe_int) po_none) (pe_tup (pa_cons (pe_disp (pps_cons pe_str (pv 2) (pps_cons pe_str (pe_op op_add (pv 2) pe_int) pps_nil)) (by rfl) (by rfl) (fun z => by cases z) (by decide)) (pa_cons (pe_tup pa_nil) (pa_cons pe_non (pa_cons (pe_lst (pa_cons (pe_tup (pa_cons (pv 2) (pa_cons (pe_op op_add (pv 2) pe_int) pa_nil))) pa_nil)) pa_nil))))) (nomark _)))))))))))))), ?_⟩
  simp only [cxK, cxK2, L2.start, List.map, List.length, List.replicate, List.append, HAppend.hAppend, Append.append]
  refine ⟨_, rfl, d, 5, N, rfl, by decide, by decide, by omega, hp, fun J1 d1 kJ1 p1 hd10 hd11 => ⟨_, _, rfl, rfl, ?_⟩⟩
  simp only [List.set]
  refine ⟨_, rfl, d, 7, N + 1, rfl, by decide, by decide, by omega, p1, fun J2 d2 kJ2 p2 hd20 hd21 => ⟨_, _, rfl, rfl, ?_⟩⟩
  simp only [List.set]
  have kd := kJ1.trans kJ2
  clear kJ1 kJ2 p1
  obtain ⟨last, hlast⟩ : ∃ last : Int, last = 1 + d1 := ⟨_, rfl⟩
  obtain ⟨turn, hturn⟩ : ∃ turn : Int, turn = 1 + d2 := ⟨_, rfl⟩
  rw [← hlast, ← hturn]
  have hL1 : 1 ≤ last := by omega
  have hL2 : last ≤ 5 := by omega
  have hu1 : 1 ≤ turn := by omega
  have hu2 : turn ≤ 7 := by omega
  have hb := by_rng hby
  refine ⟨(by show 2 ≤ sizeLine; decide), fun tc n_tc => ?_⟩
  have kJ3 : Kx [] J2 (upd J2 tc (.tup [.str "box", .str "c"])) := .new n_tc
  have dc : Dp K (upd J2 tc (.tup [.str "box", .str "c"])) (.ref tc) (lfD (.box "c")) := tup_new n_tc (.cons (.str _) (.cons (.str _) .nil))
  generalize upd J2 tc (.tup [.str "box", .str "c"]) = J3 at kJ3 dc ⊢
  replace kd := kd.trans (kJ3.sub (fun _ z => nomatch z))
  replace p2 := p2.keep kJ3
  simp only [List.set]
  refine ⟨(by show 2 ≤ sizeLine; decide), fun n0 n_n0 => ?_⟩
  have kJ4 : Kx [] J3 (upd J3 n0 (.tup [.str "number", .int 0])) := .new n_n0
  have dn0 : Dp K (upd J3 n0 (.tup [.str "number", .int 0])) (.ref n0) (lfD (.num 0)) := tup_new n_n0 (.cons (.str _) (.cons (.int _) .nil))
  generalize upd J3 n0 (.tup [.str "number", .int 0]) = J4 at kJ4 dn0 ⊢
  replace kd := kd.trans (kJ4.sub (fun _ z => nomatch z))
  replace p2 := p2.keep kJ4
  replace dc := kJ4.dp _ dc
  refine ⟨(by show 3 ≤ sizeLine; decide), fun q0 n_q0 => ?_⟩
  have kJ5 : Kx [] J4 (upd J4 q0 (.tup [.str "set", .str "c", .ref n0])) := .new n_q0
  have s0 : Dp K (upd J4 q0 (.tup [.str "set", .str "c", .ref n0])) (.ref q0) (smD (.set "c" (.lf (.num 0)))) := tup_new n_q0 (.cons (.str _) (.cons (.str _) (.cons dn0 .nil)))
  generalize upd J4 q0 (.tup [.str "set", .str "c", .ref n0]) = J5 at kJ5 s0 ⊢
  replace kd := kd.trans (kJ5.sub (fun _ z => nomatch z))
  replace p2 := p2.keep kJ5
  replace dc := kJ5.dp _ dc
  replace dn0 := kJ5.dp _ dn0
  refine ⟨_, rfl, "i", 1, last, 1, rfl, fun J6 r1 kJ6 s1 => ?_⟩
  replace kd := kd.trans (kJ6.sub (fun _ z => nomatch z))
  replace p2 := p2.keep kJ6
  replace dc := kJ6.dp _ dc
  replace dn0 := kJ6.dp _ dn0
  replace s0 := kJ6.dp _ s0
  refine ⟨_, rfl, (by show 2 ≤ sizeLine; decide), fun n1 n_n1 => ?_⟩
  have kJ7 : Kx [] J6 (upd J6 n1 (.tup [.str "number", .int 1])) := .new n_n1
  have dn1 : Dp K (upd J6 n1 (.tup [.str "number", .int 1])) (.ref n1) (lfD (.num 1)) := tup_new n_n1 (.cons (.str _) (.cons (.int _) .nil))
  generalize upd J6 n1 (.tup [.str "number", .int 1]) = J7 at kJ7 dn1 ⊢
  replace kd := kd.trans (kJ7.sub (fun _ z => nomatch z))
  replace p2 := p2.keep kJ7
  replace dc := kJ7.dp _ dc
  replace dn0 := kJ7.dp _ dn0
  replace s0 := kJ7.dp _ s0
  replace s1 := kJ7.dp _ s1
  refine ⟨(by show 3 ≤ sizeLine; decide), fun e1 n_e1 => ?_⟩
  have kJ8 : Kx [] J7 (upd J7 e1 (.tup [.str "+", .ref tc, .ref n1])) := .new n_e1
  have de1 : Dp K (upd J7 e1 (.tup [.str "+", .ref tc, .ref n1])) (.ref e1) (exD (.add (.box "c") (.num 1))) := tup_new n_e1 (.cons (.str _) (.cons dc (.cons dn1 .nil)))
  generalize upd J7 e1 (.tup [.str "+", .ref tc, .ref n1]) = J8 at kJ8 de1 ⊢
  replace kd := kd.trans (kJ8.sub (fun _ z => nomatch z))
  replace p2 := p2.keep kJ8
  replace dc := kJ8.dp _ dc
  replace dn0 := kJ8.dp _ dn0
  replace s0 := kJ8.dp _ s0
  replace s1 := kJ8.dp _ s1
  replace dn1 := kJ8.dp _ dn1
  refine ⟨(by show 3 ≤ sizeLine; decide), fun q2 n_q2 => ?_⟩
  have kJ9 : Kx [] J8 (upd J8 q2 (.tup [.str "set", .str "c", .ref e1])) := .new n_q2
  have s2 : Dp K (upd J8 q2 (.tup [.str "set", .str "c", .ref e1])) (.ref q2) (smD (.set "c" (.add (.box "c") (.num 1)))) := tup_new n_q2 (.cons (.str _) (.cons (.str _) (.cons de1 .nil)))
  generalize upd J8 q2 (.tup [.str "set", .str "c", .ref e1]) = J9 at kJ9 s2 ⊢
  replace kd := kd.trans (kJ9.sub (fun _ z => nomatch z))
  replace p2 := p2.keep kJ9
  replace dc := kJ9.dp _ dc
  replace dn0 := kJ9.dp _ dn0
  replace s0 := kJ9.dp _ s0
  replace s1 := kJ9.dp _ s1
  replace dn1 := kJ9.dp _ dn1
  replace de1 := kJ9.dp _ de1
  refine ⟨(by show 3 ≤ sizeLine; decide), fun lb n_lb => ?_⟩
  have kJ10 : Kx [] J9 (upd J9 lb (.lst [.ref q0, r1, .ref q2])) := .new n_lb
  have hlb : (upd J9 lb (.lst [.ref q0, r1, .ref q2])) lb = some (.lst [.ref q0, r1, .ref q2]) := upd_same
  generalize upd J9 lb (.lst [.ref q0, r1, .ref q2]) = J10 at kJ10 hlb ⊢
  replace kd := kd.trans (kJ10.sub (fun _ z => nomatch z))
  replace p2 := p2.keep kJ10
  replace dc := kJ10.dp _ dc
  replace dn0 := kJ10.dp _ dn0
  replace s0 := kJ10.dp _ s0
  replace s1 := kJ10.dp _ s1
  replace dn1 := kJ10.dp _ dn1
  replace de1 := kJ10.dp _ de1
  replace s2 := kJ10.dp _ s2
  simp only [List.set]
  refine ⟨_, rfl, _, rfl, _, rfl, (by show 2 ≤ sizeLine; decide), fun nta n_nta => ?_⟩
  have kJ11 : Kx [] J10 (upd J10 nta (.tup [.str "number", .int turn])) := .new n_nta
  have dnta : Dp K (upd J10 nta (.tup [.str "number", .int turn])) (.ref nta) (lfD (.num turn)) := tup_new n_nta (.cons (.str _) (.cons (.int _) .nil))
  generalize upd J10 nta (.tup [.str "number", .int turn]) = J11 at kJ11 dnta ⊢
  replace kd := kd.trans (kJ11.sub (fun _ z => nomatch z))
  replace p2 := p2.keep kJ11
  replace dc := kJ11.dp _ dc
  replace dn0 := kJ11.dp _ dn0
  replace s0 := kJ11.dp _ s0
  replace s1 := kJ11.dp _ s1
  replace dn1 := kJ11.dp _ dn1
  replace de1 := kJ11.dp _ de1
  replace s2 := kJ11.dp _ s2
  replace hlb := kJ11.same _ _ hlb
  refine ⟨(by show 3 ≤ sizeLine; decide), fun eea n_eea => ?_⟩
  have kJ12 : Kx [] J11 (upd J11 eea (.tup [.str "=", .ref tc, .ref nta])) := .new n_eea
  have deea : Dp K (upd J11 eea (.tup [.str "=", .ref tc, .ref nta])) (.ref eea) (exD (.eq (.box "c") (.num turn))) := tup_new n_eea (.cons (.str _) (.cons dc (.cons dnta .nil)))
  generalize upd J11 eea (.tup [.str "=", .ref tc, .ref nta]) = J12 at kJ12 deea ⊢
  replace kd := kd.trans (kJ12.sub (fun _ z => nomatch z))
  replace p2 := p2.keep kJ12
  replace dc := kJ12.dp _ dc
  replace dn0 := kJ12.dp _ dn0
  replace s0 := kJ12.dp _ s0
  replace s1 := kJ12.dp _ s1
  replace dn1 := kJ12.dp _ dn1
  replace de1 := kJ12.dp _ de1
  replace s2 := kJ12.dp _ s2
  replace hlb := kJ12.same _ _ hlb
  replace dnta := kJ12.dp _ dnta
  refine ⟨(by show 3 ≤ sizeLine; decide), fun q3 n_q3 => ?_⟩
  have kJ13 : Kx [] J12 (upd J12 q3 (.tup [.str "when", .ref eea, .int 1])) := .new n_q3
  have sq3 : Dp K (upd J12 q3 (.tup [.str "when", .ref eea, .int 1])) (.ref q3) (smD (.iff (.eq (.box "c") (.num turn)) 1)) := tup_new n_q3 (.cons (.str _) (.cons deea (.cons (.int _) .nil)))
  generalize upd J12 q3 (.tup [.str "when", .ref eea, .int 1]) = J13 at kJ13 sq3 ⊢
  replace kd := kd.trans (kJ13.sub (fun _ z => nomatch z))
  replace p2 := p2.keep kJ13
  replace dc := kJ13.dp _ dc
  replace dn0 := kJ13.dp _ dn0
  replace s0 := kJ13.dp _ s0
  replace s1 := kJ13.dp _ s1
  replace dn1 := kJ13.dp _ dn1
  replace de1 := kJ13.dp _ de1
  replace s2 := kJ13.dp _ s2
  replace hlb := kJ13.same _ _ hlb
  replace dnta := kJ13.dp _ dnta
  replace deea := kJ13.dp _ deea
  refine ⟨(by show 2 ≤ sizeLine; decide), fun q4 n_q4 => ?_⟩
  have kJ14 : Kx [] J13 (upd J13 q4 (.tup [.str "again", .str "i"])) := .new n_q4
  have s4 : Dp K (upd J13 q4 (.tup [.str "again", .str "i"])) (.ref q4) (smD (.again "i")) := tup_new n_q4 (.cons (.str _) (.cons (.str _) .nil))
  generalize upd J13 q4 (.tup [.str "again", .str "i"]) = J14 at kJ14 s4 ⊢
  replace kd := kd.trans (kJ14.sub (fun _ z => nomatch z))
  replace p2 := p2.keep kJ14
  replace dc := kJ14.dp _ dc
  replace dn0 := kJ14.dp _ dn0
  replace s0 := kJ14.dp _ s0
  replace s1 := kJ14.dp _ s1
  replace dn1 := kJ14.dp _ dn1
  replace de1 := kJ14.dp _ de1
  replace s2 := kJ14.dp _ s2
  replace hlb := kJ14.same _ _ hlb
  replace dnta := kJ14.dp _ dnta
  replace deea := kJ14.dp _ deea
  replace sq3 := kJ14.dp _ sq3
  refine ⟨_, rfl, (by show 2 ≤ sizeLine; decide), fun ti n_ti => ?_⟩
  have kJ15 : Kx [] J14 (upd J14 ti (.tup [.str "box", .str "i"])) := .new n_ti
  have di : Dp K (upd J14 ti (.tup [.str "box", .str "i"])) (.ref ti) (lfD (.box "i")) := tup_new n_ti (.cons (.str _) (.cons (.str _) .nil))
  generalize upd J14 ti (.tup [.str "box", .str "i"]) = J15 at kJ15 di ⊢
  replace kd := kd.trans (kJ15.sub (fun _ z => nomatch z))
  replace p2 := p2.keep kJ15
  replace dc := kJ15.dp _ dc
  replace dn0 := kJ15.dp _ dn0
  replace s0 := kJ15.dp _ s0
  replace s1 := kJ15.dp _ s1
  replace dn1 := kJ15.dp _ dn1
  replace de1 := kJ15.dp _ de1
  replace s2 := kJ15.dp _ s2
  replace hlb := kJ15.same _ _ hlb
  replace dnta := kJ15.dp _ dnta
  replace deea := kJ15.dp _ deea
  replace sq3 := kJ15.dp _ sq3
  replace s4 := kJ15.dp _ s4
  refine ⟨(by show 2 ≤ sizeLine; decide), fun q5i n_q5i => ?_⟩
  have kJ16 : Kx [] J15 (upd J15 q5i (.tup [.ref tc, .ref ti])) := .new n_q5i
  have s5i : Dp K (upd J15 q5i (.tup [.ref tc, .ref ti])) (.ref q5i) (.tuple ([bC, bI].map exD)) := tup_new n_q5i (.cons dc (.cons di .nil))
  generalize upd J15 q5i (.tup [.ref tc, .ref ti]) = J16 at kJ16 s5i ⊢
  replace kd := kd.trans (kJ16.sub (fun _ z => nomatch z))
  replace p2 := p2.keep kJ16
  replace dc := kJ16.dp _ dc
  replace dn0 := kJ16.dp _ dn0
  replace s0 := kJ16.dp _ s0
  replace s1 := kJ16.dp _ s1
  replace dn1 := kJ16.dp _ dn1
  replace de1 := kJ16.dp _ de1
  replace s2 := kJ16.dp _ s2
  replace hlb := kJ16.same _ _ hlb
  replace dnta := kJ16.dp _ dnta
  replace deea := kJ16.dp _ deea
  replace sq3 := kJ16.dp _ sq3
  replace s4 := kJ16.dp _ s4
  replace di := kJ16.dp _ di
  refine ⟨(by show 2 ≤ sizeLine; decide), fun q5 n_q5 => ?_⟩
  have kJ17 : Kx [] J16 (upd J16 q5 (.tup [.str "say", .ref q5i])) := .new n_q5
  have s5 : Dp K (upd J16 q5 (.tup [.str "say", .ref q5i])) (.ref q5) (smD (.say [bC, bI])) := tup_new n_q5 (.cons (.str _) (.cons s5i .nil))
  generalize upd J16 q5 (.tup [.str "say", .ref q5i]) = J17 at kJ17 s5 ⊢
  replace kd := kd.trans (kJ17.sub (fun _ z => nomatch z))
  replace p2 := p2.keep kJ17
  replace dc := kJ17.dp _ dc
  replace dn0 := kJ17.dp _ dn0
  replace s0 := kJ17.dp _ s0
  replace s1 := kJ17.dp _ s1
  replace dn1 := kJ17.dp _ dn1
  replace de1 := kJ17.dp _ de1
  replace s2 := kJ17.dp _ s2
  replace hlb := kJ17.same _ _ hlb
  replace dnta := kJ17.dp _ dnta
  replace deea := kJ17.dp _ deea
  replace sq3 := kJ17.dp _ sq3
  replace s4 := kJ17.dp _ s4
  replace di := kJ17.dp _ di
  replace s5i := kJ17.dp _ s5i
  refine ⟨(by show 1 ≤ sizeLine; decide), fun q6 n_q6 => ?_⟩
  have kJ18 : Kx [] J17 (upd J17 q6 (.tup [.str "stop"])) := .new n_q6
  have s6 : Dp K (upd J17 q6 (.tup [.str "stop"])) (.ref q6) (smD .stop) := tup_new n_q6 (.cons (.str _) .nil)
  generalize upd J17 q6 (.tup [.str "stop"]) = J18 at kJ18 s6 ⊢
  replace kd := kd.trans (kJ18.sub (fun _ z => nomatch z))
  replace p2 := p2.keep kJ18
  replace dc := kJ18.dp _ dc
  replace dn0 := kJ18.dp _ dn0
  replace s0 := kJ18.dp _ s0
  replace s1 := kJ18.dp _ s1
  replace dn1 := kJ18.dp _ dn1
  replace de1 := kJ18.dp _ de1
  replace s2 := kJ18.dp _ s2
  replace hlb := kJ18.same _ _ hlb
  replace dnta := kJ18.dp _ dnta
  replace deea := kJ18.dp _ deea
  replace sq3 := kJ18.dp _ sq3
  replace s4 := kJ18.dp _ s4
  replace di := kJ18.dp _ di
  replace s5i := kJ18.dp _ s5i
  replace s5 := kJ18.dp _ s5
  refine ⟨(by show 4 ≤ sizeLine; decide), fun l2 n_l2 => ?_⟩
  have kJ19 : Kx [] J18 (upd J18 l2 (.lst [.ref q3, .ref q4, .ref q5, .ref q6])) := .new n_l2
  have hl2 : (upd J18 l2 (.lst [.ref q3, .ref q4, .ref q5, .ref q6])) l2 = some (.lst [.ref q3, .ref q4, .ref q5, .ref q6]) := upd_same
  generalize upd J18 l2 (.lst [.ref q3, .ref q4, .ref q5, .ref q6]) = J19 at kJ19 hl2 ⊢
  replace kd := kd.trans (kJ19.sub (fun _ z => nomatch z))
  replace p2 := p2.keep kJ19
  replace dc := kJ19.dp _ dc
  replace dn0 := kJ19.dp _ dn0
  replace s0 := kJ19.dp _ s0
  replace s1 := kJ19.dp _ s1
  replace dn1 := kJ19.dp _ dn1
  replace de1 := kJ19.dp _ de1
  replace s2 := kJ19.dp _ s2
  replace hlb := kJ19.same _ _ hlb
  replace dnta := kJ19.dp _ dnta
  replace deea := kJ19.dp _ deea
  replace sq3 := kJ19.dp _ sq3
  replace s4 := kJ19.dp _ s4
  replace di := kJ19.dp _ di
  replace s5i := kJ19.dp _ s5i
  replace s5 := kJ19.dp _ s5
  replace s6 := kJ19.dp _ s6
  refine ⟨lb, l2, _, _, rfl, rfl, hlb, hl2, (by show 3 + 4 ≤ sizeLine; decide), fun body n_body => ?_⟩
  have kJ20 : Kx [] J19 (upd J19 body (.lst ([.ref q0, r1, .ref q2] ++ [.ref q3, .ref q4, .ref q5, .ref q6]))) := .new n_body
  have hbody : SqL K (upd J19 body (.lst ([.ref q0, r1, .ref q2] ++ [.ref q3, .ref q4, .ref q5, .ref q6]))) body [.ref q0, r1, .ref q2, .ref q3, .ref q4, .ref q5, .ref q6] := .inl (.inl upd_same)
  generalize upd J19 body (.lst ([.ref q0, r1, .ref q2] ++ [.ref q3, .ref q4, .ref q5, .ref q6])) = J20 at kJ20 hbody ⊢
  replace kd := kd.trans (kJ20.sub (fun _ z => nomatch z))
  replace p2 := p2.keep kJ20
  replace dc := kJ20.dp _ dc
  replace dn0 := kJ20.dp _ dn0
  replace s0 := kJ20.dp _ s0
  replace s1 := kJ20.dp _ s1
  replace dn1 := kJ20.dp _ dn1
  replace de1 := kJ20.dp _ de1
  replace s2 := kJ20.dp _ s2
  replace hlb := kJ20.same _ _ hlb
  replace dnta := kJ20.dp _ dnta
  replace deea := kJ20.dp _ deea
  replace sq3 := kJ20.dp _ sq3
  replace s4 := kJ20.dp _ s4
  replace di := kJ20.dp _ di
  replace s5i := kJ20.dp _ s5i
  replace s5 := kJ20.dp _ s5
  replace s6 := kJ20.dp _ s6
  replace hl2 := kJ20.same _ _ hl2
  simp only [List.set]
  refine ⟨_, rfl, _, rfl, _, rfl, _, _, rfl, rfl, _, rfl, ?_⟩
  refine ite_val (.int (if turn ≤ last then turn else 0)) (fun e Q2 z2 => ?_) (fun e Q2 z2 => ?_) ?_
  · rw [if_pos (of_decide_eq_true e)] at z2
    exact ⟨_, rfl, z2⟩
  · rw [if_neg (of_decide_eq_false e)] at z2
    exact z2
  refine ⟨_, _, rfl, rfl, ?_⟩
  simp only [List.set]
  have hrun1 := beg_law hL1 hL2 hu1 hu2 hby
  generalize last + (if turn ≤ last then turn else 0) = due at hrun1 ⊢
  have hsts : DpAll K J20 [.ref q0, r1, .ref q2, .ref q3, .ref q4, .ref q5, .ref q6] ((begS last turn).map smD) := .cons s0 (.cons s1 (.cons s2 (.cons sq3 (.cons s4 (.cons s5 (.cons s6 .nil))))))
  refine ⟨_, rfl, _, rfl, body, _, begS last turn, by_, _, rfl, hbody, hsts, beg_ok _ _, hb.1, hb.2, hrun1, fun G0 ft fb vp vf fl ys kG ht hfb hvp hvf hfl hys hnd => ?_⟩
  replace kd := kd.trans (kG.sub (fun _ z => nomatch z))
  replace p2 := p2.keep kG
  replace dc := kG.dp _ dc
  replace dn0 := kG.dp _ dn0
  replace s0 := kG.dp _ s0
  replace s1 := kG.dp _ s1
  replace dn1 := kG.dp _ dn1
  replace de1 := kG.dp _ de1
  replace s2 := kG.dp _ s2
  replace hlb := kG.same _ _ hlb
  replace dnta := kG.dp _ dnta
  replace deea := kG.dp _ deea
  replace sq3 := kG.dp _ sq3
  replace s4 := kG.dp _ s4
  replace di := kG.dp _ di
  replace s5i := kG.dp _ s5i
  replace s5 := kG.dp _ s5
  replace s6 := kG.dp _ s6
  replace hl2 := kG.same _ _ hl2
  replace hbody := kG.sqL hbody
  replace hsts := kG.dpAll _ hsts
  replace ht : SqT K G0 ft [.str "ended", .int 0, .ref fb, vp, vf, .ref fl] := ht
  refine ⟨_, rfl, ft, _, rfl, ht, (fun e => absurd e.1 (by show ¬ 2 = 0; decide)), fun _ sla n_sla => ?_⟩
  rw [show cutV [V.str "ended", V.int 0, V.ref fb, vp, vf, V.ref fl] (some 2) none = [V.ref fb, vp, vf, V.ref fl] from rfl]
  have kJ21 : Kx [] G0 (upd G0 sla (.tup [.ref fb, vp, vf, .ref fl])) := .new n_sla
  have hsla : SqT K (upd G0 sla (.tup [.ref fb, vp, vf, .ref fl])) sla [.ref fb, vp, vf, .ref fl] := .inl (.inl upd_same)
  generalize upd G0 sla (.tup [.ref fb, vp, vf, .ref fl]) = J21 at kJ21 hsla ⊢
  replace kd := kd.trans (kJ21.sub (fun _ z => nomatch z))
  replace p2 := p2.keep kJ21
  replace dc := kJ21.dp _ dc
  replace dn0 := kJ21.dp _ dn0
  replace s0 := kJ21.dp _ s0
  replace s1 := kJ21.dp _ s1
  replace dn1 := kJ21.dp _ dn1
  replace de1 := kJ21.dp _ de1
  replace s2 := kJ21.dp _ s2
  replace hlb := kJ21.same _ _ hlb
  replace dnta := kJ21.dp _ dnta
  replace deea := kJ21.dp _ deea
  replace sq3 := kJ21.dp _ sq3
  replace s4 := kJ21.dp _ s4
  replace di := kJ21.dp _ di
  replace s5i := kJ21.dp _ s5i
  replace s5 := kJ21.dp _ s5
  replace s6 := kJ21.dp _ s6
  replace hl2 := kJ21.same _ _ hl2
  replace hbody := kJ21.sqL hbody
  replace hsts := kJ21.dpAll _ hsts
  replace ht := kJ21.sqT ht
  replace hfb := kJ21.same _ _ hfb
  replace hvp := kJ21.dp _ hvp
  replace hvf := kJ21.dp _ hvf
  replace hfl := kJ21.same _ _ hfl
  replace hys := kJ21.dpAll _ hys
  intro bx n_bx
  refine ⟨_, rfl, _, rfl, _, _, rfl, rfl, upd_same, [(Sum.inr "c", .int (due)), (Sum.inr "i", .int (last + 1))], rfl, (by show 2 ≤ 15; decide), ?_⟩
  rw [show mergeK [] [((Sum.inr "c" : Key), V.int (due)), (Sum.inr "i", .int (last + 1))] = bxs [("c", due), ("i", last + 1)] by kernel_rfl]
  have kJ22 : Kx [] J21 (upd (upd J21 bx (.dK [])) bx (.dK (bxs [("c", due), ("i", last + 1)]))) := (Kx.new (ks := []) n_bx).grow n_bx
  have hbx : (upd (upd J21 bx (.dK [])) bx (.dK (bxs [("c", due), ("i", last + 1)]))) bx = some (.dK (bxs [("c", due), ("i", last + 1)])) := upd_same
  generalize upd (upd J21 bx (.dK [])) bx (.dK (bxs [("c", due), ("i", last + 1)])) = J22 at kJ22 hbx ⊢
  replace kd := kd.trans (kJ22.sub (fun _ z => nomatch z))
  replace p2 := p2.keep kJ22
  replace dc := kJ22.dp _ dc
  replace dn0 := kJ22.dp _ dn0
  replace s0 := kJ22.dp _ s0
  replace s1 := kJ22.dp _ s1
  replace dn1 := kJ22.dp _ dn1
  replace de1 := kJ22.dp _ de1
  replace s2 := kJ22.dp _ s2
  replace hlb := kJ22.same _ _ hlb
  replace dnta := kJ22.dp _ dnta
  replace deea := kJ22.dp _ deea
  replace sq3 := kJ22.dp _ sq3
  replace s4 := kJ22.dp _ s4
  replace di := kJ22.dp _ di
  replace s5i := kJ22.dp _ s5i
  replace s5 := kJ22.dp _ s5
  replace s6 := kJ22.dp _ s6
  replace hl2 := kJ22.same _ _ hl2
  replace hbody := kJ22.sqL hbody
  replace hsts := kJ22.dpAll _ hsts
  replace ht := kJ22.sqT ht
  replace hfb := kJ22.same _ _ hfb
  replace hvp := kJ22.dp _ hvp
  replace hvf := kJ22.dp _ hvf
  replace hfl := kJ22.same _ _ hfl
  replace hys := kJ22.dpAll _ hys
  replace hsla := kJ22.sqT hsla
  refine ⟨(by show 0 ≤ sizeLine; decide), fun e0 n_e0 => ?_⟩
  have kJ23 : Kx [] J22 (upd J22 e0 (.tup [])) := .new n_e0
  have de0 : Dp K (upd J22 e0 (.tup [])) (.ref e0) (pileD []) := tup_new n_e0 .nil
  generalize upd J22 e0 (.tup []) = J23 at kJ23 de0 ⊢
  replace kd := kd.trans (kJ23.sub (fun _ z => nomatch z))
  replace p2 := p2.keep kJ23
  replace dc := kJ23.dp _ dc
  replace dn0 := kJ23.dp _ dn0
  replace s0 := kJ23.dp _ s0
  replace s1 := kJ23.dp _ s1
  replace dn1 := kJ23.dp _ dn1
  replace de1 := kJ23.dp _ de1
  replace s2 := kJ23.dp _ s2
  replace hlb := kJ23.same _ _ hlb
  replace dnta := kJ23.dp _ dnta
  replace deea := kJ23.dp _ deea
  replace sq3 := kJ23.dp _ sq3
  replace s4 := kJ23.dp _ s4
  replace di := kJ23.dp _ di
  replace s5i := kJ23.dp _ s5i
  replace s5 := kJ23.dp _ s5
  replace s6 := kJ23.dp _ s6
  replace hl2 := kJ23.same _ _ hl2
  replace hbody := kJ23.sqL hbody
  replace hsts := kJ23.dpAll _ hsts
  replace ht := kJ23.sqT ht
  replace hfb := kJ23.same _ _ hfb
  replace hvp := kJ23.dp _ hvp
  replace hvf := kJ23.dp _ hvf
  replace hfl := kJ23.same _ _ hfl
  replace hys := kJ23.dpAll _ hys
  replace hsla := kJ23.sqT hsla
  replace hbx := kJ23.same _ _ hbx
  refine ⟨_, rfl, _, rfl, _, _, rfl, rfl, (by show 2 ≤ sizeLine; decide), fun rwa n_rwa => ?_⟩
  have kJ24 : Kx [] J23 (upd J23 rwa (.tup [.int (due), .int (last + 1)])) := .new n_rwa
  have drwa : Dp K (upd J23 rwa (.tup [.int (due), .int (last + 1)])) (.ref rwa) (rowD [due, last + 1]) := tup_new n_rwa (.cons (.int _) (.cons (.int _) .nil))
  generalize upd J23 rwa (.tup [.int (due), .int (last + 1)]) = J24 at kJ24 drwa ⊢
  replace kd := kd.trans (kJ24.sub (fun _ z => nomatch z))
  replace p2 := p2.keep kJ24
  replace dc := kJ24.dp _ dc
  replace dn0 := kJ24.dp _ dn0
  replace s0 := kJ24.dp _ s0
  replace s1 := kJ24.dp _ s1
  replace dn1 := kJ24.dp _ dn1
  replace de1 := kJ24.dp _ de1
  replace s2 := kJ24.dp _ s2
  replace hlb := kJ24.same _ _ hlb
  replace dnta := kJ24.dp _ dnta
  replace deea := kJ24.dp _ deea
  replace sq3 := kJ24.dp _ sq3
  replace s4 := kJ24.dp _ s4
  replace di := kJ24.dp _ di
  replace s5i := kJ24.dp _ s5i
  replace s5 := kJ24.dp _ s5
  replace s6 := kJ24.dp _ s6
  replace hl2 := kJ24.same _ _ hl2
  replace hbody := kJ24.sqL hbody
  replace hsts := kJ24.dpAll _ hsts
  replace ht := kJ24.sqT ht
  replace hfb := kJ24.same _ _ hfb
  replace hvp := kJ24.dp _ hvp
  replace hvf := kJ24.dp _ hvf
  replace hfl := kJ24.same _ _ hfl
  replace hys := kJ24.dpAll _ hys
  replace hsla := kJ24.sqT hsla
  replace hbx := kJ24.same _ _ hbx
  replace de0 := kJ24.dp _ de0
  refine ⟨(by show 1 ≤ sizeLine; decide), fun rla n_rla => ?_⟩
  have kJ25 : Kx [] J24 (upd J24 rla (.lst [.ref rwa])) := .new n_rla
  have hrla : (upd J24 rla (.lst [.ref rwa])) rla = some (.lst [.ref rwa]) := upd_same
  generalize upd J24 rla (.lst [.ref rwa]) = J25 at kJ25 hrla ⊢
  replace kd := kd.trans (kJ25.sub (fun _ z => nomatch z))
  replace p2 := p2.keep kJ25
  replace dc := kJ25.dp _ dc
  replace dn0 := kJ25.dp _ dn0
  replace s0 := kJ25.dp _ s0
  replace s1 := kJ25.dp _ s1
  replace dn1 := kJ25.dp _ dn1
  replace de1 := kJ25.dp _ de1
  replace s2 := kJ25.dp _ s2
  replace hlb := kJ25.same _ _ hlb
  replace dnta := kJ25.dp _ dnta
  replace deea := kJ25.dp _ deea
  replace sq3 := kJ25.dp _ sq3
  replace s4 := kJ25.dp _ s4
  replace di := kJ25.dp _ di
  replace s5i := kJ25.dp _ s5i
  replace s5 := kJ25.dp _ s5
  replace s6 := kJ25.dp _ s6
  replace hl2 := kJ25.same _ _ hl2
  replace hbody := kJ25.sqL hbody
  replace hsts := kJ25.dpAll _ hsts
  replace ht := kJ25.sqT ht
  replace hfb := kJ25.same _ _ hfb
  replace hvp := kJ25.dp _ hvp
  replace hvf := kJ25.dp _ hvf
  replace hfl := kJ25.same _ _ hfl
  replace hys := kJ25.dpAll _ hys
  replace hsla := kJ25.sqT hsla
  replace hbx := kJ25.same _ _ hbx
  replace de0 := kJ25.dp _ de0
  replace drwa := kJ25.dp _ drwa
  refine ⟨(by show 4 ≤ sizeLine; decide), fun tt n_tt => ?_⟩
  have kJ26 : Kx [] J25 (upd J25 tt (.tup [.ref bx, .ref e0, .non, .ref rla])) := .new n_tt
  have htt : SqT K (upd J25 tt (.tup [.ref bx, .ref e0, .non, .ref rla])) tt [.ref bx, .ref e0, .non, .ref rla] := .inl (.inl upd_same)
  generalize upd J25 tt (.tup [.ref bx, .ref e0, .non, .ref rla]) = J26 at kJ26 htt ⊢
  replace kd := kd.trans (kJ26.sub (fun _ z => nomatch z))
  replace p2 := p2.keep kJ26
  replace dc := kJ26.dp _ dc
  replace dn0 := kJ26.dp _ dn0
  replace s0 := kJ26.dp _ s0
  replace s1 := kJ26.dp _ s1
  replace dn1 := kJ26.dp _ dn1
  replace de1 := kJ26.dp _ de1
  replace s2 := kJ26.dp _ s2
  replace hlb := kJ26.same _ _ hlb
  replace dnta := kJ26.dp _ dnta
  replace deea := kJ26.dp _ deea
  replace sq3 := kJ26.dp _ sq3
  replace s4 := kJ26.dp _ s4
  replace di := kJ26.dp _ di
  replace s5i := kJ26.dp _ s5i
  replace s5 := kJ26.dp _ s5
  replace s6 := kJ26.dp _ s6
  replace hl2 := kJ26.same _ _ hl2
  replace hbody := kJ26.sqL hbody
  replace hsts := kJ26.dpAll _ hsts
  replace ht := kJ26.sqT ht
  replace hfb := kJ26.same _ _ hfb
  replace hvp := kJ26.dp _ hvp
  replace hvf := kJ26.dp _ hvf
  replace hfl := kJ26.same _ _ hfl
  replace hys := kJ26.dpAll _ hys
  replace hsla := kJ26.sqT hsla
  replace hbx := kJ26.same _ _ hbx
  replace de0 := kJ26.dp _ de0
  replace drwa := kJ26.dp _ drwa
  replace hrla := kJ26.same _ _ hrla
  refine ⟨10, by decide, eq_four (said := [[due, last + 1]]) (pile := []) (fault := none) hnd hsla htt hfb hbx hvp de0 hvf .non (.inl (.inl hfl)) (.inl (.inl hrla)) hys (.cons drwa .nil), ?_⟩
  refine ⟨_, rfl, iteF ?_⟩
  clear ht hfb hvp hvf hfl hys hnd hsla hbx de0 drwa hrla htt kG
  refine ⟨_, rfl, _, rfl, body, _, rfl, hbody, fun b3 n_b3 => ?_⟩
  rw [show cutV [V.ref q0, r1, .ref q2, .ref q3, .ref q4, .ref q5, .ref q6] none (some 3) = [V.ref q0, r1, .ref q2] from rfl]
  have kJ27 : Kx [] J26 (upd J26 b3 (.lst [.ref q0, r1, .ref q2])) := .new n_b3
  have hb3 : (upd J26 b3 (.lst [.ref q0, r1, .ref q2])) b3 = some (.lst [.ref q0, r1, .ref q2]) := upd_same
  generalize upd J26 b3 (.lst [.ref q0, r1, .ref q2]) = J27 at kJ27 hb3 ⊢
  replace kd := kd.trans (kJ27.sub (fun _ z => nomatch z))
  replace p2 := p2.keep kJ27
  replace dc := kJ27.dp _ dc
  replace dn0 := kJ27.dp _ dn0
  replace s0 := kJ27.dp _ s0
  replace s1 := kJ27.dp _ s1
  replace dn1 := kJ27.dp _ dn1
  replace de1 := kJ27.dp _ de1
  replace s2 := kJ27.dp _ s2
  replace hlb := kJ27.same _ _ hlb
  replace dnta := kJ27.dp _ dnta
  replace deea := kJ27.dp _ deea
  replace sq3 := kJ27.dp _ sq3
  replace s4 := kJ27.dp _ s4
  replace di := kJ27.dp _ di
  replace s5i := kJ27.dp _ s5i
  replace s5 := kJ27.dp _ s5
  replace s6 := kJ27.dp _ s6
  replace hl2 := kJ27.same _ _ hl2
  replace hbody := kJ27.sqL hbody
  replace hsts := kJ27.dpAll _ hsts
  refine ⟨_, rfl, _, rfl, (by show 2 ≤ sizeLine; decide), fun ntb n_ntb => ?_⟩
  have kJ28 : Kx [] J27 (upd J27 ntb (.tup [.str "number", .int turn])) := .new n_ntb
  have dntb : Dp K (upd J27 ntb (.tup [.str "number", .int turn])) (.ref ntb) (lfD (.num turn)) := tup_new n_ntb (.cons (.str _) (.cons (.int _) .nil))
  generalize upd J27 ntb (.tup [.str "number", .int turn]) = J28 at kJ28 dntb ⊢
  replace kd := kd.trans (kJ28.sub (fun _ z => nomatch z))
  replace p2 := p2.keep kJ28
  replace dc := kJ28.dp _ dc
  replace dn0 := kJ28.dp _ dn0
  replace s0 := kJ28.dp _ s0
  replace s1 := kJ28.dp _ s1
  replace dn1 := kJ28.dp _ dn1
  replace de1 := kJ28.dp _ de1
  replace s2 := kJ28.dp _ s2
  replace hlb := kJ28.same _ _ hlb
  replace dnta := kJ28.dp _ dnta
  replace deea := kJ28.dp _ deea
  replace sq3 := kJ28.dp _ sq3
  replace s4 := kJ28.dp _ s4
  replace di := kJ28.dp _ di
  replace s5i := kJ28.dp _ s5i
  replace s5 := kJ28.dp _ s5
  replace s6 := kJ28.dp _ s6
  replace hl2 := kJ28.same _ _ hl2
  replace hbody := kJ28.sqL hbody
  replace hsts := kJ28.dpAll _ hsts
  replace hb3 := kJ28.same _ _ hb3
  refine ⟨(by show 3 ≤ sizeLine; decide), fun eeb n_eeb => ?_⟩
  have kJ29 : Kx [] J28 (upd J28 eeb (.tup [.str "=", .ref tc, .ref ntb])) := .new n_eeb
  have deeb : Dp K (upd J28 eeb (.tup [.str "=", .ref tc, .ref ntb])) (.ref eeb) (exD (.eq (.box "c") (.num turn))) := tup_new n_eeb (.cons (.str _) (.cons dc (.cons dntb .nil)))
  generalize upd J28 eeb (.tup [.str "=", .ref tc, .ref ntb]) = J29 at kJ29 deeb ⊢
  replace kd := kd.trans (kJ29.sub (fun _ z => nomatch z))
  replace p2 := p2.keep kJ29
  replace dc := kJ29.dp _ dc
  replace dn0 := kJ29.dp _ dn0
  replace s0 := kJ29.dp _ s0
  replace s1 := kJ29.dp _ s1
  replace dn1 := kJ29.dp _ dn1
  replace de1 := kJ29.dp _ de1
  replace s2 := kJ29.dp _ s2
  replace hlb := kJ29.same _ _ hlb
  replace dnta := kJ29.dp _ dnta
  replace deea := kJ29.dp _ deea
  replace sq3 := kJ29.dp _ sq3
  replace s4 := kJ29.dp _ s4
  replace di := kJ29.dp _ di
  replace s5i := kJ29.dp _ s5i
  replace s5 := kJ29.dp _ s5
  replace s6 := kJ29.dp _ s6
  replace hl2 := kJ29.same _ _ hl2
  replace hbody := kJ29.sqL hbody
  replace hsts := kJ29.dpAll _ hsts
  replace hb3 := kJ29.same _ _ hb3
  replace dntb := kJ29.dp _ dntb
  refine ⟨(by show 3 ≤ sizeLine; decide), fun w3 n_w3 => ?_⟩
  have kJ30 : Kx [] J29 (upd J29 w3 (.tup [.str "when", .ref eeb, .int 5])) := .new n_w3
  have sw3 : Dp K (upd J29 w3 (.tup [.str "when", .ref eeb, .int 5])) (.ref w3) (smD (.iff (.eq (.box "c") (.num turn)) 5)) := tup_new n_w3 (.cons (.str _) (.cons deeb (.cons (.int _) .nil)))
  generalize upd J29 w3 (.tup [.str "when", .ref eeb, .int 5]) = J30 at kJ30 sw3 ⊢
  replace kd := kd.trans (kJ30.sub (fun _ z => nomatch z))
  replace p2 := p2.keep kJ30
  replace dc := kJ30.dp _ dc
  replace dn0 := kJ30.dp _ dn0
  replace s0 := kJ30.dp _ s0
  replace s1 := kJ30.dp _ s1
  replace dn1 := kJ30.dp _ dn1
  replace de1 := kJ30.dp _ de1
  replace s2 := kJ30.dp _ s2
  replace hlb := kJ30.same _ _ hlb
  replace dnta := kJ30.dp _ dnta
  replace deea := kJ30.dp _ deea
  replace sq3 := kJ30.dp _ sq3
  replace s4 := kJ30.dp _ s4
  replace di := kJ30.dp _ di
  replace s5i := kJ30.dp _ s5i
  replace s5 := kJ30.dp _ s5
  replace s6 := kJ30.dp _ s6
  replace hl2 := kJ30.same _ _ hl2
  replace hbody := kJ30.sqL hbody
  replace hsts := kJ30.dpAll _ hsts
  replace hb3 := kJ30.same _ _ hb3
  replace dntb := kJ30.dp _ dntb
  replace deeb := kJ30.dp _ deeb
  refine ⟨(by show 1 ≤ sizeLine; decide), fun b1 n_b1 => ?_⟩
  have kJ31 : Kx [] J30 (upd J30 b1 (.lst [.ref w3])) := .new n_b1
  have hb1 : (upd J30 b1 (.lst [.ref w3])) b1 = some (.lst [.ref w3]) := upd_same
  generalize upd J30 b1 (.lst [.ref w3]) = J31 at kJ31 hb1 ⊢
  replace kd := kd.trans (kJ31.sub (fun _ z => nomatch z))
  replace p2 := p2.keep kJ31
  replace dc := kJ31.dp _ dc
  replace dn0 := kJ31.dp _ dn0
  replace s0 := kJ31.dp _ s0
  replace s1 := kJ31.dp _ s1
  replace dn1 := kJ31.dp _ dn1
  replace de1 := kJ31.dp _ de1
  replace s2 := kJ31.dp _ s2
  replace hlb := kJ31.same _ _ hlb
  replace dnta := kJ31.dp _ dnta
  replace deea := kJ31.dp _ deea
  replace sq3 := kJ31.dp _ sq3
  replace s4 := kJ31.dp _ s4
  replace di := kJ31.dp _ di
  replace s5i := kJ31.dp _ s5i
  replace s5 := kJ31.dp _ s5
  replace s6 := kJ31.dp _ s6
  replace hl2 := kJ31.same _ _ hl2
  replace hbody := kJ31.sqL hbody
  replace hsts := kJ31.dpAll _ hsts
  replace hb3 := kJ31.same _ _ hb3
  replace dntb := kJ31.dp _ dntb
  replace deeb := kJ31.dp _ deeb
  replace sw3 := kJ31.dp _ sw3
  refine ⟨b3, b1, _, _, rfl, rfl, hb3, hb1, (by show 3 + 1 ≤ sizeLine; decide), fun b4 n_b4 => ?_⟩
  have kJ32 : Kx [] J31 (upd J31 b4 (.lst ([.ref q0, r1, .ref q2] ++ [.ref w3]))) := .new n_b4
  have hb4 : (upd J31 b4 (.lst ([.ref q0, r1, .ref q2] ++ [.ref w3]))) b4 = some (.lst [.ref q0, r1, .ref q2, .ref w3]) := upd_same
  generalize upd J31 b4 (.lst ([.ref q0, r1, .ref q2] ++ [.ref w3])) = J32 at kJ32 hb4 ⊢
  replace kd := kd.trans (kJ32.sub (fun _ z => nomatch z))
  replace p2 := p2.keep kJ32
  replace dc := kJ32.dp _ dc
  replace dn0 := kJ32.dp _ dn0
  replace s0 := kJ32.dp _ s0
  replace s1 := kJ32.dp _ s1
  replace dn1 := kJ32.dp _ dn1
  replace de1 := kJ32.dp _ de1
  replace s2 := kJ32.dp _ s2
  replace hlb := kJ32.same _ _ hlb
  replace dnta := kJ32.dp _ dnta
  replace deea := kJ32.dp _ deea
  replace sq3 := kJ32.dp _ sq3
  replace s4 := kJ32.dp _ s4
  replace di := kJ32.dp _ di
  replace s5i := kJ32.dp _ s5i
  replace s5 := kJ32.dp _ s5
  replace s6 := kJ32.dp _ s6
  replace hl2 := kJ32.same _ _ hl2
  replace hbody := kJ32.sqL hbody
  replace hsts := kJ32.dpAll _ hsts
  replace hb3 := kJ32.same _ _ hb3
  replace dntb := kJ32.dp _ dntb
  replace deeb := kJ32.dp _ deeb
  replace sw3 := kJ32.dp _ sw3
  replace hb1 := kJ32.same _ _ hb1
  refine ⟨_, rfl, _, rfl, body, _, rfl, hbody, fun b5 n_b5 => ?_⟩
  rw [show cutV [V.ref q0, r1, .ref q2, .ref q3, .ref q4, .ref q5, .ref q6] (some 4) none = [V.ref q4, .ref q5, .ref q6] from rfl]
  have kJ33 : Kx [] J32 (upd J32 b5 (.lst [.ref q4, .ref q5, .ref q6])) := .new n_b5
  have hb5 : (upd J32 b5 (.lst [.ref q4, .ref q5, .ref q6])) b5 = some (.lst [.ref q4, .ref q5, .ref q6]) := upd_same
  generalize upd J32 b5 (.lst [.ref q4, .ref q5, .ref q6]) = J33 at kJ33 hb5 ⊢
  replace kd := kd.trans (kJ33.sub (fun _ z => nomatch z))
  replace p2 := p2.keep kJ33
  replace dc := kJ33.dp _ dc
  replace dn0 := kJ33.dp _ dn0
  replace s0 := kJ33.dp _ s0
  replace s1 := kJ33.dp _ s1
  replace dn1 := kJ33.dp _ dn1
  replace de1 := kJ33.dp _ de1
  replace s2 := kJ33.dp _ s2
  replace hlb := kJ33.same _ _ hlb
  replace dnta := kJ33.dp _ dnta
  replace deea := kJ33.dp _ deea
  replace sq3 := kJ33.dp _ sq3
  replace s4 := kJ33.dp _ s4
  replace di := kJ33.dp _ di
  replace s5i := kJ33.dp _ s5i
  replace s5 := kJ33.dp _ s5
  replace s6 := kJ33.dp _ s6
  replace hl2 := kJ33.same _ _ hl2
  replace hbody := kJ33.sqL hbody
  replace hsts := kJ33.dpAll _ hsts
  replace hb3 := kJ33.same _ _ hb3
  replace dntb := kJ33.dp _ dntb
  replace deeb := kJ33.dp _ deeb
  replace sw3 := kJ33.dp _ sw3
  replace hb1 := kJ33.same _ _ hb1
  replace hb4 := kJ33.same _ _ hb4
  refine ⟨b4, b5, _, _, rfl, rfl, hb4, hb5, (by show 4 + 3 ≤ sizeLine; decide), fun aw n_aw => ?_⟩
  have kJ34 : Kx [] J33 (upd J33 aw (.lst ([.ref q0, r1, .ref q2, .ref w3] ++ [.ref q4, .ref q5, .ref q6]))) := .new n_aw
  have haw : SqL K (upd J33 aw (.lst ([.ref q0, r1, .ref q2, .ref w3] ++ [.ref q4, .ref q5, .ref q6]))) aw [.ref q0, r1, .ref q2, .ref w3, .ref q4, .ref q5, .ref q6] := .inl (.inl upd_same)
  generalize upd J33 aw (.lst ([.ref q0, r1, .ref q2, .ref w3] ++ [.ref q4, .ref q5, .ref q6])) = J34 at kJ34 haw ⊢
  replace kd := kd.trans (kJ34.sub (fun _ z => nomatch z))
  replace p2 := p2.keep kJ34
  replace dc := kJ34.dp _ dc
  replace dn0 := kJ34.dp _ dn0
  replace s0 := kJ34.dp _ s0
  replace s1 := kJ34.dp _ s1
  replace dn1 := kJ34.dp _ dn1
  replace de1 := kJ34.dp _ de1
  replace s2 := kJ34.dp _ s2
  replace hlb := kJ34.same _ _ hlb
  replace dnta := kJ34.dp _ dnta
  replace deea := kJ34.dp _ deea
  replace sq3 := kJ34.dp _ sq3
  replace s4 := kJ34.dp _ s4
  replace di := kJ34.dp _ di
  replace s5i := kJ34.dp _ s5i
  replace s5 := kJ34.dp _ s5
  replace s6 := kJ34.dp _ s6
  replace hl2 := kJ34.same _ _ hl2
  replace hbody := kJ34.sqL hbody
  replace hsts := kJ34.dpAll _ hsts
  replace hb3 := kJ34.same _ _ hb3
  replace dntb := kJ34.dp _ dntb
  replace deeb := kJ34.dp _ deeb
  replace sw3 := kJ34.dp _ sw3
  replace hb1 := kJ34.same _ _ hb1
  replace hb4 := kJ34.same _ _ hb4
  replace hb5 := kJ34.same _ _ hb5
  simp only [List.set]
  have hsts2 : DpAll K J34 [.ref q0, r1, .ref q2, .ref w3, .ref q4, .ref q5, .ref q6] ((awayS last turn).map smD) := .cons s0 (.cons s1 (.cons s2 (.cons sw3 (.cons s4 (.cons s5 (.cons s6 .nil))))))
  have hrun2 := away_law hL1 hL2 hu1 hu2 hby
  by_cases hle : turn ≤ last
  · rw [if_pos hle] at hrun2
    refine ⟨_, rfl, _, rfl, aw, _, awayS last turn, by_, _, rfl, haw, hsts2, away_ok _ _, hb.1, hb.2, hrun2, fun G1 ft fb vp vf fl ys kG1 ht hfb hvp hvf hfl hys hnd => ?_⟩
    replace kd := kd.trans (kG1.sub (fun _ z => nomatch z))
    replace p2 := p2.keep kG1
    replace dc := kG1.dp _ dc
    replace dn0 := kG1.dp _ dn0
    replace s0 := kG1.dp _ s0
    replace s1 := kG1.dp _ s1
    replace dn1 := kG1.dp _ dn1
    replace de1 := kG1.dp _ de1
    replace s2 := kG1.dp _ s2
    replace hlb := kG1.same _ _ hlb
    replace dnta := kG1.dp _ dnta
    replace deea := kG1.dp _ deea
    replace sq3 := kG1.dp _ sq3
    replace s4 := kG1.dp _ s4
    replace di := kG1.dp _ di
    replace s5i := kG1.dp _ s5i
    replace s5 := kG1.dp _ s5
    replace s6 := kG1.dp _ s6
    replace hl2 := kG1.same _ _ hl2
    replace hbody := kG1.sqL hbody
    replace hsts := kG1.dpAll _ hsts
    replace hb3 := kG1.same _ _ hb3
    replace dntb := kG1.dp _ dntb
    replace deeb := kG1.dp _ deeb
    replace sw3 := kG1.dp _ sw3
    replace hb1 := kG1.same _ _ hb1
    replace hb4 := kG1.same _ _ hb4
    replace hb5 := kG1.same _ _ hb5
    replace haw := kG1.sqL haw
    simp only [List.set]
    refine ⟨_, rfl, _, rfl, _, _, rfl, rfl, _, rfl, ?_⟩
    rw [decide_eq_true hle]
    refine iteT ?_
    refine ⟨_, rfl, _, _, rfl, rfl, .inl ⟨by decide, by decide⟩, _, rfl, (by show 5 ≤ sizeLine; decide), fun fr n_fr => ?_⟩
    have kJ35 : Kx [] G1 (upd G1 fr (.tup [.str "loop", .str "i", .int (2 * by_), .int last, .int 1])) := .new n_fr
    have dfr : Dp K (upd G1 fr (.tup [.str "loop", .str "i", .int (2 * by_), .int last, .int 1])) (.ref fr) (frD (.loop "i" (2 * by_) last 1)) := tup_new n_fr (.cons (.str _) (.cons (.str _) (.cons (.int _) (.cons (.int _) (.cons (.int _) .nil)))))
    generalize upd G1 fr (.tup [.str "loop", .str "i", .int (2 * by_), .int last, .int 1]) = J35 at kJ35 dfr ⊢
    replace kd := kd.trans (kJ35.sub (fun _ z => nomatch z))
    replace p2 := p2.keep kJ35
    replace dc := kJ35.dp _ dc
    replace dn0 := kJ35.dp _ dn0
    replace s0 := kJ35.dp _ s0
    replace s1 := kJ35.dp _ s1
    replace dn1 := kJ35.dp _ dn1
    replace de1 := kJ35.dp _ de1
    replace s2 := kJ35.dp _ s2
    replace hlb := kJ35.same _ _ hlb
    replace dnta := kJ35.dp _ dnta
    replace deea := kJ35.dp _ deea
    replace sq3 := kJ35.dp _ sq3
    replace s4 := kJ35.dp _ s4
    replace di := kJ35.dp _ di
    replace s5i := kJ35.dp _ s5i
    replace s5 := kJ35.dp _ s5
    replace s6 := kJ35.dp _ s6
    replace hl2 := kJ35.same _ _ hl2
    replace hbody := kJ35.sqL hbody
    replace hsts := kJ35.dpAll _ hsts
    replace hb3 := kJ35.same _ _ hb3
    replace dntb := kJ35.dp _ dntb
    replace deeb := kJ35.dp _ deeb
    replace sw3 := kJ35.dp _ sw3
    replace hb1 := kJ35.same _ _ hb1
    replace hb4 := kJ35.same _ _ hb4
    replace hb5 := kJ35.same _ _ hb5
    replace haw := kJ35.sqL haw
    replace ht := kJ35.sqT ht
    replace hfb := kJ35.same _ _ hfb
    replace hvp := kJ35.dp _ hvp
    replace hvf := kJ35.dp _ hvf
    replace hfl := kJ35.same _ _ hfl
    replace hys := kJ35.dpAll _ hys
    simp only [List.set]
    refine ⟨_, rfl, ?_⟩
    intro bx2 n_bx2
    refine ⟨_, rfl, _, rfl, upd_same, [(Sum.inr "c", .int (turn)), (Sum.inr "i", .int (turn))], rfl, (by show 2 ≤ 15; decide), ?_⟩
    rw [show mergeK [] [((Sum.inr "c" : Key), V.int (turn)), (Sum.inr "i", .int (turn))] = bxs [("c", turn), ("i", turn)] by kernel_rfl]
    have kJ36 : Kx [] J35 (upd (upd J35 bx2 (.dK [])) bx2 (.dK (bxs [("c", turn), ("i", turn)]))) := (Kx.new (ks := []) n_bx2).grow n_bx2
    have hbx2 : (upd (upd J35 bx2 (.dK [])) bx2 (.dK (bxs [("c", turn), ("i", turn)]))) bx2 = some (.dK (bxs [("c", turn), ("i", turn)])) := upd_same
    generalize upd (upd J35 bx2 (.dK [])) bx2 (.dK (bxs [("c", turn), ("i", turn)])) = J36 at kJ36 hbx2 ⊢
    replace kd := kd.trans (kJ36.sub (fun _ z => nomatch z))
    replace p2 := p2.keep kJ36
    replace dc := kJ36.dp _ dc
    replace dn0 := kJ36.dp _ dn0
    replace s0 := kJ36.dp _ s0
    replace s1 := kJ36.dp _ s1
    replace dn1 := kJ36.dp _ dn1
    replace de1 := kJ36.dp _ de1
    replace s2 := kJ36.dp _ s2
    replace hlb := kJ36.same _ _ hlb
    replace dnta := kJ36.dp _ dnta
    replace deea := kJ36.dp _ deea
    replace sq3 := kJ36.dp _ sq3
    replace s4 := kJ36.dp _ s4
    replace di := kJ36.dp _ di
    replace s5i := kJ36.dp _ s5i
    replace s5 := kJ36.dp _ s5
    replace s6 := kJ36.dp _ s6
    replace hl2 := kJ36.same _ _ hl2
    replace hbody := kJ36.sqL hbody
    replace hsts := kJ36.dpAll _ hsts
    replace hb3 := kJ36.same _ _ hb3
    replace dntb := kJ36.dp _ dntb
    replace deeb := kJ36.dp _ deeb
    replace sw3 := kJ36.dp _ sw3
    replace hb1 := kJ36.same _ _ hb1
    replace hb4 := kJ36.same _ _ hb4
    replace hb5 := kJ36.same _ _ hb5
    replace haw := kJ36.sqL haw
    replace ht := kJ36.sqT ht
    replace hfb := kJ36.same _ _ hfb
    replace hvp := kJ36.dp _ hvp
    replace hvf := kJ36.dp _ hvf
    replace hfl := kJ36.same _ _ hfl
    replace hys := kJ36.dpAll _ hys
    replace dfr := kJ36.dp _ dfr
    refine ⟨_, rfl, (by show 1 ≤ sizeLine; decide), fun pt n_pt => ?_⟩
    have kJ37 : Kx [] J36 (upd J36 pt (.tup [.ref fr])) := .new n_pt
    have dpt : Dp K (upd J36 pt (.tup [.ref fr])) (.ref pt) (pileD [.loop "i" (2 * by_) last 1]) := tup_new n_pt (.cons dfr .nil)
    generalize upd J36 pt (.tup [.ref fr]) = J37 at kJ37 dpt ⊢
    replace kd := kd.trans (kJ37.sub (fun _ z => nomatch z))
    replace p2 := p2.keep kJ37
    replace dc := kJ37.dp _ dc
    replace dn0 := kJ37.dp _ dn0
    replace s0 := kJ37.dp _ s0
    replace s1 := kJ37.dp _ s1
    replace dn1 := kJ37.dp _ dn1
    replace de1 := kJ37.dp _ de1
    replace s2 := kJ37.dp _ s2
    replace hlb := kJ37.same _ _ hlb
    replace dnta := kJ37.dp _ dnta
    replace deea := kJ37.dp _ deea
    replace sq3 := kJ37.dp _ sq3
    replace s4 := kJ37.dp _ s4
    replace di := kJ37.dp _ di
    replace s5i := kJ37.dp _ s5i
    replace s5 := kJ37.dp _ s5
    replace s6 := kJ37.dp _ s6
    replace hl2 := kJ37.same _ _ hl2
    replace hbody := kJ37.sqL hbody
    replace hsts := kJ37.dpAll _ hsts
    replace hb3 := kJ37.same _ _ hb3
    replace dntb := kJ37.dp _ dntb
    replace deeb := kJ37.dp _ deeb
    replace sw3 := kJ37.dp _ sw3
    replace hb1 := kJ37.same _ _ hb1
    replace hb4 := kJ37.same _ _ hb4
    replace hb5 := kJ37.same _ _ hb5
    replace haw := kJ37.sqL haw
    replace ht := kJ37.sqT ht
    replace hfb := kJ37.same _ _ hfb
    replace hvp := kJ37.dp _ hvp
    replace hvf := kJ37.dp _ hvf
    replace hfl := kJ37.same _ _ hfl
    replace hys := kJ37.dpAll _ hys
    replace dfr := kJ37.dp _ dfr
    replace hbx2 := kJ37.same _ _ hbx2
    refine ⟨_, rfl, _, rfl, (by show 2 ≤ sizeLine; decide), fun rwb n_rwb => ?_⟩
    have kJ38 : Kx [] J37 (upd J37 rwb (.tup [.int (turn), .int (turn)])) := .new n_rwb
    have drwb : Dp K (upd J37 rwb (.tup [.int (turn), .int (turn)])) (.ref rwb) (rowD [turn, turn]) := tup_new n_rwb (.cons (.int _) (.cons (.int _) .nil))
    generalize upd J37 rwb (.tup [.int (turn), .int (turn)]) = J38 at kJ38 drwb ⊢
    replace kd := kd.trans (kJ38.sub (fun _ z => nomatch z))
    replace p2 := p2.keep kJ38
    replace dc := kJ38.dp _ dc
    replace dn0 := kJ38.dp _ dn0
    replace s0 := kJ38.dp _ s0
    replace s1 := kJ38.dp _ s1
    replace dn1 := kJ38.dp _ dn1
    replace de1 := kJ38.dp _ de1
    replace s2 := kJ38.dp _ s2
    replace hlb := kJ38.same _ _ hlb
    replace dnta := kJ38.dp _ dnta
    replace deea := kJ38.dp _ deea
    replace sq3 := kJ38.dp _ sq3
    replace s4 := kJ38.dp _ s4
    replace di := kJ38.dp _ di
    replace s5i := kJ38.dp _ s5i
    replace s5 := kJ38.dp _ s5
    replace s6 := kJ38.dp _ s6
    replace hl2 := kJ38.same _ _ hl2
    replace hbody := kJ38.sqL hbody
    replace hsts := kJ38.dpAll _ hsts
    replace hb3 := kJ38.same _ _ hb3
    replace dntb := kJ38.dp _ dntb
    replace deeb := kJ38.dp _ deeb
    replace sw3 := kJ38.dp _ sw3
    replace hb1 := kJ38.same _ _ hb1
    replace hb4 := kJ38.same _ _ hb4
    replace hb5 := kJ38.same _ _ hb5
    replace haw := kJ38.sqL haw
    replace ht := kJ38.sqT ht
    replace hfb := kJ38.same _ _ hfb
    replace hvp := kJ38.dp _ hvp
    replace hvf := kJ38.dp _ hvf
    replace hfl := kJ38.same _ _ hfl
    replace hys := kJ38.dpAll _ hys
    replace dfr := kJ38.dp _ dfr
    replace hbx2 := kJ38.same _ _ hbx2
    replace dpt := kJ38.dp _ dpt
    refine ⟨(by show 1 ≤ sizeLine; decide), fun rlb n_rlb => ?_⟩
    have kJ39 : Kx [] J38 (upd J38 rlb (.lst [.ref rwb])) := .new n_rlb
    have hrlb : (upd J38 rlb (.lst [.ref rwb])) rlb = some (.lst [.ref rwb]) := upd_same
    generalize upd J38 rlb (.lst [.ref rwb]) = J39 at kJ39 hrlb ⊢
    replace kd := kd.trans (kJ39.sub (fun _ z => nomatch z))
    replace p2 := p2.keep kJ39
    replace dc := kJ39.dp _ dc
    replace dn0 := kJ39.dp _ dn0
    replace s0 := kJ39.dp _ s0
    replace s1 := kJ39.dp _ s1
    replace dn1 := kJ39.dp _ dn1
    replace de1 := kJ39.dp _ de1
    replace s2 := kJ39.dp _ s2
    replace hlb := kJ39.same _ _ hlb
    replace dnta := kJ39.dp _ dnta
    replace deea := kJ39.dp _ deea
    replace sq3 := kJ39.dp _ sq3
    replace s4 := kJ39.dp _ s4
    replace di := kJ39.dp _ di
    replace s5i := kJ39.dp _ s5i
    replace s5 := kJ39.dp _ s5
    replace s6 := kJ39.dp _ s6
    replace hl2 := kJ39.same _ _ hl2
    replace hbody := kJ39.sqL hbody
    replace hsts := kJ39.dpAll _ hsts
    replace hb3 := kJ39.same _ _ hb3
    replace dntb := kJ39.dp _ dntb
    replace deeb := kJ39.dp _ deeb
    replace sw3 := kJ39.dp _ sw3
    replace hb1 := kJ39.same _ _ hb1
    replace hb4 := kJ39.same _ _ hb4
    replace hb5 := kJ39.same _ _ hb5
    replace haw := kJ39.sqL haw
    replace ht := kJ39.sqT ht
    replace hfb := kJ39.same _ _ hfb
    replace hvp := kJ39.dp _ hvp
    replace hvf := kJ39.dp _ hvf
    replace hfl := kJ39.same _ _ hfl
    replace hys := kJ39.dpAll _ hys
    replace dfr := kJ39.dp _ dfr
    replace hbx2 := kJ39.same _ _ hbx2
    replace dpt := kJ39.dp _ dpt
    replace drwb := kJ39.dp _ drwb
    refine ⟨(by show 6 ≤ sizeLine; decide), fun tt2 n_tt2 => ?_⟩
    have kJ40 : Kx [] J39 (upd J39 tt2 (.tup [.str "ended", .int 0, .ref bx2, .ref pt, .non, .ref rlb])) := .new n_tt2
    have htt2 : SqT K (upd J39 tt2 (.tup [.str "ended", .int 0, .ref bx2, .ref pt, .non, .ref rlb])) tt2 [.str "ended", .int 0, .ref bx2, .ref pt, .non, .ref rlb] := .inl (.inl upd_same)
    generalize upd J39 tt2 (.tup [.str "ended", .int 0, .ref bx2, .ref pt, .non, .ref rlb]) = J40 at kJ40 htt2 ⊢
    replace kd := kd.trans (kJ40.sub (fun _ z => nomatch z))
    replace p2 := p2.keep kJ40
    replace dc := kJ40.dp _ dc
    replace dn0 := kJ40.dp _ dn0
    replace s0 := kJ40.dp _ s0
    replace s1 := kJ40.dp _ s1
    replace dn1 := kJ40.dp _ dn1
    replace de1 := kJ40.dp _ de1
    replace s2 := kJ40.dp _ s2
    replace hlb := kJ40.same _ _ hlb
    replace dnta := kJ40.dp _ dnta
    replace deea := kJ40.dp _ deea
    replace sq3 := kJ40.dp _ sq3
    replace s4 := kJ40.dp _ s4
    replace di := kJ40.dp _ di
    replace s5i := kJ40.dp _ s5i
    replace s5 := kJ40.dp _ s5
    replace s6 := kJ40.dp _ s6
    replace hl2 := kJ40.same _ _ hl2
    replace hbody := kJ40.sqL hbody
    replace hsts := kJ40.dpAll _ hsts
    replace hb3 := kJ40.same _ _ hb3
    replace dntb := kJ40.dp _ dntb
    replace deeb := kJ40.dp _ deeb
    replace sw3 := kJ40.dp _ sw3
    replace hb1 := kJ40.same _ _ hb1
    replace hb4 := kJ40.same _ _ hb4
    replace hb5 := kJ40.same _ _ hb5
    replace haw := kJ40.sqL haw
    replace ht := kJ40.sqT ht
    replace hfb := kJ40.same _ _ hfb
    replace hvp := kJ40.dp _ hvp
    replace hvf := kJ40.dp _ hvf
    replace hfl := kJ40.same _ _ hfl
    replace hys := kJ40.dpAll _ hys
    replace dfr := kJ40.dp _ dfr
    replace hbx2 := kJ40.same _ _ hbx2
    replace dpt := kJ40.dp _ dpt
    replace drwb := kJ40.dp _ drwb
    replace hrlb := kJ40.same _ _ hrlb
    refine ⟨10, by decide, eq_six (said := [[turn, turn]]) (pile := [.loop "i" (2 * by_) last 1]) (fault := none) hnd ht htt2 hfb hbx2 hvp dpt hvf .non (.inl (.inl hfl)) (.inl (.inl hrlb)) hys (.cons drwb .nil), ?_⟩
    exact q _ kd (p2.mono (by omega))
  · rw [if_neg hle] at hrun2
    refine ⟨_, rfl, _, rfl, aw, _, awayS last turn, by_, _, rfl, haw, hsts2, away_ok _ _, hb.1, hb.2, hrun2, fun G1 ft fb vp vf fl ys kG1 ht hfb hvp hvf hfl hys hnd => ?_⟩
    replace kd := kd.trans (kG1.sub (fun _ z => nomatch z))
    replace p2 := p2.keep kG1
    replace dc := kG1.dp _ dc
    replace dn0 := kG1.dp _ dn0
    replace s0 := kG1.dp _ s0
    replace s1 := kG1.dp _ s1
    replace dn1 := kG1.dp _ dn1
    replace de1 := kG1.dp _ de1
    replace s2 := kG1.dp _ s2
    replace hlb := kG1.same _ _ hlb
    replace dnta := kG1.dp _ dnta
    replace deea := kG1.dp _ deea
    replace sq3 := kG1.dp _ sq3
    replace s4 := kG1.dp _ s4
    replace di := kG1.dp _ di
    replace s5i := kG1.dp _ s5i
    replace s5 := kG1.dp _ s5
    replace s6 := kG1.dp _ s6
    replace hl2 := kG1.same _ _ hl2
    replace hbody := kG1.sqL hbody
    replace hsts := kG1.dpAll _ hsts
    replace hb3 := kG1.same _ _ hb3
    replace dntb := kG1.dp _ dntb
    replace deeb := kG1.dp _ deeb
    replace sw3 := kG1.dp _ sw3
    replace hb1 := kG1.same _ _ hb1
    replace hb4 := kG1.same _ _ hb4
    replace hb5 := kG1.same _ _ hb5
    replace haw := kG1.sqL haw
    simp only [List.set]
    refine ⟨_, rfl, _, rfl, _, _, rfl, rfl, _, rfl, ?_⟩
    rw [decide_eq_false hle]
    refine iteF ?_
    replace ht : SqT K G1 ft [.str "ended", .int 0, .ref fb, vp, vf, .ref fl] := ht
    refine ⟨_, rfl, _, rfl, ft, _, rfl, ht, (fun e => absurd e.1 (by show ¬ 2 = 0; decide)), fun _ slb n_slb => ?_⟩
    rw [show cutV [V.str "ended", V.int 0, V.ref fb, vp, vf, V.ref fl] (some 2) none = [V.ref fb, vp, vf, V.ref fl] from rfl]
    have kJ35 : Kx [] G1 (upd G1 slb (.tup [.ref fb, vp, vf, .ref fl])) := .new n_slb
    have hslb : SqT K (upd G1 slb (.tup [.ref fb, vp, vf, .ref fl])) slb [.ref fb, vp, vf, .ref fl] := .inl (.inl upd_same)
    generalize upd G1 slb (.tup [.ref fb, vp, vf, .ref fl]) = J35 at kJ35 hslb ⊢
    replace kd := kd.trans (kJ35.sub (fun _ z => nomatch z))
    replace p2 := p2.keep kJ35
    replace dc := kJ35.dp _ dc
    replace dn0 := kJ35.dp _ dn0
    replace s0 := kJ35.dp _ s0
    replace s1 := kJ35.dp _ s1
    replace dn1 := kJ35.dp _ dn1
    replace de1 := kJ35.dp _ de1
    replace s2 := kJ35.dp _ s2
    replace hlb := kJ35.same _ _ hlb
    replace dnta := kJ35.dp _ dnta
    replace deea := kJ35.dp _ deea
    replace sq3 := kJ35.dp _ sq3
    replace s4 := kJ35.dp _ s4
    replace di := kJ35.dp _ di
    replace s5i := kJ35.dp _ s5i
    replace s5 := kJ35.dp _ s5
    replace s6 := kJ35.dp _ s6
    replace hl2 := kJ35.same _ _ hl2
    replace hbody := kJ35.sqL hbody
    replace hsts := kJ35.dpAll _ hsts
    replace hb3 := kJ35.same _ _ hb3
    replace dntb := kJ35.dp _ dntb
    replace deeb := kJ35.dp _ deeb
    replace sw3 := kJ35.dp _ sw3
    replace hb1 := kJ35.same _ _ hb1
    replace hb4 := kJ35.same _ _ hb4
    replace hb5 := kJ35.same _ _ hb5
    replace haw := kJ35.sqL haw
    replace ht := kJ35.sqT ht
    replace hfb := kJ35.same _ _ hfb
    replace hvp := kJ35.dp _ hvp
    replace hvf := kJ35.dp _ hvf
    replace hfl := kJ35.same _ _ hfl
    replace hys := kJ35.dpAll _ hys
    intro bx2 n_bx2
    refine ⟨_, rfl, _, rfl, _, _, rfl, rfl, upd_same, [(Sum.inr "c", .int (last)), (Sum.inr "i", .int (last + 1))], rfl, (by show 2 ≤ 15; decide), ?_⟩
    rw [show mergeK [] [((Sum.inr "c" : Key), V.int (last)), (Sum.inr "i", .int (last + 1))] = bxs [("c", last), ("i", last + 1)] by kernel_rfl]
    have kJ36 : Kx [] J35 (upd (upd J35 bx2 (.dK [])) bx2 (.dK (bxs [("c", last), ("i", last + 1)]))) := (Kx.new (ks := []) n_bx2).grow n_bx2
    have hbx2 : (upd (upd J35 bx2 (.dK [])) bx2 (.dK (bxs [("c", last), ("i", last + 1)]))) bx2 = some (.dK (bxs [("c", last), ("i", last + 1)])) := upd_same
    generalize upd (upd J35 bx2 (.dK [])) bx2 (.dK (bxs [("c", last), ("i", last + 1)])) = J36 at kJ36 hbx2 ⊢
    replace kd := kd.trans (kJ36.sub (fun _ z => nomatch z))
    replace p2 := p2.keep kJ36
    replace dc := kJ36.dp _ dc
    replace dn0 := kJ36.dp _ dn0
    replace s0 := kJ36.dp _ s0
    replace s1 := kJ36.dp _ s1
    replace dn1 := kJ36.dp _ dn1
    replace de1 := kJ36.dp _ de1
    replace s2 := kJ36.dp _ s2
    replace hlb := kJ36.same _ _ hlb
    replace dnta := kJ36.dp _ dnta
    replace deea := kJ36.dp _ deea
    replace sq3 := kJ36.dp _ sq3
    replace s4 := kJ36.dp _ s4
    replace di := kJ36.dp _ di
    replace s5i := kJ36.dp _ s5i
    replace s5 := kJ36.dp _ s5
    replace s6 := kJ36.dp _ s6
    replace hl2 := kJ36.same _ _ hl2
    replace hbody := kJ36.sqL hbody
    replace hsts := kJ36.dpAll _ hsts
    replace hb3 := kJ36.same _ _ hb3
    replace dntb := kJ36.dp _ dntb
    replace deeb := kJ36.dp _ deeb
    replace sw3 := kJ36.dp _ sw3
    replace hb1 := kJ36.same _ _ hb1
    replace hb4 := kJ36.same _ _ hb4
    replace hb5 := kJ36.same _ _ hb5
    replace haw := kJ36.sqL haw
    replace ht := kJ36.sqT ht
    replace hfb := kJ36.same _ _ hfb
    replace hvp := kJ36.dp _ hvp
    replace hvf := kJ36.dp _ hvf
    replace hfl := kJ36.same _ _ hfl
    replace hys := kJ36.dpAll _ hys
    replace hslb := kJ36.sqT hslb
    refine ⟨(by show 0 ≤ sizeLine; decide), fun e1 n_e1 => ?_⟩
    have kJ37 : Kx [] J36 (upd J36 e1 (.tup [])) := .new n_e1
    have de1x : Dp K (upd J36 e1 (.tup [])) (.ref e1) (pileD []) := tup_new n_e1 .nil
    generalize upd J36 e1 (.tup []) = J37 at kJ37 de1x ⊢
    replace kd := kd.trans (kJ37.sub (fun _ z => nomatch z))
    replace p2 := p2.keep kJ37
    replace dc := kJ37.dp _ dc
    replace dn0 := kJ37.dp _ dn0
    replace s0 := kJ37.dp _ s0
    replace s1 := kJ37.dp _ s1
    replace dn1 := kJ37.dp _ dn1
    replace de1 := kJ37.dp _ de1
    replace s2 := kJ37.dp _ s2
    replace hlb := kJ37.same _ _ hlb
    replace dnta := kJ37.dp _ dnta
    replace deea := kJ37.dp _ deea
    replace sq3 := kJ37.dp _ sq3
    replace s4 := kJ37.dp _ s4
    replace di := kJ37.dp _ di
    replace s5i := kJ37.dp _ s5i
    replace s5 := kJ37.dp _ s5
    replace s6 := kJ37.dp _ s6
    replace hl2 := kJ37.same _ _ hl2
    replace hbody := kJ37.sqL hbody
    replace hsts := kJ37.dpAll _ hsts
    replace hb3 := kJ37.same _ _ hb3
    replace dntb := kJ37.dp _ dntb
    replace deeb := kJ37.dp _ deeb
    replace sw3 := kJ37.dp _ sw3
    replace hb1 := kJ37.same _ _ hb1
    replace hb4 := kJ37.same _ _ hb4
    replace hb5 := kJ37.same _ _ hb5
    replace haw := kJ37.sqL haw
    replace ht := kJ37.sqT ht
    replace hfb := kJ37.same _ _ hfb
    replace hvp := kJ37.dp _ hvp
    replace hvf := kJ37.dp _ hvf
    replace hfl := kJ37.same _ _ hfl
    replace hys := kJ37.dpAll _ hys
    replace hslb := kJ37.sqT hslb
    replace hbx2 := kJ37.same _ _ hbx2
    refine ⟨_, rfl, _, rfl, _, _, rfl, rfl, (by show 2 ≤ sizeLine; decide), fun rwb n_rwb => ?_⟩
    have kJ38 : Kx [] J37 (upd J37 rwb (.tup [.int (last), .int (last + 1)])) := .new n_rwb
    have drwb : Dp K (upd J37 rwb (.tup [.int (last), .int (last + 1)])) (.ref rwb) (rowD [last, last + 1]) := tup_new n_rwb (.cons (.int _) (.cons (.int _) .nil))
    generalize upd J37 rwb (.tup [.int (last), .int (last + 1)]) = J38 at kJ38 drwb ⊢
    replace kd := kd.trans (kJ38.sub (fun _ z => nomatch z))
    replace p2 := p2.keep kJ38
    replace dc := kJ38.dp _ dc
    replace dn0 := kJ38.dp _ dn0
    replace s0 := kJ38.dp _ s0
    replace s1 := kJ38.dp _ s1
    replace dn1 := kJ38.dp _ dn1
    replace de1 := kJ38.dp _ de1
    replace s2 := kJ38.dp _ s2
    replace hlb := kJ38.same _ _ hlb
    replace dnta := kJ38.dp _ dnta
    replace deea := kJ38.dp _ deea
    replace sq3 := kJ38.dp _ sq3
    replace s4 := kJ38.dp _ s4
    replace di := kJ38.dp _ di
    replace s5i := kJ38.dp _ s5i
    replace s5 := kJ38.dp _ s5
    replace s6 := kJ38.dp _ s6
    replace hl2 := kJ38.same _ _ hl2
    replace hbody := kJ38.sqL hbody
    replace hsts := kJ38.dpAll _ hsts
    replace hb3 := kJ38.same _ _ hb3
    replace dntb := kJ38.dp _ dntb
    replace deeb := kJ38.dp _ deeb
    replace sw3 := kJ38.dp _ sw3
    replace hb1 := kJ38.same _ _ hb1
    replace hb4 := kJ38.same _ _ hb4
    replace hb5 := kJ38.same _ _ hb5
    replace haw := kJ38.sqL haw
    replace ht := kJ38.sqT ht
    replace hfb := kJ38.same _ _ hfb
    replace hvp := kJ38.dp _ hvp
    replace hvf := kJ38.dp _ hvf
    replace hfl := kJ38.same _ _ hfl
    replace hys := kJ38.dpAll _ hys
    replace hslb := kJ38.sqT hslb
    replace hbx2 := kJ38.same _ _ hbx2
    replace de1x := kJ38.dp _ de1x
    refine ⟨(by show 1 ≤ sizeLine; decide), fun rlb n_rlb => ?_⟩
    have kJ39 : Kx [] J38 (upd J38 rlb (.lst [.ref rwb])) := .new n_rlb
    have hrlb : (upd J38 rlb (.lst [.ref rwb])) rlb = some (.lst [.ref rwb]) := upd_same
    generalize upd J38 rlb (.lst [.ref rwb]) = J39 at kJ39 hrlb ⊢
    replace kd := kd.trans (kJ39.sub (fun _ z => nomatch z))
    replace p2 := p2.keep kJ39
    replace dc := kJ39.dp _ dc
    replace dn0 := kJ39.dp _ dn0
    replace s0 := kJ39.dp _ s0
    replace s1 := kJ39.dp _ s1
    replace dn1 := kJ39.dp _ dn1
    replace de1 := kJ39.dp _ de1
    replace s2 := kJ39.dp _ s2
    replace hlb := kJ39.same _ _ hlb
    replace dnta := kJ39.dp _ dnta
    replace deea := kJ39.dp _ deea
    replace sq3 := kJ39.dp _ sq3
    replace s4 := kJ39.dp _ s4
    replace di := kJ39.dp _ di
    replace s5i := kJ39.dp _ s5i
    replace s5 := kJ39.dp _ s5
    replace s6 := kJ39.dp _ s6
    replace hl2 := kJ39.same _ _ hl2
    replace hbody := kJ39.sqL hbody
    replace hsts := kJ39.dpAll _ hsts
    replace hb3 := kJ39.same _ _ hb3
    replace dntb := kJ39.dp _ dntb
    replace deeb := kJ39.dp _ deeb
    replace sw3 := kJ39.dp _ sw3
    replace hb1 := kJ39.same _ _ hb1
    replace hb4 := kJ39.same _ _ hb4
    replace hb5 := kJ39.same _ _ hb5
    replace haw := kJ39.sqL haw
    replace ht := kJ39.sqT ht
    replace hfb := kJ39.same _ _ hfb
    replace hvp := kJ39.dp _ hvp
    replace hvf := kJ39.dp _ hvf
    replace hfl := kJ39.same _ _ hfl
    replace hys := kJ39.dpAll _ hys
    replace hslb := kJ39.sqT hslb
    replace hbx2 := kJ39.same _ _ hbx2
    replace de1x := kJ39.dp _ de1x
    replace drwb := kJ39.dp _ drwb
    refine ⟨(by show 4 ≤ sizeLine; decide), fun tt2 n_tt2 => ?_⟩
    have kJ40 : Kx [] J39 (upd J39 tt2 (.tup [.ref bx2, .ref e1, .non, .ref rlb])) := .new n_tt2
    have htt2 : SqT K (upd J39 tt2 (.tup [.ref bx2, .ref e1, .non, .ref rlb])) tt2 [.ref bx2, .ref e1, .non, .ref rlb] := .inl (.inl upd_same)
    generalize upd J39 tt2 (.tup [.ref bx2, .ref e1, .non, .ref rlb]) = J40 at kJ40 htt2 ⊢
    replace kd := kd.trans (kJ40.sub (fun _ z => nomatch z))
    replace p2 := p2.keep kJ40
    replace dc := kJ40.dp _ dc
    replace dn0 := kJ40.dp _ dn0
    replace s0 := kJ40.dp _ s0
    replace s1 := kJ40.dp _ s1
    replace dn1 := kJ40.dp _ dn1
    replace de1 := kJ40.dp _ de1
    replace s2 := kJ40.dp _ s2
    replace hlb := kJ40.same _ _ hlb
    replace dnta := kJ40.dp _ dnta
    replace deea := kJ40.dp _ deea
    replace sq3 := kJ40.dp _ sq3
    replace s4 := kJ40.dp _ s4
    replace di := kJ40.dp _ di
    replace s5i := kJ40.dp _ s5i
    replace s5 := kJ40.dp _ s5
    replace s6 := kJ40.dp _ s6
    replace hl2 := kJ40.same _ _ hl2
    replace hbody := kJ40.sqL hbody
    replace hsts := kJ40.dpAll _ hsts
    replace hb3 := kJ40.same _ _ hb3
    replace dntb := kJ40.dp _ dntb
    replace deeb := kJ40.dp _ deeb
    replace sw3 := kJ40.dp _ sw3
    replace hb1 := kJ40.same _ _ hb1
    replace hb4 := kJ40.same _ _ hb4
    replace hb5 := kJ40.same _ _ hb5
    replace haw := kJ40.sqL haw
    replace ht := kJ40.sqT ht
    replace hfb := kJ40.same _ _ hfb
    replace hvp := kJ40.dp _ hvp
    replace hvf := kJ40.dp _ hvf
    replace hfl := kJ40.same _ _ hfl
    replace hys := kJ40.dpAll _ hys
    replace hslb := kJ40.sqT hslb
    replace hbx2 := kJ40.same _ _ hbx2
    replace de1x := kJ40.dp _ de1x
    replace drwb := kJ40.dp _ drwb
    replace hrlb := kJ40.same _ _ hrlb
    refine ⟨10, by decide, eq_four (said := [[last, last + 1]]) (pile := []) (fault := none) hnd hslb htt2 hfb hbx2 hvp de1x hvf .non (.inl (.inl hfl)) (.inl (.inl hrlb)) hys (.cons drwb .nil), ?_⟩
    exact q _ kd (p2.mono (by omega))
end
end K31
/-! the law's rights: loops of one name -/
namespace K31
open PySem PySem.Spec PyProof.Rows L2
section
variable {P : Program} {w : World} {K : PySem.W.Frag} {mg : Str → Option Value} {base : Heap}
theorem same_ok (many more : Int) : StsOk (sameS many more) := by
  refine ⟨by show 9 ≤ 20; decide, fun st hst => ?_, fun st hst => ?_⟩
  · simp only [sameS, List.mem_cons, List.not_mem_nil, or_false] at hst
    rcases hst with rfl | rfl | rfl | rfl | rfl | rfl | rfl | rfl | rfl
    · exact ⟨by show 3 ≤ 100; decide, nm_loop nm_i _ _ _⟩
    · exact ⟨by show 0 ≤ 100; decide, rfl⟩
    · exact ⟨by show 0 ≤ 100; decide, nm_i⟩
    · exact ⟨by show 1 ≤ 100; decide, by simp [nmS, nm_bI]⟩
    · exact ⟨by show 0 ≤ 100; decide, rfl⟩
    · exact ⟨by show 3 ≤ 100; decide, nm_loop nm_i _ _ _⟩
    · exact ⟨by show 1 ≤ 100; decide, by simp [nmS, nm_bI]⟩
    · exact ⟨by show 0 ≤ 100; decide, nm_i⟩
    · exact ⟨by show 0 ≤ 100; decide, rfl⟩
  · simp only [sameS, List.mem_cons, List.not_mem_nil, or_false] at hst
    rcases hst with rfl | rfl | rfl | rfl | rfl | rfl | rfl | rfl | rfl <;> first | exact trivial | exact ⟨by decide, by decide⟩
theorem sc_law_same_name_right : FnScope ["_law_pen_here", "_law_by", "_law_many", "_law_more", "_law_i", "_law_body", "_law_said", "_law_k"] ["_law_pen_here", "_law_by"] (defScope s_law_same_name_right) :=
  ⟨rfl, rfl, rfl, by decide +kernel, rfl, by decide +kernel, by decide +kernel⟩
theorem gf_law_same_name_right (T : Txt w K mg) : Gf P w K mg base 10 "_law_same_name_right" (spRight K 2) := by
  have nd := sc_law_same_name_right.nd
  refine gf_mk T.law_same_name_right sc_law_same_name_right (fun vs H Q E h => ?_) (fun _ _ _ _ _ _ us hl => match us, hl with | [_, _], _ => rfl) (fun f cdv A outer s H vs Q E hr h => ?_)
  · obtain ⟨d, by_, N, rfl, hby, hN, hp, q⟩ := h
    rfl
  obtain ⟨d, by_, N, rfl, hby, hN, hp, q⟩ := h
  have hu := hu_of hr
  have G_three := (gf_law_three (P := P) (base := base) T)
  have G_loop := (gf_law_loop_line (P := P) (base := base) T)
  have G_rounds := (gf_law_rounds (P := P) (base := base) T)
  have G_comes := (gf_law_comes_to (P := P) (base := base) T)
  have G_draw := (gf_law_draw (P := P) (base := base) T)
  refine ⟨_, (pss_cons (sT 2 nd (pe_op op_add pe_int (pe_callG G_draw (hr.mono (by decide)) (pa_cons (pv 0) (pa_cons pe_int pa_nil)))))
    (pss_cons (sT 3 nd (pe_callG G_draw (hr.mono (by decide)) (pa_cons (pv 0) (pa_cons pe_int pa_nil))))
    (pss_cons (sT 4 nd (pe_tup (pa_cons pe_str (pa_cons pe_str pa_nil))))
    (pss_cons (sT 5 nd (pe_lst (pa_cons (pe_callG G_loop (hr.mono (by decide)) (pa_cons pe_str (pa_cons pe_int (pa_cons (pv 2) (pa_cons pe_int pa_nil))))) (pa_cons (pe_tup (pa_cons pe_str (pa_cons pe_int pa_nil))) (pa_cons (pe_tup (pa_cons pe_str (pa_cons pe_str pa_nil))) (pa_cons (pe_tup (pa_cons pe_str (pa_cons (pe_tup (pa_cons (pv 4) pa_nil)) pa_nil))) (pa_cons (pe_tup (pa_cons pe_str pa_nil)) pa_nil)))))))
    (pss_cons (sT 5 nd (pe_op op_cat (pv 5) (pe_lst (pa_cons (pe_callG G_loop (hr.mono (by decide)) (pa_cons pe_str (pa_cons pe_int (pa_cons (pe_op op_add pe_int (pv 3)) (pa_cons pe_int pa_nil))))) (pa_cons (pe_tup (pa_cons pe_str (pa_cons (pe_tup (pa_cons (pv 4) pa_nil)) pa_nil))) (pa_cons (pe_tup (pa_cons pe_str (pa_cons pe_str pa_nil))) (pa_cons (pe_tup (pa_cons pe_str pa_nil)) pa_nil)))))))
    (pss_cons (sT 6 nd (pe_op op_cat (pe_lc (own := [("_law_k", 7)]) (g := (gName 7)) (by rfl) nd (pi_range1 (by rfl) T.range (pa_cons (pe_op op_add (pv 3) pe_int) pa_nil)) (blkOk_by (own := [("_law_k", 7)]) (N := ["_law_pen_here", "_law_by", "_law_many", "_law_more", "_law_i", "_law_body", "_law_said", "_law_k"]) (sc := defScope s_law_same_name_right) (by decide +kernel)) (fun _ _ _ _ _ => (gN 7 nd)) (fun _ _ _ _ _ => pts_nil) (fun _ _ _ _ _ => (pe_tup (pa_cons (pe_op op_add pe_int (pv 7)) pa_nil)))) (pe_lst (pa_cons (pe_tup (pa_cons (pe_op op_add pe_int (pv 3)) pa_nil)) pa_nil))))
    (pss_one (ps_ret (pe_cmpR (op_eqW hr.units) (pe_callG G_comes (hr.mono (by decide)) (pa_cons (pv 5) (pa_cons (pv 1) pa_nil))) (pe_tup (pa_cons pe_str (pa_cons pe_int (pa_cons (pe_disp (pps_cons pe_str (pe_op op_add pe_int (pv 3)) pps_nil) (by rfl) (by rfl) (fun z => by cases z) (by decide)) (pa_cons (pe_tup pa_nil) (pa_cons pe_non (pa_cons (pv 6) pa_nil))))))) (nomark _)))))))))), ?_⟩
  simp only [cxK, cxK2, L2.start, List.map, List.length, List.replicate, List.append, HAppend.hAppend, Append.append]
  refine ⟨_, rfl, d, 4, N, rfl, by decide, by decide, by omega, hp, fun J1 d1 kJ1 p1 hd10 hd11 => ⟨_, _, rfl, rfl, ?_⟩⟩
  simp only [List.set]
  refine ⟨_, rfl, d, 3, N + 1, rfl, by decide, by decide, by omega, p1, fun J2 more kJ2 p2 hm0 hm1 => ?_⟩
  simp only [List.set]
  have kd := kJ1.trans kJ2
  clear kJ1 kJ2 p1
  obtain ⟨many, hmany⟩ : ∃ many : Int, many = 1 + d1 := ⟨_, rfl⟩
  rw [← hmany]
  have hL1 : 1 ≤ many := by omega
  have hL2 : many ≤ 4 := by omega
  have hM2 : more ≤ 2 := by omega
  have hb := by_rng hby
  refine ⟨(by show 2 ≤ sizeLine; decide), fun ti n_ti => ?_⟩
  have kJ3 : Kx [] J2 (upd J2 ti (.tup [.str "box", .str "i"])) := .new n_ti
  have di : Dp K (upd J2 ti (.tup [.str "box", .str "i"])) (.ref ti) (lfD (.box "i")) := tup_new n_ti (.cons (.str _) (.cons (.str _) .nil))
  generalize upd J2 ti (.tup [.str "box", .str "i"]) = J3 at kJ3 di ⊢
  replace kd := kd.trans (kJ3.sub (fun _ z => nomatch z))
  replace p2 := p2.keep kJ3
  simp only [List.set]
  refine ⟨_, rfl, "i", 1, many, 1, rfl, fun J4 r0 kJ4 s0 => ?_⟩
  replace kd := kd.trans (kJ4.sub (fun _ z => nomatch z))
  replace p2 := p2.keep kJ4
  replace di := kJ4.dp _ di
  refine ⟨(by show 2 ≤ sizeLine; decide), fun q1 n_q1 => ?_⟩
  have kJ5 : Kx [] J4 (upd J4 q1 (.tup [.str "call", .int 5])) := .new n_q1
  have s1 : Dp K (upd J4 q1 (.tup [.str "call", .int 5])) (.ref q1) (smD (.call 5)) := tup_new n_q1 (.cons (.str _) (.cons (.int _) .nil))
  generalize upd J4 q1 (.tup [.str "call", .int 5]) = J5 at kJ5 s1 ⊢
  replace kd := kd.trans (kJ5.sub (fun _ z => nomatch z))
  replace p2 := p2.keep kJ5
  replace di := kJ5.dp _ di
  replace s0 := kJ5.dp _ s0
  refine ⟨(by show 2 ≤ sizeLine; decide), fun q2 n_q2 => ?_⟩
  have kJ6 : Kx [] J5 (upd J5 q2 (.tup [.str "again", .str "i"])) := .new n_q2
  have s2 : Dp K (upd J5 q2 (.tup [.str "again", .str "i"])) (.ref q2) (smD (.again "i")) := tup_new n_q2 (.cons (.str _) (.cons (.str _) .nil))
  generalize upd J5 q2 (.tup [.str "again", .str "i"]) = J6 at kJ6 s2 ⊢
  replace kd := kd.trans (kJ6.sub (fun _ z => nomatch z))
  replace p2 := p2.keep kJ6
  replace di := kJ6.dp _ di
  replace s0 := kJ6.dp _ s0
  replace s1 := kJ6.dp _ s1
  refine ⟨_, rfl, (by show 1 ≤ sizeLine; decide), fun q3i n_q3i => ?_⟩
  have kJ7 : Kx [] J6 (upd J6 q3i (.tup [.ref ti])) := .new n_q3i
  have s3i : Dp K (upd J6 q3i (.tup [.ref ti])) (.ref q3i) (.tuple ([bI] |>.map exD)) := tup_new n_q3i (.cons di (.nil))
  generalize upd J6 q3i (.tup [.ref ti]) = J7 at kJ7 s3i ⊢
  replace kd := kd.trans (kJ7.sub (fun _ z => nomatch z))
  replace p2 := p2.keep kJ7
  replace di := kJ7.dp _ di
  replace s0 := kJ7.dp _ s0
  replace s1 := kJ7.dp _ s1
  replace s2 := kJ7.dp _ s2
  refine ⟨(by show 2 ≤ sizeLine; decide), fun q3 n_q3 => ?_⟩
  have kJ8 : Kx [] J7 (upd J7 q3 (.tup [.str "say", .ref q3i])) := .new n_q3
  have s3 : Dp K (upd J7 q3 (.tup [.str "say", .ref q3i])) (.ref q3) (smD (.say [bI])) := tup_new n_q3 (.cons (.str _) (.cons s3i .nil))
  generalize upd J7 q3 (.tup [.str "say", .ref q3i]) = J8 at kJ8 s3 ⊢
  replace kd := kd.trans (kJ8.sub (fun _ z => nomatch z))
  replace p2 := p2.keep kJ8
  replace di := kJ8.dp _ di
  replace s0 := kJ8.dp _ s0
  replace s1 := kJ8.dp _ s1
  replace s2 := kJ8.dp _ s2
  replace s3i := kJ8.dp _ s3i
  refine ⟨(by show 1 ≤ sizeLine; decide), fun q4 n_q4 => ?_⟩
  have kJ9 : Kx [] J8 (upd J8 q4 (.tup [.str "end"])) := .new n_q4
  have s4 : Dp K (upd J8 q4 (.tup [.str "end"])) (.ref q4) (smD .fin) := tup_new n_q4 (.cons (.str _) .nil)
  generalize upd J8 q4 (.tup [.str "end"]) = J9 at kJ9 s4 ⊢
  replace kd := kd.trans (kJ9.sub (fun _ z => nomatch z))
  replace p2 := p2.keep kJ9
  replace di := kJ9.dp _ di
  replace s0 := kJ9.dp _ s0
  replace s1 := kJ9.dp _ s1
  replace s2 := kJ9.dp _ s2
  replace s3i := kJ9.dp _ s3i
  replace s3 := kJ9.dp _ s3
  refine ⟨(by show 5 ≤ sizeLine; decide), fun lb n_lb => ?_⟩
  have kJ10 : Kx [] J9 (upd J9 lb (.lst [r0, .ref q1, .ref q2, .ref q3, .ref q4])) := .new n_lb
  have hlb : (upd J9 lb (.lst [r0, .ref q1, .ref q2, .ref q3, .ref q4])) lb = some (.lst [r0, .ref q1, .ref q2, .ref q3, .ref q4]) := upd_same
  generalize upd J9 lb (.lst [r0, .ref q1, .ref q2, .ref q3, .ref q4]) = J10 at kJ10 hlb ⊢
  replace kd := kd.trans (kJ10.sub (fun _ z => nomatch z))
  replace p2 := p2.keep kJ10
  replace di := kJ10.dp _ di
  replace s0 := kJ10.dp _ s0
  replace s1 := kJ10.dp _ s1
  replace s2 := kJ10.dp _ s2
  replace s3i := kJ10.dp _ s3i
  replace s3 := kJ10.dp _ s3
  replace s4 := kJ10.dp _ s4
  simp only [List.set]
  refine ⟨_, rfl, _, rfl, _, _, rfl, rfl, "i", 5, 5 + more, 1, rfl, fun J11 r5 kJ11 s5 => ?_⟩
  replace kd := kd.trans (kJ11.sub (fun _ z => nomatch z))
  replace p2 := p2.keep kJ11
  replace di := kJ11.dp _ di
  replace s0 := kJ11.dp _ s0
  replace s1 := kJ11.dp _ s1
  replace s2 := kJ11.dp _ s2
  replace s3i := kJ11.dp _ s3i
  replace s3 := kJ11.dp _ s3
  replace s4 := kJ11.dp _ s4
  replace hlb := kJ11.same _ _ hlb
  refine ⟨_, rfl, (by show 1 ≤ sizeLine; decide), fun q6i n_q6i => ?_⟩
  have kJ12 : Kx [] J11 (upd J11 q6i (.tup [.ref ti])) := .new n_q6i
  have s6i : Dp K (upd J11 q6i (.tup [.ref ti])) (.ref q6i) (.tuple ([bI] |>.map exD)) := tup_new n_q6i (.cons di (.nil))
  generalize upd J11 q6i (.tup [.ref ti]) = J12 at kJ12 s6i ⊢
  replace kd := kd.trans (kJ12.sub (fun _ z => nomatch z))
  replace p2 := p2.keep kJ12
  replace di := kJ12.dp _ di
  replace s0 := kJ12.dp _ s0
  replace s1 := kJ12.dp _ s1
  replace s2 := kJ12.dp _ s2
  replace s3i := kJ12.dp _ s3i
  replace s3 := kJ12.dp _ s3
  replace s4 := kJ12.dp _ s4
  replace hlb := kJ12.same _ _ hlb
  replace s5 := kJ12.dp _ s5
  refine ⟨(by show 2 ≤ sizeLine; decide), fun q6 n_q6 => ?_⟩
  have kJ13 : Kx [] J12 (upd J12 q6 (.tup [.str "say", .ref q6i])) := .new n_q6
  have s6 : Dp K (upd J12 q6 (.tup [.str "say", .ref q6i])) (.ref q6) (smD (.say [bI])) := tup_new n_q6 (.cons (.str _) (.cons s6i .nil))
  generalize upd J12 q6 (.tup [.str "say", .ref q6i]) = J13 at kJ13 s6 ⊢
  replace kd := kd.trans (kJ13.sub (fun _ z => nomatch z))
  replace p2 := p2.keep kJ13
  replace di := kJ13.dp _ di
  replace s0 := kJ13.dp _ s0
  replace s1 := kJ13.dp _ s1
  replace s2 := kJ13.dp _ s2
  replace s3i := kJ13.dp _ s3i
  replace s3 := kJ13.dp _ s3
  replace s4 := kJ13.dp _ s4
  replace hlb := kJ13.same _ _ hlb
  replace s5 := kJ13.dp _ s5
  replace s6i := kJ13.dp _ s6i
  refine ⟨(by show 2 ≤ sizeLine; decide), fun q7 n_q7 => ?_⟩
  have kJ14 : Kx [] J13 (upd J13 q7 (.tup [.str "again", .str "i"])) := .new n_q7
  have s7 : Dp K (upd J13 q7 (.tup [.str "again", .str "i"])) (.ref q7) (smD (.again "i")) := tup_new n_q7 (.cons (.str _) (.cons (.str _) .nil))
  generalize upd J13 q7 (.tup [.str "again", .str "i"]) = J14 at kJ14 s7 ⊢
  replace kd := kd.trans (kJ14.sub (fun _ z => nomatch z))
  replace p2 := p2.keep kJ14
  replace di := kJ14.dp _ di
  replace s0 := kJ14.dp _ s0
  replace s1 := kJ14.dp _ s1
  replace s2 := kJ14.dp _ s2
  replace s3i := kJ14.dp _ s3i
  replace s3 := kJ14.dp _ s3
  replace s4 := kJ14.dp _ s4
  replace hlb := kJ14.same _ _ hlb
  replace s5 := kJ14.dp _ s5
  replace s6i := kJ14.dp _ s6i
  replace s6 := kJ14.dp _ s6
  refine ⟨(by show 1 ≤ sizeLine; decide), fun q8 n_q8 => ?_⟩
  have kJ15 : Kx [] J14 (upd J14 q8 (.tup [.str "back"])) := .new n_q8
  have s8 : Dp K (upd J14 q8 (.tup [.str "back"])) (.ref q8) (smD .back) := tup_new n_q8 (.cons (.str _) .nil)
  generalize upd J14 q8 (.tup [.str "back"]) = J15 at kJ15 s8 ⊢
  replace kd := kd.trans (kJ15.sub (fun _ z => nomatch z))
  replace p2 := p2.keep kJ15
  replace di := kJ15.dp _ di
  replace s0 := kJ15.dp _ s0
  replace s1 := kJ15.dp _ s1
  replace s2 := kJ15.dp _ s2
  replace s3i := kJ15.dp _ s3i
  replace s3 := kJ15.dp _ s3
  replace s4 := kJ15.dp _ s4
  replace hlb := kJ15.same _ _ hlb
  replace s5 := kJ15.dp _ s5
  replace s6i := kJ15.dp _ s6i
  replace s6 := kJ15.dp _ s6
  replace s7 := kJ15.dp _ s7
  refine ⟨(by show 4 ≤ sizeLine; decide), fun l2 n_l2 => ?_⟩
  have kJ16 : Kx [] J15 (upd J15 l2 (.lst [r5, .ref q6, .ref q7, .ref q8])) := .new n_l2
  have hl2 : (upd J15 l2 (.lst [r5, .ref q6, .ref q7, .ref q8])) l2 = some (.lst [r5, .ref q6, .ref q7, .ref q8]) := upd_same
  generalize upd J15 l2 (.lst [r5, .ref q6, .ref q7, .ref q8]) = J16 at kJ16 hl2 ⊢
  replace kd := kd.trans (kJ16.sub (fun _ z => nomatch z))
  replace p2 := p2.keep kJ16
  replace di := kJ16.dp _ di
  replace s0 := kJ16.dp _ s0
  replace s1 := kJ16.dp _ s1
  replace s2 := kJ16.dp _ s2
  replace s3i := kJ16.dp _ s3i
  replace s3 := kJ16.dp _ s3
  replace s4 := kJ16.dp _ s4
  replace hlb := kJ16.same _ _ hlb
  replace s5 := kJ16.dp _ s5
  replace s6i := kJ16.dp _ s6i
  replace s6 := kJ16.dp _ s6
  replace s7 := kJ16.dp _ s7
  replace s8 := kJ16.dp _ s8
  refine ⟨lb, l2, _, _, rfl, rfl, hlb, hl2, (by show 5 + 4 ≤ sizeLine; decide), fun body n_body => ?_⟩
  have kJ17 : Kx [] J16 (upd J16 body (.lst ([r0, .ref q1, .ref q2, .ref q3, .ref q4] ++ [r5, .ref q6, .ref q7, .ref q8]))) := .new n_body
  have hbody : SqL K (upd J16 body (.lst ([r0, .ref q1, .ref q2, .ref q3, .ref q4] ++ [r5, .ref q6, .ref q7, .ref q8]))) body [r0, .ref q1, .ref q2, .ref q3, .ref q4, r5, .ref q6, .ref q7, .ref q8] := .inl (.inl upd_same)
  generalize upd J16 body (.lst ([r0, .ref q1, .ref q2, .ref q3, .ref q4] ++ [r5, .ref q6, .ref q7, .ref q8])) = J17 at kJ17 hbody ⊢
  replace kd := kd.trans (kJ17.sub (fun _ z => nomatch z))
  replace p2 := p2.keep kJ17
  replace di := kJ17.dp _ di
  replace s0 := kJ17.dp _ s0
  replace s1 := kJ17.dp _ s1
  replace s2 := kJ17.dp _ s2
  replace s3i := kJ17.dp _ s3i
  replace s3 := kJ17.dp _ s3
  replace s4 := kJ17.dp _ s4
  replace hlb := kJ17.same _ _ hlb
  replace s5 := kJ17.dp _ s5
  replace s6i := kJ17.dp _ s6i
  replace s6 := kJ17.dp _ s6
  replace s7 := kJ17.dp _ s7
  replace s8 := kJ17.dp _ s8
  replace hl2 := kJ17.same _ _ hl2
  simp only [List.set]
  have hsts : DpAll K J17 [r0, .ref q1, .ref q2, .ref q3, .ref q4, r5, .ref q6, .ref q7, .ref q8] ((sameS many more).map smD) := .cons s0 (.cons s1 (.cons s2 (.cons s3 (.cons s4 (.cons s5 (.cons s6 (.cons s7 (.cons s8 .nil))))))))
  have hmi : (more + 1).toNat = more.toNat + 1 := by omega
  refine ⟨_, rfl, _, _, rfl, rfl, more + 1, rfl, by omega, by omega, fun D hD => lc_range (lo := 0) (n := (more + 1).toNat) (fun j H'' => Kx [] J17 H'' ∧ ∃ zs, H'' D = some (.lst zs) ∧ DpAll K H'' zs (((List.range j).map fun (k : Nat) => [5 + (k : Int)]).map rowD)) ⟨.new hD, [], upd_same, .nil⟩ ?_ ?_⟩
  · rintro j H'' hj ⟨k2, zs, hz, hzd⟩
    have hzl : zs.length ≤ 8 := by
      rw [dpa_len hzd, List.length_map, List.length_map, List.length_range]
      omega
    refine ⟨rfl, _, rfl, _, _, rfl, rfl, (by show 1 ≤ sizeLine; decide), fun t nt => ?_⟩
    have k3 : Kx [] H'' (upd H'' t (.tup [.int (5 + (0 + (j : Int)))])) := .new nt
    have D3 : Dp K (upd H'' t (.tup [.int (5 + (0 + (j : Int)))])) (.ref t) (rowD [5 + (j : Int)]) := by
      have e : (5 + (0 + (j : Int))) = 5 + (j : Int) := by omega
      rw [e]
      exact tup_new nt (.cons (.int _) .nil)
    have hz3 := k3.same _ _ hz
    refine ⟨_, hz3, small1000 (by omega), (k2.trans k3).grow hD, zs ++ [.ref t], upd_same, ?_⟩
    rw [List.range_succ, List.map_append, List.map_append]
    exact dpa_up hz3 _ (fun dd hd => by
      rcases List.mem_append.mp hd with hd | hd
      · exact nol_rows _ dd hd
      · exact nol_rows [_] dd hd) (dpa_app (k3.dpAll _ hzd) (.cons D3 .nil))
  · rintro H9 ⟨kH9, zs, hz, hzd⟩
    rw [hmi] at hzd
    have hzl : zs.length ≤ 8 := by
      rw [dpa_len hzd, List.length_map, List.length_map, List.length_range]
      omega
    replace kd := kd.trans (kH9.sub (fun _ z => nomatch z))
    replace p2 := p2.keep kH9
    replace di := kH9.dp _ di
    replace s0 := kH9.dp _ s0
    replace s1 := kH9.dp _ s1
    replace s2 := kH9.dp _ s2
    replace s3i := kH9.dp _ s3i
    replace s3 := kH9.dp _ s3
    replace s4 := kH9.dp _ s4
    replace hlb := kH9.same _ _ hlb
    replace s5 := kH9.dp _ s5
    replace s6i := kH9.dp _ s6i
    replace s6 := kH9.dp _ s6
    replace s7 := kH9.dp _ s7
    replace s8 := kH9.dp _ s8
    replace hl2 := kH9.same _ _ hl2
    replace hbody := kH9.sqL hbody
    replace hsts := kH9.dpAll _ hsts
    refine ⟨_, rfl, _, _, rfl, rfl, (by show 1 ≤ sizeLine; decide), fun tz n_tz => ?_⟩
    have kJ18 : Kx [] H9 (upd H9 tz (.tup [.int (7 + more)])) := .new n_tz
    have dtz : Dp K (upd H9 tz (.tup [.int (7 + more)])) (.ref tz) (rowD [7 + more]) := tup_new n_tz (.cons (.int _) .nil)
    generalize upd H9 tz (.tup [.int (7 + more)]) = J18 at kJ18 dtz ⊢
    replace kd := kd.trans (kJ18.sub (fun _ z => nomatch z))
    replace p2 := p2.keep kJ18
    replace di := kJ18.dp _ di
    replace s0 := kJ18.dp _ s0
    replace s1 := kJ18.dp _ s1
    replace s2 := kJ18.dp _ s2
    replace s3i := kJ18.dp _ s3i
    replace s3 := kJ18.dp _ s3
    replace s4 := kJ18.dp _ s4
    replace hlb := kJ18.same _ _ hlb
    replace s5 := kJ18.dp _ s5
    replace s6i := kJ18.dp _ s6i
    replace s6 := kJ18.dp _ s6
    replace s7 := kJ18.dp _ s7
    replace s8 := kJ18.dp _ s8
    replace hl2 := kJ18.same _ _ hl2
    replace hbody := kJ18.sqL hbody
    replace hsts := kJ18.dpAll _ hsts
    replace hz := kJ18.same _ _ hz
    replace hzd := kJ18.dpAll _ hzd
    refine ⟨(by show 1 ≤ sizeLine; decide), fun lz n_lz => ?_⟩
    have kJ19 : Kx [] J18 (upd J18 lz (.lst [.ref tz])) := .new n_lz
    have hlz : (upd J18 lz (.lst [.ref tz])) lz = some (.lst [.ref tz]) := upd_same
    generalize upd J18 lz (.lst [.ref tz]) = J19 at kJ19 hlz ⊢
    replace kd := kd.trans (kJ19.sub (fun _ z => nomatch z))
    replace p2 := p2.keep kJ19
    replace di := kJ19.dp _ di
    replace s0 := kJ19.dp _ s0
    replace s1 := kJ19.dp _ s1
    replace s2 := kJ19.dp _ s2
    replace s3i := kJ19.dp _ s3i
    replace s3 := kJ19.dp _ s3
    replace s4 := kJ19.dp _ s4
    replace hlb := kJ19.same _ _ hlb
    replace s5 := kJ19.dp _ s5
    replace s6i := kJ19.dp _ s6i
    replace s6 := kJ19.dp _ s6
    replace s7 := kJ19.dp _ s7
    replace s8 := kJ19.dp _ s8
    replace hl2 := kJ19.same _ _ hl2
    replace hbody := kJ19.sqL hbody
    replace hsts := kJ19.dpAll _ hsts
    replace hz := kJ19.same _ _ hz
    replace hzd := kJ19.dpAll _ hzd
    replace dtz := kJ19.dp _ dtz
    refine ⟨D, lz, _, _, rfl, rfl, hz, hlz, (by show _ + 1 ≤ sizeLine; rw [sizeLine_eq]; omega), fun sd n_sd => ?_⟩
    have kJ20 : Kx [] J19 (upd J19 sd (.lst (zs ++ [.ref tz]))) := .new n_sd
    have hsd : (upd J19 sd (.lst (zs ++ [.ref tz]))) sd = some (.lst (zs ++ [.ref tz])) := upd_same
    generalize upd J19 sd (.lst (zs ++ [.ref tz])) = J20 at kJ20 hsd ⊢
    replace kd := kd.trans (kJ20.sub (fun _ z => nomatch z))
    replace p2 := p2.keep kJ20
    replace di := kJ20.dp _ di
    replace s0 := kJ20.dp _ s0
    replace s1 := kJ20.dp _ s1
    replace s2 := kJ20.dp _ s2
    replace s3i := kJ20.dp _ s3i
    replace s3 := kJ20.dp _ s3
    replace s4 := kJ20.dp _ s4
    replace hlb := kJ20.same _ _ hlb
    replace s5 := kJ20.dp _ s5
    replace s6i := kJ20.dp _ s6i
    replace s6 := kJ20.dp _ s6
    replace s7 := kJ20.dp _ s7
    replace s8 := kJ20.dp _ s8
    replace hl2 := kJ20.same _ _ hl2
    replace hbody := kJ20.sqL hbody
    replace hsts := kJ20.dpAll _ hsts
    replace hz := kJ20.same _ _ hz
    replace hzd := kJ20.dpAll _ hzd
    replace dtz := kJ20.dp _ dtz
    replace hlz := kJ20.same _ _ hlz
    simp only [List.set]
    refine ⟨_, rfl, _, rfl, body, _, sameS many more, by_, _, rfl, hbody, hsts, same_ok _ _, hb.1, hb.2, same_law hL1 hL2 hm0 hM2 hby, fun G0 ft fb vp vf fl ys kG ht hfb hvp hvf hfl hys hnd => ?_⟩
    replace kd := kd.trans (kG.sub (fun _ z => nomatch z))
    replace p2 := p2.keep kG
    replace di := kG.dp _ di
    replace s0 := kG.dp _ s0
    replace s1 := kG.dp _ s1
    replace s2 := kG.dp _ s2
    replace s3i := kG.dp _ s3i
    replace s3 := kG.dp _ s3
    replace s4 := kG.dp _ s4
    replace hlb := kG.same _ _ hlb
    replace s5 := kG.dp _ s5
    replace s6i := kG.dp _ s6i
    replace s6 := kG.dp _ s6
    replace s7 := kG.dp _ s7
    replace s8 := kG.dp _ s8
    replace hl2 := kG.same _ _ hl2
    replace hbody := kG.sqL hbody
    replace hsts := kG.dpAll _ hsts
    replace hz := kG.same _ _ hz
    replace hzd := kG.dpAll _ hzd
    replace dtz := kG.dp _ dtz
    replace hlz := kG.same _ _ hlz
    replace hsd := kG.same _ _ hsd
    intro bx n_bx
    refine ⟨_, rfl, _, _, rfl, rfl, upd_same, [(Sum.inr "i", .int (7 + more))], rfl, (by show 1 ≤ 15; decide), ?_⟩
    rw [show mergeK [] [((Sum.inr "i" : Key), V.int (7 + more))] = bxs [("i", 7 + more)] by kernel_rfl]
    have kJ21 : Kx [] G0 (upd (upd G0 bx (.dK [])) bx (.dK (bxs [("i", 7 + more)]))) := (Kx.new (ks := []) n_bx).grow n_bx
    have hbx : (upd (upd G0 bx (.dK [])) bx (.dK (bxs [("i", 7 + more)]))) bx = some (.dK (bxs [("i", 7 + more)])) := upd_same
    generalize upd (upd G0 bx (.dK [])) bx (.dK (bxs [("i", 7 + more)])) = J21 at kJ21 hbx ⊢
    replace kd := kd.trans (kJ21.sub (fun _ z => nomatch z))
    replace p2 := p2.keep kJ21
    replace di := kJ21.dp _ di
    replace s0 := kJ21.dp _ s0
    replace s1 := kJ21.dp _ s1
    replace s2 := kJ21.dp _ s2
    replace s3i := kJ21.dp _ s3i
    replace s3 := kJ21.dp _ s3
    replace s4 := kJ21.dp _ s4
    replace hlb := kJ21.same _ _ hlb
    replace s5 := kJ21.dp _ s5
    replace s6i := kJ21.dp _ s6i
    replace s6 := kJ21.dp _ s6
    replace s7 := kJ21.dp _ s7
    replace s8 := kJ21.dp _ s8
    replace hl2 := kJ21.same _ _ hl2
    replace hbody := kJ21.sqL hbody
    replace hsts := kJ21.dpAll _ hsts
    replace hz := kJ21.same _ _ hz
    replace hzd := kJ21.dpAll _ hzd
    replace dtz := kJ21.dp _ dtz
    replace hlz := kJ21.same _ _ hlz
    replace hsd := kJ21.same _ _ hsd
    replace ht := kJ21.sqT ht
    replace hfb := kJ21.same _ _ hfb
    replace hvp := kJ21.dp _ hvp
    replace hvf := kJ21.dp _ hvf
    replace hfl := kJ21.same _ _ hfl
    replace hys := kJ21.dpAll _ hys
    refine ⟨(by show 0 ≤ sizeLine; decide), fun e0 n_e0 => ?_⟩
    have kJ22 : Kx [] J21 (upd J21 e0 (.tup [])) := .new n_e0
    have de0 : Dp K (upd J21 e0 (.tup [])) (.ref e0) (pileD []) := tup_new n_e0 .nil
    generalize upd J21 e0 (.tup []) = J22 at kJ22 de0 ⊢
    replace kd := kd.trans (kJ22.sub (fun _ z => nomatch z))
    replace p2 := p2.keep kJ22
    replace di := kJ22.dp _ di
    replace s0 := kJ22.dp _ s0
    replace s1 := kJ22.dp _ s1
    replace s2 := kJ22.dp _ s2
    replace s3i := kJ22.dp _ s3i
    replace s3 := kJ22.dp _ s3
    replace s4 := kJ22.dp _ s4
    replace hlb := kJ22.same _ _ hlb
    replace s5 := kJ22.dp _ s5
    replace s6i := kJ22.dp _ s6i
    replace s6 := kJ22.dp _ s6
    replace s7 := kJ22.dp _ s7
    replace s8 := kJ22.dp _ s8
    replace hl2 := kJ22.same _ _ hl2
    replace hbody := kJ22.sqL hbody
    replace hsts := kJ22.dpAll _ hsts
    replace hz := kJ22.same _ _ hz
    replace hzd := kJ22.dpAll _ hzd
    replace dtz := kJ22.dp _ dtz
    replace hlz := kJ22.same _ _ hlz
    replace hsd := kJ22.same _ _ hsd
    replace ht := kJ22.sqT ht
    replace hfb := kJ22.same _ _ hfb
    replace hvp := kJ22.dp _ hvp
    replace hvf := kJ22.dp _ hvf
    replace hfl := kJ22.same _ _ hfl
    replace hys := kJ22.dpAll _ hys
    replace hbx := kJ22.same _ _ hbx
    refine ⟨_, rfl, (by show 6 ≤ sizeLine; decide), fun tt n_tt => ?_⟩
    have kJ23 : Kx [] J22 (upd J22 tt (.tup [.str "ended", .int 0, .ref bx, .ref e0, .non, .ref sd])) := .new n_tt
    have htt : SqT K (upd J22 tt (.tup [.str "ended", .int 0, .ref bx, .ref e0, .non, .ref sd])) tt [.str "ended", .int 0, .ref bx, .ref e0, .non, .ref sd] := .inl (.inl upd_same)
    generalize upd J22 tt (.tup [.str "ended", .int 0, .ref bx, .ref e0, .non, .ref sd]) = J23 at kJ23 htt ⊢
    replace kd := kd.trans (kJ23.sub (fun _ z => nomatch z))
    replace p2 := p2.keep kJ23
    replace di := kJ23.dp _ di
    replace s0 := kJ23.dp _ s0
    replace s1 := kJ23.dp _ s1
    replace s2 := kJ23.dp _ s2
    replace s3i := kJ23.dp _ s3i
    replace s3 := kJ23.dp _ s3
    replace s4 := kJ23.dp _ s4
    replace hlb := kJ23.same _ _ hlb
    replace s5 := kJ23.dp _ s5
    replace s6i := kJ23.dp _ s6i
    replace s6 := kJ23.dp _ s6
    replace s7 := kJ23.dp _ s7
    replace s8 := kJ23.dp _ s8
    replace hl2 := kJ23.same _ _ hl2
    replace hbody := kJ23.sqL hbody
    replace hsts := kJ23.dpAll _ hsts
    replace hz := kJ23.same _ _ hz
    replace hzd := kJ23.dpAll _ hzd
    replace dtz := kJ23.dp _ dtz
    replace hlz := kJ23.same _ _ hlz
    replace hsd := kJ23.same _ _ hsd
    replace ht := kJ23.sqT ht
    replace hfb := kJ23.same _ _ hfb
    replace hvp := kJ23.dp _ hvp
    replace hvf := kJ23.dp _ hvf
    replace hfl := kJ23.same _ _ hfl
    replace hys := kJ23.dpAll _ hys
    replace hbx := kJ23.same _ _ hbx
    replace de0 := kJ23.dp _ de0
    refine ⟨10, by decide, eq_six (said := ((List.range (more.toNat + 1)).map fun (k : Nat) => [5 + (k : Int)]) ++ [[7 + more]]) (pile := []) (fault := none) hnd ht htt hfb hbx hvp de0 hvf .non (.inl (.inl hfl)) (.inl (.inl hsd)) hys ?_, ?_⟩
    · rw [List.map_append]
      exact dpa_app hzd (.cons dtz .nil)
    · exact q _ kd (p2.mono (by omega))
end
end K31
/-! the law's rights: a called part's loops -/
namespace K31
open PySem PySem.Spec PyProof.Rows L2
section
variable {P : Program} {w : World} {K : PySem.W.Frag} {mg : Str → Option Value} {base : Heap}
theorem call_ok (many a b c : Int) {x : Str} (hx : PyData.strOk x = true) : StsOk (callS many a b c x) := by
  refine ⟨by show 8 ≤ 20; decide, fun st hst => ?_, fun st hst => ?_⟩
  · simp only [callS, List.mem_cons, List.not_mem_nil, or_false] at hst
    rcases hst with rfl | rfl | rfl | rfl | rfl | rfl | rfl | rfl
    · exact ⟨by show 3 ≤ 100; decide, nm_loop nm_j _ _ _⟩
    · exact ⟨by show 0 ≤ 100; decide, rfl⟩
    · exact ⟨by show 1 ≤ 100; decide, by simp [nmS, nm_bI]⟩
    · exact ⟨by show 0 ≤ 100; decide, nm_j⟩
    · exact ⟨by show 0 ≤ 100; decide, rfl⟩
    · exact ⟨by show 3 ≤ 100; decide, nm_loop nm_i _ _ _⟩
    · exact ⟨by show 0 ≤ 100; decide, hx⟩
    · exact ⟨by show 0 ≤ 100; decide, rfl⟩
  · simp only [callS, List.mem_cons, List.not_mem_nil, or_false] at hst
    rcases hst with rfl | rfl | rfl | rfl | rfl | rfl | rfl | rfl <;> first | exact trivial | exact ⟨by decide, by decide⟩
theorem early_ok (many a b c : Int) : StsOk (earlyS many a b c) := by
  refine ⟨by show 9 ≤ 20; decide, fun st hst => ?_, fun st hst => ?_⟩
  · simp only [earlyS, List.mem_cons, List.not_mem_nil, or_false] at hst
    rcases hst with rfl | rfl | rfl | rfl | rfl | rfl | rfl | rfl | rfl
    · exact ⟨by show 3 ≤ 100; decide, nm_loop nm_j _ _ _⟩
    · exact ⟨by show 0 ≤ 100; decide, rfl⟩
    · exact ⟨by show 1 ≤ 100; decide, by simp [nmS, nm_bI]⟩
    · exact ⟨by show 0 ≤ 100; decide, nm_j⟩
    · exact ⟨by show 0 ≤ 100; decide, rfl⟩
    · exact ⟨by show 3 ≤ 100; decide, nm_loop nm_i _ _ _⟩
    · exact ⟨by show 0 ≤ 100; decide, rfl⟩
    · exact ⟨by show 0 ≤ 100; decide, nm_i⟩
    · exact ⟨by show 0 ≤ 100; decide, rfl⟩
  · simp only [earlyS, List.mem_cons, List.not_mem_nil, or_false] at hst
    rcases hst with rfl | rfl | rfl | rfl | rfl | rfl | rfl | rfl | rfl <;> first | exact trivial | exact ⟨by decide, by decide⟩
theorem rep_dp {H : Hp} {t : Addr} {n : Int} (h : Dp K H (.ref t) (rowD [n])) : ∀ k : Nat, DpAll K H (List.replicate k [V.ref t]).flatten ((List.replicate k [n]).map rowD)
  | 0 => .nil
  | k + 1 => by
    rw [List.replicate_succ, List.replicate_succ, List.flatten_cons, List.map_cons]
    exact .cons h (rep_dp h k)
theorem sc_law_called_right : FnScope ["_law_pen_here", "_law_by", "_law_many", "_law_three_here", "_law_body", "_law_part", "_law_found", "_law_frames", "_law_early", "_law_due", "_law_rounds_here", "_law_behind_i"] ["_law_pen_here", "_law_by"] (defScope s_law_called_right) :=
  ⟨rfl, rfl, rfl, by decide +kernel, rfl, by decide +kernel, by decide +kernel⟩
theorem gf_law_called_right (T : Txt w K mg) : Gf P w K mg base 10 "_law_called_right" (spRight K 5) := by
  have nd := sc_law_called_right.nd
  refine gf_mk T.law_called_right sc_law_called_right (fun vs H Q E h => ?_) (fun _ _ _ _ _ _ us hl => match us, hl with | [_, _], _ => rfl) (fun f cdv A outer s H vs Q E hr h => ?_)
  · obtain ⟨d, by_, N, rfl, hby, hN, hp, q⟩ := h
    rfl
  obtain ⟨d, by_, N, rfl, hby, hN, hp, q⟩ := h
  have hu := hu_of hr
  have G_three := (gf_law_three (P := P) (base := base) T)
  have G_loop := (gf_law_loop_line (P := P) (base := base) T)
  have G_rounds := (gf_law_rounds (P := P) (base := base) T)
  have G_comes := (gf_law_comes_to (P := P) (base := base) T)
  have G_draw := (gf_law_draw (P := P) (base := base) T)
  refine ⟨_, (pss_cons (sT 2 nd (pe_op op_add pe_int (pe_callG G_draw (hr.mono (by decide)) (pa_cons (pv 0) (pa_cons pe_int pa_nil)))))
    (pss_cons (sT 3 nd (pe_callG G_three (hr.mono (by decide)) (pa_cons (pv 0) pa_nil)))
    (pss_cons (sT 4 nd (pe_lst (pa_cons (pe_callG G_loop (hr.mono (by decide)) (pa_cons pe_str (pa_cons pe_int (pa_cons (pv 2) (pa_cons pe_int pa_nil))))) (pa_cons (pe_tup (pa_cons pe_str (pa_cons pe_int pa_nil))) (pa_cons (pe_tup (pa_cons pe_str (pa_cons (pe_tup (pa_cons (pe_tup (pa_cons pe_str (pa_cons pe_str pa_nil))) pa_nil)) pa_nil))) (pa_cons (pe_tup (pa_cons pe_str (pa_cons pe_str pa_nil))) (pa_cons (pe_tup (pa_cons pe_str pa_nil)) pa_nil)))))))
    (pss_cons (sT 5 nd (pe_lst (pa_cons (pe_callG G_loop (hr.mono (by decide)) (pa_cons pe_str (pa_cons (pe_ix (r := rIxT K) ix_tup (pv 3) pe_int (fun _ _ => rfl)) (pa_cons (pe_ix (r := rIxT K) ix_tup (pv 3) pe_int (fun _ _ => rfl)) (pa_cons (pe_ix (r := rIxT K) ix_tup (pv 3) pe_int (fun _ _ => rfl)) pa_nil))))) (pa_cons (pe_tup (pa_cons pe_str (pa_cons (pe_ix (r := rIxL K) ix_list (pe_lst (pa_cons pe_str (pa_cons pe_str pa_nil))) (pe_callG G_draw (hr.mono (by decide)) (pa_cons (pv 0) (pa_cons pe_int pa_nil))) (fun _ _ => rfl)) pa_nil))) (pa_cons (pe_tup (pa_cons pe_str pa_nil)) pa_nil)))))
    (pss_cons (sT 6 nd (pe_callG G_comes (hr.mono (by decide)) (pa_cons (pe_op op_cat (pv 4) (pv 5)) (pa_cons (pv 1) pa_nil))))
    (pss_cons (ps_asg (pe_callG G_rounds (hr.mono (by decide)) (pa_cons (pe_ix (r := rIxT K) ix_tup (pv 3) pe_int (fun _ _ => rfl)) (pa_cons (pe_ix (r := rIxT K) ix_tup (pv 3) pe_int (fun _ _ => rfl)) (pa_cons (pe_ix (r := rIxT K) ix_tup (pv 3) pe_int (fun _ _ => rfl)) pa_nil)))) (pg_tup (n := 2) (by rfl) (pgs_cons (gN 10 nd) (pgs_cons (gN 11 nd) pgs_nil))))
    (pss_cons (sT 7 nd (pe_tup (pa_cons (pe_tup (pa_cons pe_str (pa_cons pe_str (pa_cons (pv 1) (pa_cons (pv 2) (pa_cons pe_int pa_nil)))))) (pa_cons (pe_tup (pa_cons pe_str (pa_cons (pe_op op_mul pe_int (pv 1)) pa_nil))) pa_nil))))
    (pss_cons (ps_if (pt_cmpR (op_eqD hr.units) (pe_ix (r := rIxL K) ix_list (pv 5) pe_int (fun _ _ => rfl)) (pe_tup (pa_cons pe_str (pa_cons pe_str pa_nil))) (nomark _))
      (pss_cons (ps_if (pt_cmpR (op_eqD hr.units) (pv 10) (pe_lst pa_nil) (nomark _))
        (pss_one (ps_ret (pe_cmpR (op_eqW hr.units) (pv 6) (pe_tup (pa_cons pe_str (pa_cons (pe_op op_mul pe_int (pv 1)) (pa_cons (pe_disp (pps_cons pe_str pe_int pps_nil) (by rfl) (by rfl) (fun z => by cases z) (by decide)) (pa_cons (pv 7) (pa_cons (pe_tup (pa_cons pe_str (pa_cons (pe_op op_mul pe_int (pv 1)) pa_nil))) (pa_cons (pe_lst pa_nil) pa_nil))))))) (nomark _))))
        pss_nil)
      (pss_cons (sT 7 nd (pe_op op_catA (pv 7) (pe_tup (pa_cons (pe_tup (pa_cons pe_str (pa_cons pe_str (pa_cons (pe_op op_mul pe_int (pv 1)) (pa_cons (pe_ix (r := rIxT K) ix_tup (pv 3) pe_int (fun _ _ => rfl)) (pa_cons (pe_ix (r := rIxT K) ix_tup (pv 3) pe_int (fun _ _ => rfl)) pa_nil)))))) pa_nil))))
      (pss_one (ps_ret (pe_cmpR (op_eqW hr.units) (pv 6) (pe_tup (pa_cons pe_str (pa_cons (pe_op op_mul pe_int (pv 1)) (pa_cons (pe_disp (pps_cons pe_str (pe_ix (r := rIxT K) ix_tup (pv 3) pe_int (fun _ _ => rfl)) (pps_cons pe_str pe_int pps_nil)) (by rfl) (by rfl) (fun z => by cases z) (by decide)) (pa_cons (pv 7) (pa_cons (pe_tup (pa_cons pe_str (pa_cons (pe_op op_mul pe_int (pv 1)) pa_nil))) (pa_cons (pe_lst pa_nil) pa_nil))))))) (nomark _))))))
      pss_nil)
    (pss_cons (sT 8 nd (pe_op op_cat (pv 4) (pe_lst (pa_cons (pe_ix (r := rIxL K) ix_list (pv 5) pe_int (fun _ _ => rfl)) (pa_cons (pe_tup (pa_cons pe_str pa_nil)) (pa_cons (pe_tup (pa_cons pe_str (pa_cons pe_str pa_nil))) (pa_cons (pe_tup (pa_cons pe_str pa_nil)) pa_nil)))))))
    (pss_cons (ps_if (pt_cmpR (op_neW hr.units) (pv 6) (pe_tup (pa_cons pe_str (pa_cons pe_int (pa_cons (pe_disp (pps_cons pe_str (pv 11) (pps_cons pe_str (pe_op op_add (pv 2) pe_int) pps_nil)) (by rfl) (by rfl) (fun z => by cases z) (by decide)) (pa_cons (pe_tup pa_nil) (pa_cons pe_non (pa_cons (pe_op op_rep (pe_lst (pa_cons (pe_tup (pa_cons (pv 11) pa_nil)) pa_nil)) (pv 2)) pa_nil))))))) (nomark _))
      (pss_one (ps_ret pe_bl))
      pss_nil)
    (pss_cons (sT 9 nd (pe_tup (pa_cons pe_str (pa_cons pe_int (pa_cons (pe_disp (pps_cons pe_str (pe_ix (r := rIxT K) ix_tup (pv 3) pe_int (fun _ _ => rfl)) (pps_cons pe_str (pe_op op_add (pv 2) pe_int) pps_nil)) (by rfl) (by rfl) (fun z => by cases z) (by decide)) (pa_cons (pe_tup pa_nil) (pa_cons pe_non (pa_cons (pe_op op_rep (pe_lst (pa_cons (pe_tup (pa_cons (pe_ix (r := rIxT K) ix_tup (pv 3) pe_int (fun _ _ => rfl)) pa_nil)) pa_nil)) (pv 2)) pa_nil))))))))
    (pss_one (ps_ret (pe_cmpR (op_eqW hr.units) (pe_callG G_comes (hr.mono (by decide)) (pa_cons (pv 8) (pa_cons (pv 1) pa_nil))) (pv 9) (nomark _))))))))))))))), ?_⟩
  simp only [cxK, cxK2, L2.start, List.map, List.length, List.replicate, List.append, HAppend.hAppend, Append.append]
  refine ⟨_, rfl, d, 4, N, rfl, by decide, by decide, by omega, hp, fun J1 d1 kJ1 p1 hd10 hd11 => ⟨_, _, rfl, rfl, ?_⟩⟩
  simp only [List.set]
  refine ⟨_, rfl, d, N + 1, rfl, by omega, p1, fun J2 t1 a b c kJ2 p2 ht1 a0 a1 b0 b1 cm => ?_⟩
  simp only [List.set]
  have kd := kJ1.trans kJ2
  clear kJ1 kJ2 p1
  obtain ⟨many, hmany⟩ : ∃ many : Int, many = 1 + d1 := ⟨_, rfl⟩
  rw [← hmany]
  have hL1 : 1 ≤ many := by omega
  have hL2 : many ≤ 4 := by omega
  have hb := by_rng hby
  have hD : Drn a b c := ⟨a0, a1, b0, b1, cm⟩
  obtain ⟨l, z, hr1, hl8, hlx, hzx⟩ := num_ok hD
  refine ⟨_, rfl, "j", 1, many, 1, rfl, fun J3 r0 kJ3 s0 => ?_⟩
  replace kd := kd.trans (kJ3.sub (fun _ z => nomatch z))
  replace p2 := p2.keep kJ3
  replace ht1 := kJ3.sqT ht1
  refine ⟨(by show 2 ≤ sizeLine; decide), fun q1 n_q1 => ?_⟩
  have kJ4 : Kx [] J3 (upd J3 q1 (.tup [.str "call", .int 5])) := .new n_q1
  have s1 : Dp K (upd J3 q1 (.tup [.str "call", .int 5])) (.ref q1) (smD (.call 5)) := tup_new n_q1 (.cons (.str _) (.cons (.int _) .nil))
  generalize upd J3 q1 (.tup [.str "call", .int 5]) = J4 at kJ4 s1 ⊢
  replace kd := kd.trans (kJ4.sub (fun _ z => nomatch z))
  replace p2 := p2.keep kJ4
  replace ht1 := kJ4.sqT ht1
  replace s0 := kJ4.dp _ s0
  refine ⟨(by show 2 ≤ sizeLine; decide), fun ti n_ti => ?_⟩
  have kJ5 : Kx [] J4 (upd J4 ti (.tup [.str "box", .str "i"])) := .new n_ti
  have di : Dp K (upd J4 ti (.tup [.str "box", .str "i"])) (.ref ti) (lfD (.box "i")) := tup_new n_ti (.cons (.str _) (.cons (.str _) .nil))
  generalize upd J4 ti (.tup [.str "box", .str "i"]) = J5 at kJ5 di ⊢
  replace kd := kd.trans (kJ5.sub (fun _ z => nomatch z))
  replace p2 := p2.keep kJ5
  replace ht1 := kJ5.sqT ht1
  replace s0 := kJ5.dp _ s0
  replace s1 := kJ5.dp _ s1
  refine ⟨(by show 1 ≤ sizeLine; decide), fun q2i n_q2i => ?_⟩
  have kJ6 : Kx [] J5 (upd J5 q2i (.tup [.ref ti])) := .new n_q2i
  have s2i : Dp K (upd J5 q2i (.tup [.ref ti])) (.ref q2i) (.tuple ([bI].map exD)) := tup_new n_q2i (.cons di .nil)
  generalize upd J5 q2i (.tup [.ref ti]) = J6 at kJ6 s2i ⊢
  replace kd := kd.trans (kJ6.sub (fun _ z => nomatch z))
  replace p2 := p2.keep kJ6
  replace ht1 := kJ6.sqT ht1
  replace s0 := kJ6.dp _ s0
  replace s1 := kJ6.dp _ s1
  replace di := kJ6.dp _ di
  refine ⟨(by show 2 ≤ sizeLine; decide), fun q2 n_q2 => ?_⟩
  have kJ7 : Kx [] J6 (upd J6 q2 (.tup [.str "say", .ref q2i])) := .new n_q2
  have s2 : Dp K (upd J6 q2 (.tup [.str "say", .ref q2i])) (.ref q2) (smD (.say [bI])) := tup_new n_q2 (.cons (.str _) (.cons s2i .nil))
  generalize upd J6 q2 (.tup [.str "say", .ref q2i]) = J7 at kJ7 s2 ⊢
  replace kd := kd.trans (kJ7.sub (fun _ z => nomatch z))
  replace p2 := p2.keep kJ7
  replace ht1 := kJ7.sqT ht1
  replace s0 := kJ7.dp _ s0
  replace s1 := kJ7.dp _ s1
  replace di := kJ7.dp _ di
  replace s2i := kJ7.dp _ s2i
  refine ⟨(by show 2 ≤ sizeLine; decide), fun q3 n_q3 => ?_⟩
  have kJ8 : Kx [] J7 (upd J7 q3 (.tup [.str "again", .str "j"])) := .new n_q3
  have s3 : Dp K (upd J7 q3 (.tup [.str "again", .str "j"])) (.ref q3) (smD (.again "j")) := tup_new n_q3 (.cons (.str _) (.cons (.str _) .nil))
  generalize upd J7 q3 (.tup [.str "again", .str "j"]) = J8 at kJ8 s3 ⊢
  replace kd := kd.trans (kJ8.sub (fun _ z => nomatch z))
  replace p2 := p2.keep kJ8
  replace ht1 := kJ8.sqT ht1
  replace s0 := kJ8.dp _ s0
  replace s1 := kJ8.dp _ s1
  replace di := kJ8.dp _ di
  replace s2i := kJ8.dp _ s2i
  replace s2 := kJ8.dp _ s2
  refine ⟨(by show 1 ≤ sizeLine; decide), fun q4 n_q4 => ?_⟩
  have kJ9 : Kx [] J8 (upd J8 q4 (.tup [.str "end"])) := .new n_q4
  have s4 : Dp K (upd J8 q4 (.tup [.str "end"])) (.ref q4) (smD .fin) := tup_new n_q4 (.cons (.str _) .nil)
  generalize upd J8 q4 (.tup [.str "end"]) = J9 at kJ9 s4 ⊢
  replace kd := kd.trans (kJ9.sub (fun _ z => nomatch z))
  replace p2 := p2.keep kJ9
  replace ht1 := kJ9.sqT ht1
  replace s0 := kJ9.dp _ s0
  replace s1 := kJ9.dp _ s1
  replace di := kJ9.dp _ di
  replace s2i := kJ9.dp _ s2i
  replace s2 := kJ9.dp _ s2
  replace s3 := kJ9.dp _ s3
  refine ⟨(by show 5 ≤ sizeLine; decide), fun lb n_lb => ?_⟩
  have kJ10 : Kx [] J9 (upd J9 lb (.lst [r0, .ref q1, .ref q2, .ref q3, .ref q4])) := .new n_lb
  have hlb : (upd J9 lb (.lst [r0, .ref q1, .ref q2, .ref q3, .ref q4])) lb = some (.lst [r0, .ref q1, .ref q2, .ref q3, .ref q4]) := upd_same
  generalize upd J9 lb (.lst [r0, .ref q1, .ref q2, .ref q3, .ref q4]) = J10 at kJ10 hlb ⊢
  replace kd := kd.trans (kJ10.sub (fun _ z => nomatch z))
  replace p2 := p2.keep kJ10
  replace ht1 := kJ10.sqT ht1
  replace s0 := kJ10.dp _ s0
  replace s1 := kJ10.dp _ s1
  replace di := kJ10.dp _ di
  replace s2i := kJ10.dp _ s2i
  replace s2 := kJ10.dp _ s2
  replace s3 := kJ10.dp _ s3
  replace s4 := kJ10.dp _ s4
  simp only [List.set]
  refine ⟨_, rfl, t1, _, _, _, rfl, rfl, ht1, atI_nat (j := 0) rfl, _, rfl, t1, _, _, _, rfl, rfl, ht1, atI_nat (j := 1) rfl, _, rfl, t1, _, _, _, rfl, rfl, ht1, atI_nat (j := 2) rfl, "i", a, b, c, rfl, fun J11 r5 kJ11 s5 => ?_⟩
  replace kd := kd.trans (kJ11.sub (fun _ z => nomatch z))
  replace p2 := p2.keep kJ11
  replace ht1 := kJ11.sqT ht1
  replace s0 := kJ11.dp _ s0
  replace s1 := kJ11.dp _ s1
  replace di := kJ11.dp _ di
  replace s2i := kJ11.dp _ s2i
  replace s2 := kJ11.dp _ s2
  replace s3 := kJ11.dp _ s3
  replace s4 := kJ11.dp _ s4
  replace hlb := kJ11.same _ _ hlb
  refine ⟨(by show 2 ≤ sizeLine; decide), fun lx n_lx => ?_⟩
  have kJ12 : Kx [] J11 (upd J11 lx (.lst [.str "j", .str "i"])) := .new n_lx
  have hlx2 : SqL K (upd J11 lx (.lst [.str "j", .str "i"])) lx [.str "j", .str "i"] := .inl (.inl upd_same)
  generalize upd J11 lx (.lst [.str "j", .str "i"]) = J12 at kJ12 hlx2 ⊢
  replace kd := kd.trans (kJ12.sub (fun _ z => nomatch z))
  replace p2 := p2.keep kJ12
  replace ht1 := kJ12.sqT ht1
  replace s0 := kJ12.dp _ s0
  replace s1 := kJ12.dp _ s1
  replace di := kJ12.dp _ di
  replace s2i := kJ12.dp _ s2i
  replace s2 := kJ12.dp _ s2
  replace s3 := kJ12.dp _ s3
  replace s4 := kJ12.dp _ s4
  replace hlb := kJ12.same _ _ hlb
  replace s5 := kJ12.dp _ s5
  refine ⟨_, rfl, d, 2, N + 1 + 3, rfl, by decide, by decide, by omega, p2, fun I0 d3 kI0 p3 hd30 hd31 => ?_⟩
  clear p2
  replace kd := kd.trans kI0
  replace ht1 := kI0.sqT ht1
  replace s0 := kI0.dp _ s0
  replace s1 := kI0.dp _ s1
  replace di := kI0.dp _ di
  replace s2i := kI0.dp _ s2i
  replace s2 := kI0.dp _ s2
  replace s3 := kI0.dp _ s3
  replace s4 := kI0.dp _ s4
  replace hlb := kI0.at_ _ _ hlb (fun ⟨_, z⟩ => nomatch z)
  replace s5 := kI0.dp _ s5
  replace hlx2 := kI0.sqL hlx2
  obtain ⟨x, hx, hat⟩ : ∃ x : Str, (x = "j" ∨ x = "i") ∧ atI [V.str "j", V.str "i"] d3 = some (.str x) := by
    have e : d3 = 0 ∨ d3 = 1 := by omega
    rcases e with rfl | rfl
    · exact ⟨"j", .inl rfl, atI_nat (j := 0) rfl⟩
    · exact ⟨"i", .inr rfl, atI_nat (j := 1) rfl⟩
  have hxo : PyData.strOk x = true := by rcases hx with rfl | rfl <;> decide +kernel
  refine ⟨lx, _, _, _, rfl, rfl, hlx2, hat, (by show 2 ≤ sizeLine; decide), fun q6 n_q6 => ?_⟩
  have kJ13 : Kx [] I0 (upd I0 q6 (.tup [.str "again", .str x])) := .new n_q6
  have s6 : Dp K (upd I0 q6 (.tup [.str "again", .str x])) (.ref q6) (smD (.again x)) := tup_new n_q6 (.cons (.str _) (.cons (.str _) .nil))
  generalize upd I0 q6 (.tup [.str "again", .str x]) = J13 at kJ13 s6 ⊢
  replace kd := kd.trans (kJ13.sub (fun _ z => nomatch z))
  replace ht1 := kJ13.sqT ht1
  replace s0 := kJ13.dp _ s0
  replace s1 := kJ13.dp _ s1
  replace di := kJ13.dp _ di
  replace s2i := kJ13.dp _ s2i
  replace s2 := kJ13.dp _ s2
  replace s3 := kJ13.dp _ s3
  replace s4 := kJ13.dp _ s4
  replace hlb := kJ13.same _ _ hlb
  replace s5 := kJ13.dp _ s5
  replace hlx2 := kJ13.sqL hlx2
  replace p3 := p3.keep kJ13
  refine ⟨(by show 1 ≤ sizeLine; decide), fun q7 n_q7 => ?_⟩
  have kJ14 : Kx [] J13 (upd J13 q7 (.tup [.str "back"])) := .new n_q7
  have s7 : Dp K (upd J13 q7 (.tup [.str "back"])) (.ref q7) (smD .back) := tup_new n_q7 (.cons (.str _) .nil)
  generalize upd J13 q7 (.tup [.str "back"]) = J14 at kJ14 s7 ⊢
  replace kd := kd.trans (kJ14.sub (fun _ z => nomatch z))
  replace ht1 := kJ14.sqT ht1
  replace s0 := kJ14.dp _ s0
  replace s1 := kJ14.dp _ s1
  replace di := kJ14.dp _ di
  replace s2i := kJ14.dp _ s2i
  replace s2 := kJ14.dp _ s2
  replace s3 := kJ14.dp _ s3
  replace s4 := kJ14.dp _ s4
  replace hlb := kJ14.same _ _ hlb
  replace s5 := kJ14.dp _ s5
  replace hlx2 := kJ14.sqL hlx2
  replace p3 := p3.keep kJ14
  replace s6 := kJ14.dp _ s6
  refine ⟨(by show 3 ≤ sizeLine; decide), fun pt n_pt => ?_⟩
  have kJ15 : Kx [] J14 (upd J14 pt (.lst [r5, .ref q6, .ref q7])) := .new n_pt
  have hpt : (upd J14 pt (.lst [r5, .ref q6, .ref q7])) pt = some (.lst [r5, .ref q6, .ref q7]) := upd_same
  generalize upd J14 pt (.lst [r5, .ref q6, .ref q7]) = J15 at kJ15 hpt ⊢
  replace kd := kd.trans (kJ15.sub (fun _ z => nomatch z))
  replace ht1 := kJ15.sqT ht1
  replace s0 := kJ15.dp _ s0
  replace s1 := kJ15.dp _ s1
  replace di := kJ15.dp _ di
  replace s2i := kJ15.dp _ s2i
  replace s2 := kJ15.dp _ s2
  replace s3 := kJ15.dp _ s3
  replace s4 := kJ15.dp _ s4
  replace hlb := kJ15.same _ _ hlb
  replace s5 := kJ15.dp _ s5
  replace hlx2 := kJ15.sqL hlx2
  replace p3 := p3.keep kJ15
  replace s6 := kJ15.dp _ s6
  replace s7 := kJ15.dp _ s7
  simp only [List.set]
  refine ⟨_, rfl, _, rfl, lb, pt, _, _, rfl, rfl, hlb, hpt, (by show 5 + 3 ≤ sizeLine; decide), fun body n_body => ?_⟩
  have kJ16 : Kx [] J15 (upd J15 body (.lst ([r0, .ref q1, .ref q2, .ref q3, .ref q4] ++ [r5, .ref q6, .ref q7]))) := .new n_body
  have hbody : SqL K (upd J15 body (.lst ([r0, .ref q1, .ref q2, .ref q3, .ref q4] ++ [r5, .ref q6, .ref q7]))) body [r0, .ref q1, .ref q2, .ref q3, .ref q4, r5, .ref q6, .ref q7] := .inl (.inl upd_same)
  generalize upd J15 body (.lst ([r0, .ref q1, .ref q2, .ref q3, .ref q4] ++ [r5, .ref q6, .ref q7])) = J16 at kJ16 hbody ⊢
  replace kd := kd.trans (kJ16.sub (fun _ z => nomatch z))
  replace ht1 := kJ16.sqT ht1
  replace s0 := kJ16.dp _ s0
  replace s1 := kJ16.dp _ s1
  replace di := kJ16.dp _ di
  replace s2i := kJ16.dp _ s2i
  replace s2 := kJ16.dp _ s2
  replace s3 := kJ16.dp _ s3
  replace s4 := kJ16.dp _ s4
  replace hlb := kJ16.same _ _ hlb
  replace s5 := kJ16.dp _ s5
  replace hlx2 := kJ16.sqL hlx2
  replace p3 := p3.keep kJ16
  replace s6 := kJ16.dp _ s6
  replace s7 := kJ16.dp _ s7
  replace hpt := kJ16.same _ _ hpt
  have hsts : DpAll K J16 [r0, .ref q1, .ref q2, .ref q3, .ref q4, r5, .ref q6, .ref q7] ((callS many a b c x).map smD) := .cons s0 (.cons s1 (.cons s2 (.cons s3 (.cons s4 (.cons s5 (.cons s6 (.cons s7 .nil)))))))
  rcases hx with rfl | rfl
  · have hrun := call_j hL1 hL2 hD hby hr1
    by_cases hl0 : l = []
    · rw [if_pos hl0] at hrun
      refine ⟨_, rfl, body, _, callS many a b c "j", by_, _, rfl, hbody, hsts, call_ok _ _ _ _ hxo, hb.1, hb.2, hrun, fun G0 ftA fbA vpA vfA flA ysA kG0 htA hfbA hvpA hvfA hflA hysA hndA => ?_⟩
      replace kd := kd.trans (kG0.sub (fun _ z => nomatch z))
      replace ht1 := kG0.sqT ht1
      replace s0 := kG0.dp _ s0
      replace s1 := kG0.dp _ s1
      replace di := kG0.dp _ di
      replace s2i := kG0.dp _ s2i
      replace s2 := kG0.dp _ s2
      replace s3 := kG0.dp _ s3
      replace s4 := kG0.dp _ s4
      replace hlb := kG0.same _ _ hlb
      replace s5 := kG0.dp _ s5
      replace hlx2 := kG0.sqL hlx2
      replace p3 := p3.keep kG0
      replace s6 := kG0.dp _ s6
      replace s7 := kG0.dp _ s7
      replace hpt := kG0.same _ _ hpt
      replace hbody := kG0.sqL hbody
      simp only [List.set]
      refine ⟨_, rfl, t1, _, _, _, rfl, rfl, ht1, atI_nat (j := 0) rfl, _, rfl, t1, _, _, _, rfl, rfl, ht1, atI_nat (j := 1) rfl, _, rfl, t1, _, _, _, rfl, rfl, ht1, atI_nat (j := 2) rfl, a, b, c, z, l, rfl, hr1, fun J17 x1 la kJ17 hx1 hla => ?_⟩
      replace kd := kd.trans (kJ17.sub (fun _ z => nomatch z))
      replace ht1 := kJ17.sqT ht1
      replace s0 := kJ17.dp _ s0
      replace s1 := kJ17.dp _ s1
      replace di := kJ17.dp _ di
      replace s2i := kJ17.dp _ s2i
      replace s2 := kJ17.dp _ s2
      replace s3 := kJ17.dp _ s3
      replace s4 := kJ17.dp _ s4
      replace hlb := kJ17.same _ _ hlb
      replace s5 := kJ17.dp _ s5
      replace hlx2 := kJ17.sqL hlx2
      replace p3 := p3.keep kJ17
      replace s6 := kJ17.dp _ s6
      replace s7 := kJ17.dp _ s7
      replace hpt := kJ17.same _ _ hpt
      replace hbody := kJ17.sqL hbody
      replace htA := kJ17.sqT htA
      replace hfbA := kJ17.same _ _ hfbA
      replace hvpA := kJ17.dp _ hvpA
      replace hvfA := kJ17.dp _ hvfA
      replace hflA := kJ17.same _ _ hflA
      replace hysA := kJ17.dpAll _ hysA
      refine ⟨x1, _, rfl, hx1, rfl, _, _, rfl, _, _, rfl, rfl, ?_⟩
      simp only [List.set]
      refine ⟨_, rfl, _, rfl, (by show 5 ≤ sizeLine; decide), fun fj n_fj => ?_⟩
      have kJ18 : Kx [] J17 (upd J17 fj (.tup [.str "loop", .str "j", .int by_, .int many, .int 1])) := .new n_fj
      have dfj : Dp K (upd J17 fj (.tup [.str "loop", .str "j", .int by_, .int many, .int 1])) (.ref fj) (frD (.loop "j" by_ many 1)) := tup_new n_fj (.cons (.str _) (.cons (.str _) (.cons (.int _) (.cons (.int _) (.cons (.int _) .nil)))))
      generalize upd J17 fj (.tup [.str "loop", .str "j", .int by_, .int many, .int 1]) = J18 at kJ18 dfj ⊢
      replace kd := kd.trans (kJ18.sub (fun _ z => nomatch z))
      replace ht1 := kJ18.sqT ht1
      replace s0 := kJ18.dp _ s0
      replace s1 := kJ18.dp _ s1
      replace di := kJ18.dp _ di
      replace s2i := kJ18.dp _ s2i
      replace s2 := kJ18.dp _ s2
      replace s3 := kJ18.dp _ s3
      replace s4 := kJ18.dp _ s4
      replace hlb := kJ18.same _ _ hlb
      replace s5 := kJ18.dp _ s5
      replace hlx2 := kJ18.sqL hlx2
      replace p3 := p3.keep kJ18
      replace s6 := kJ18.dp _ s6
      replace s7 := kJ18.dp _ s7
      replace hpt := kJ18.same _ _ hpt
      replace hbody := kJ18.sqL hbody
      replace htA := kJ18.sqT htA
      replace hfbA := kJ18.same _ _ hfbA
      replace hvpA := kJ18.dp _ hvpA
      replace hvfA := kJ18.dp _ hvfA
      replace hflA := kJ18.same _ _ hflA
      replace hysA := kJ18.dpAll _ hysA
      replace hx1 := kJ18.sqT hx1
      replace hla := kJ18.same _ _ hla
      refine ⟨_, rfl, _, _, rfl, rfl, .inl ⟨by decide, by decide⟩, (by show 2 ≤ sizeLine; decide), fun fc n_fc => ?_⟩
      have kJ19 : Kx [] J18 (upd J18 fc (.tup [.str "call", .int (2 * by_)])) := .new n_fc
      have dfc : Dp K (upd J18 fc (.tup [.str "call", .int (2 * by_)])) (.ref fc) (frD (.call (2 * by_))) := tup_new n_fc (.cons (.str _) (.cons (.int _) .nil))
      generalize upd J18 fc (.tup [.str "call", .int (2 * by_)]) = J19 at kJ19 dfc ⊢
      replace kd := kd.trans (kJ19.sub (fun _ z => nomatch z))
      replace ht1 := kJ19.sqT ht1
      replace s0 := kJ19.dp _ s0
      replace s1 := kJ19.dp _ s1
      replace di := kJ19.dp _ di
      replace s2i := kJ19.dp _ s2i
      replace s2 := kJ19.dp _ s2
      replace s3 := kJ19.dp _ s3
      replace s4 := kJ19.dp _ s4
      replace hlb := kJ19.same _ _ hlb
      replace s5 := kJ19.dp _ s5
      replace hlx2 := kJ19.sqL hlx2
      replace p3 := p3.keep kJ19
      replace s6 := kJ19.dp _ s6
      replace s7 := kJ19.dp _ s7
      replace hpt := kJ19.same _ _ hpt
      replace hbody := kJ19.sqL hbody
      replace htA := kJ19.sqT htA
      replace hfbA := kJ19.same _ _ hfbA
      replace hvpA := kJ19.dp _ hvpA
      replace hvfA := kJ19.dp _ hvfA
      replace hflA := kJ19.same _ _ hflA
      replace hysA := kJ19.dpAll _ hysA
      replace hx1 := kJ19.sqT hx1
      replace hla := kJ19.same _ _ hla
      replace dfj := kJ19.dp _ dfj
      refine ⟨(by show 2 ≤ sizeLine; decide), fun fs n_fs => ?_⟩
      have kJ20 : Kx [] J19 (upd J19 fs (.tup [.ref fj, .ref fc])) := .new n_fs
      have dfs : Dp K (upd J19 fs (.tup [.ref fj, .ref fc])) (.ref fs) (pileD [.loop "j" by_ many 1, .call (2 * by_)]) := tup_new n_fs (.cons dfj (.cons dfc .nil))
      generalize upd J19 fs (.tup [.ref fj, .ref fc]) = J20 at kJ20 dfs ⊢
      replace kd := kd.trans (kJ20.sub (fun _ z => nomatch z))
      replace ht1 := kJ20.sqT ht1
      replace s0 := kJ20.dp _ s0
      replace s1 := kJ20.dp _ s1
      replace di := kJ20.dp _ di
      replace s2i := kJ20.dp _ s2i
      replace s2 := kJ20.dp _ s2
      replace s3 := kJ20.dp _ s3
      replace s4 := kJ20.dp _ s4
      replace hlb := kJ20.same _ _ hlb
      replace s5 := kJ20.dp _ s5
      replace hlx2 := kJ20.sqL hlx2
      replace p3 := p3.keep kJ20
      replace s6 := kJ20.dp _ s6
      replace s7 := kJ20.dp _ s7
      replace hpt := kJ20.same _ _ hpt
      replace hbody := kJ20.sqL hbody
      replace htA := kJ20.sqT htA
      replace hfbA := kJ20.same _ _ hfbA
      replace hvpA := kJ20.dp _ hvpA
      replace hvfA := kJ20.dp _ hvfA
      replace hflA := kJ20.same _ _ hflA
      replace hysA := kJ20.dpAll _ hysA
      replace hx1 := kJ20.sqT hx1
      replace hla := kJ20.same _ _ hla
      replace dfj := kJ20.dp _ dfj
      replace dfc := kJ20.dp _ dfc
      simp only [List.set]
      refine ⟨_, rfl, pt, _, _, _, rfl, rfl, .inl (.inl hpt), atI_nat (j := 1) rfl, (by show 2 ≤ sizeLine; decide), fun tj n_tj => ?_⟩
      have kJ22 : Kx [] J20 (upd J20 tj (.tup [.str "again", .str "j"])) := .new n_tj
      have dtj : Dp K (upd J20 tj (.tup [.str "again", .str "j"])) (.ref tj) (.tuple [.str "again", .str "j"]) := tup_new n_tj (.cons (.str _) (.cons (.str _) .nil))
      generalize upd J20 tj (.tup [.str "again", .str "j"]) = J22 at kJ22 dtj ⊢
      replace kd := kd.trans (kJ22.sub (fun _ z => nomatch z))
      replace ht1 := kJ22.sqT ht1
      replace s0 := kJ22.dp _ s0
      replace s1 := kJ22.dp _ s1
      replace di := kJ22.dp _ di
      replace s2i := kJ22.dp _ s2i
      replace s2 := kJ22.dp _ s2
      replace s3 := kJ22.dp _ s3
      replace s4 := kJ22.dp _ s4
      replace hlb := kJ22.same _ _ hlb
      replace s5 := kJ22.dp _ s5
      replace hlx2 := kJ22.sqL hlx2
      replace p3 := p3.keep kJ22
      replace s6 := kJ22.dp _ s6
      replace s7 := kJ22.dp _ s7
      replace hpt := kJ22.same _ _ hpt
      replace hbody := kJ22.sqL hbody
      replace htA := kJ22.sqT htA
      replace hfbA := kJ22.same _ _ hfbA
      replace hvpA := kJ22.dp _ hvpA
      replace hvfA := kJ22.dp _ hvfA
      replace hflA := kJ22.same _ _ hflA
      replace hysA := kJ22.dpAll _ hysA
      replace hx1 := kJ22.sqT hx1
      replace hla := kJ22.same _ _ hla
      replace dfj := kJ22.dp _ dfj
      replace dfc := kJ22.dp _ dfc
      replace dfs := kJ22.dp _ dfs
      refine ⟨smD (.again "j"), _, s6, dtj, sm_shaped (st := .again "j") hxo, again_shaped nm_j, _, rfl, ?_⟩
      rw [eqv_again]
      rw [show isAg (.again "j") "j" = true by decide +kernel]
      refine iteT ?_
      refine ⟨_, rfl, (by show 0 ≤ sizeLine; decide), fun m0 n_m0 => ?_⟩
      have kJ23 : Kx [] J22 (upd J22 m0 (.lst [])) := .new n_m0
      have h_m0 : (upd J22 m0 (.lst [])) m0 = some (.lst []) := upd_same
      generalize upd J22 m0 (.lst []) = J23 at kJ23 h_m0 ⊢
      replace kd := kd.trans (kJ23.sub (fun _ z => nomatch z))
      replace ht1 := kJ23.sqT ht1
      replace s0 := kJ23.dp _ s0
      replace s1 := kJ23.dp _ s1
      replace di := kJ23.dp _ di
      replace s2i := kJ23.dp _ s2i
      replace s2 := kJ23.dp _ s2
      replace s3 := kJ23.dp _ s3
      replace s4 := kJ23.dp _ s4
      replace hlb := kJ23.same _ _ hlb
      replace s5 := kJ23.dp _ s5
      replace hlx2 := kJ23.sqL hlx2
      replace p3 := p3.keep kJ23
      replace s6 := kJ23.dp _ s6
      replace s7 := kJ23.dp _ s7
      replace hpt := kJ23.same _ _ hpt
      replace hbody := kJ23.sqL hbody
      replace htA := kJ23.sqT htA
      replace hfbA := kJ23.same _ _ hfbA
      replace hvpA := kJ23.dp _ hvpA
      replace hvfA := kJ23.dp _ hvfA
      replace hflA := kJ23.same _ _ hflA
      replace hysA := kJ23.dpAll _ hysA
      replace hx1 := kJ23.sqT hx1
      replace hla := kJ23.same _ _ hla
      replace dfj := kJ23.dp _ dfj
      replace dfc := kJ23.dp _ dfc
      replace dfs := kJ23.dp _ dfs
      replace dtj := kJ23.dp _ dtj
      refine ⟨.list (l.map .int), .list ([].map .int), .lst (.inl (.inl hla)) (dpa_ints l), .lst (.inl (.inl h_m0)) .nil, ints_shaped _, ints_shaped [], _, rfl, ?_⟩
      rw [show PyData.eqv (.list (l.map .int)) (.list (([] : List Int).map .int)) = decide (l = []) by cases l <;> simp [PyData.eqv, PyData.eqvAll]]
      rw [decide_eq_true hl0]
      refine iteT ?_
      refine ⟨_, rfl, _, rfl, _, _, rfl, rfl, .inl ⟨by decide, by decide⟩, ?_⟩
      intro bx n_bx
      refine ⟨upd_same, [(Sum.inr "j", .int (1))], rfl, (by show 1 ≤ 15; decide), ?_⟩
      rw [show mergeK [] [((Sum.inr "j" : Key), V.int (1))] = bxs [("j", 1)] by kernel_rfl]
      have kJ24 : Kx [] J23 (upd (upd J23 bx (.dK [])) bx (.dK (bxs [("j", 1)]))) := (Kx.new (ks := []) n_bx).grow n_bx
      have hbx : (upd (upd J23 bx (.dK [])) bx (.dK (bxs [("j", 1)]))) bx = some (.dK (bxs [("j", 1)])) := upd_same
      generalize upd (upd J23 bx (.dK [])) bx (.dK (bxs [("j", 1)])) = J24 at kJ24 hbx ⊢
      replace kd := kd.trans (kJ24.sub (fun _ z => nomatch z))
      replace ht1 := kJ24.sqT ht1
      replace s0 := kJ24.dp _ s0
      replace s1 := kJ24.dp _ s1
      replace di := kJ24.dp _ di
      replace s2i := kJ24.dp _ s2i
      replace s2 := kJ24.dp _ s2
      replace s3 := kJ24.dp _ s3
      replace s4 := kJ24.dp _ s4
      replace hlb := kJ24.same _ _ hlb
      replace s5 := kJ24.dp _ s5
      replace hlx2 := kJ24.sqL hlx2
      replace p3 := p3.keep kJ24
      replace s6 := kJ24.dp _ s6
      replace s7 := kJ24.dp _ s7
      replace hpt := kJ24.same _ _ hpt
      replace hbody := kJ24.sqL hbody
      replace htA := kJ24.sqT htA
      replace hfbA := kJ24.same _ _ hfbA
      replace hvpA := kJ24.dp _ hvpA
      replace hvfA := kJ24.dp _ hvfA
      replace hflA := kJ24.same _ _ hflA
      replace hysA := kJ24.dpAll _ hysA
      replace hx1 := kJ24.sqT hx1
      replace hla := kJ24.same _ _ hla
      replace dfj := kJ24.dp _ dfj
      replace dfc := kJ24.dp _ dfc
      replace dfs := kJ24.dp _ dfs
      replace dtj := kJ24.dp _ dtj
      replace h_m0 := kJ24.same _ _ h_m0
      refine ⟨_, rfl, _, rfl, _, _, rfl, rfl, .inl ⟨by decide, by decide⟩, (by show 2 ≤ sizeLine; decide), fun fu n_fu => ?_⟩
      have kJ25 : Kx [] J24 (upd J24 fu (.tup [.str "again", .int (6 * by_)])) := .new n_fu
      have dfu : Dp K (upd J24 fu (.tup [.str "again", .int (6 * by_)])) (.ref fu) (faultD (some ("again", 6 * by_))) := tup_new n_fu (.cons (.str _) (.cons (.int _) .nil))
      generalize upd J24 fu (.tup [.str "again", .int (6 * by_)]) = J25 at kJ25 dfu ⊢
      replace kd := kd.trans (kJ25.sub (fun _ z => nomatch z))
      replace ht1 := kJ25.sqT ht1
      replace s0 := kJ25.dp _ s0
      replace s1 := kJ25.dp _ s1
      replace di := kJ25.dp _ di
      replace s2i := kJ25.dp _ s2i
      replace s2 := kJ25.dp _ s2
      replace s3 := kJ25.dp _ s3
      replace s4 := kJ25.dp _ s4
      replace hlb := kJ25.same _ _ hlb
      replace s5 := kJ25.dp _ s5
      replace hlx2 := kJ25.sqL hlx2
      replace p3 := p3.keep kJ25
      replace s6 := kJ25.dp _ s6
      replace s7 := kJ25.dp _ s7
      replace hpt := kJ25.same _ _ hpt
      replace hbody := kJ25.sqL hbody
      replace htA := kJ25.sqT htA
      replace hfbA := kJ25.same _ _ hfbA
      replace hvpA := kJ25.dp _ hvpA
      replace hvfA := kJ25.dp _ hvfA
      replace hflA := kJ25.same _ _ hflA
      replace hysA := kJ25.dpAll _ hysA
      replace hx1 := kJ25.sqT hx1
      replace hla := kJ25.same _ _ hla
      replace dfj := kJ25.dp _ dfj
      replace dfc := kJ25.dp _ dfc
      replace dfs := kJ25.dp _ dfs
      replace dtj := kJ25.dp _ dtj
      replace h_m0 := kJ25.same _ _ h_m0
      replace hbx := kJ25.same _ _ hbx
      refine ⟨(by show 0 ≤ sizeLine; decide), fun el n_el => ?_⟩
      have kJ26 : Kx [] J25 (upd J25 el (.lst [])) := .new n_el
      have hel : (upd J25 el (.lst [])) el = some (.lst []) := upd_same
      generalize upd J25 el (.lst []) = J26 at kJ26 hel ⊢
      replace kd := kd.trans (kJ26.sub (fun _ z => nomatch z))
      replace ht1 := kJ26.sqT ht1
      replace s0 := kJ26.dp _ s0
      replace s1 := kJ26.dp _ s1
      replace di := kJ26.dp _ di
      replace s2i := kJ26.dp _ s2i
      replace s2 := kJ26.dp _ s2
      replace s3 := kJ26.dp _ s3
      replace s4 := kJ26.dp _ s4
      replace hlb := kJ26.same _ _ hlb
      replace s5 := kJ26.dp _ s5
      replace hlx2 := kJ26.sqL hlx2
      replace p3 := p3.keep kJ26
      replace s6 := kJ26.dp _ s6
      replace s7 := kJ26.dp _ s7
      replace hpt := kJ26.same _ _ hpt
      replace hbody := kJ26.sqL hbody
      replace htA := kJ26.sqT htA
      replace hfbA := kJ26.same _ _ hfbA
      replace hvpA := kJ26.dp _ hvpA
      replace hvfA := kJ26.dp _ hvfA
      replace hflA := kJ26.same _ _ hflA
      replace hysA := kJ26.dpAll _ hysA
      replace hx1 := kJ26.sqT hx1
      replace hla := kJ26.same _ _ hla
      replace dfj := kJ26.dp _ dfj
      replace dfc := kJ26.dp _ dfc
      replace dfs := kJ26.dp _ dfs
      replace dtj := kJ26.dp _ dtj
      replace h_m0 := kJ26.same _ _ h_m0
      replace hbx := kJ26.same _ _ hbx
      replace dfu := kJ26.dp _ dfu
      refine ⟨(by show 6 ≤ sizeLine; decide), fun tt n_tt => ?_⟩
      have kJ27 : Kx [] J26 (upd J26 tt (.tup [.str "faulted", .int (6 * by_), .ref bx, .ref fs, .ref fu, .ref el])) := .new n_tt
      have htt : SqT K (upd J26 tt (.tup [.str "faulted", .int (6 * by_), .ref bx, .ref fs, .ref fu, .ref el])) tt [.str "faulted", .int (6 * by_), .ref bx, .ref fs, .ref fu, .ref el] := .inl (.inl upd_same)
      generalize upd J26 tt (.tup [.str "faulted", .int (6 * by_), .ref bx, .ref fs, .ref fu, .ref el]) = J27 at kJ27 htt ⊢
      replace kd := kd.trans (kJ27.sub (fun _ z => nomatch z))
      replace ht1 := kJ27.sqT ht1
      replace s0 := kJ27.dp _ s0
      replace s1 := kJ27.dp _ s1
      replace di := kJ27.dp _ di
      replace s2i := kJ27.dp _ s2i
      replace s2 := kJ27.dp _ s2
      replace s3 := kJ27.dp _ s3
      replace s4 := kJ27.dp _ s4
      replace hlb := kJ27.same _ _ hlb
      replace s5 := kJ27.dp _ s5
      replace hlx2 := kJ27.sqL hlx2
      replace p3 := p3.keep kJ27
      replace s6 := kJ27.dp _ s6
      replace s7 := kJ27.dp _ s7
      replace hpt := kJ27.same _ _ hpt
      replace hbody := kJ27.sqL hbody
      replace htA := kJ27.sqT htA
      replace hfbA := kJ27.same _ _ hfbA
      replace hvpA := kJ27.dp _ hvpA
      replace hvfA := kJ27.dp _ hvfA
      replace hflA := kJ27.same _ _ hflA
      replace hysA := kJ27.dpAll _ hysA
      replace hx1 := kJ27.sqT hx1
      replace hla := kJ27.same _ _ hla
      replace dfj := kJ27.dp _ dfj
      replace dfc := kJ27.dp _ dfc
      replace dfs := kJ27.dp _ dfs
      replace dtj := kJ27.dp _ dtj
      replace h_m0 := kJ27.same _ _ h_m0
      replace hbx := kJ27.same _ _ hbx
      replace dfu := kJ27.dp _ dfu
      replace hel := kJ27.same _ _ hel
      refine ⟨10, by decide, eq_six (said := []) (pile := [.loop "j" by_ many 1, .call (2 * by_)]) (fault := some ("again", 6 * by_)) hndA htA htt hfbA hbx hvpA dfs hvfA dfu (.inl (.inl hflA)) (.inl (.inl hel)) hysA .nil, ?_⟩
      exact q _ kd (p3.mono (by omega))
    · rw [if_neg hl0] at hrun
      refine ⟨_, rfl, body, _, callS many a b c "j", by_, _, rfl, hbody, hsts, call_ok _ _ _ _ hxo, hb.1, hb.2, hrun, fun G0 ftA fbA vpA vfA flA ysA kG0 htA hfbA hvpA hvfA hflA hysA hndA => ?_⟩
      replace kd := kd.trans (kG0.sub (fun _ z => nomatch z))
      replace ht1 := kG0.sqT ht1
      replace s0 := kG0.dp _ s0
      replace s1 := kG0.dp _ s1
      replace di := kG0.dp _ di
      replace s2i := kG0.dp _ s2i
      replace s2 := kG0.dp _ s2
      replace s3 := kG0.dp _ s3
      replace s4 := kG0.dp _ s4
      replace hlb := kG0.same _ _ hlb
      replace s5 := kG0.dp _ s5
      replace hlx2 := kG0.sqL hlx2
      replace p3 := p3.keep kG0
      replace s6 := kG0.dp _ s6
      replace s7 := kG0.dp _ s7
      replace hpt := kG0.same _ _ hpt
      replace hbody := kG0.sqL hbody
      simp only [List.set]
      refine ⟨_, rfl, t1, _, _, _, rfl, rfl, ht1, atI_nat (j := 0) rfl, _, rfl, t1, _, _, _, rfl, rfl, ht1, atI_nat (j := 1) rfl, _, rfl, t1, _, _, _, rfl, rfl, ht1, atI_nat (j := 2) rfl, a, b, c, z, l, rfl, hr1, fun J17 x1 la kJ17 hx1 hla => ?_⟩
      replace kd := kd.trans (kJ17.sub (fun _ z => nomatch z))
      replace ht1 := kJ17.sqT ht1
      replace s0 := kJ17.dp _ s0
      replace s1 := kJ17.dp _ s1
      replace di := kJ17.dp _ di
      replace s2i := kJ17.dp _ s2i
      replace s2 := kJ17.dp _ s2
      replace s3 := kJ17.dp _ s3
      replace s4 := kJ17.dp _ s4
      replace hlb := kJ17.same _ _ hlb
      replace s5 := kJ17.dp _ s5
      replace hlx2 := kJ17.sqL hlx2
      replace p3 := p3.keep kJ17
      replace s6 := kJ17.dp _ s6
      replace s7 := kJ17.dp _ s7
      replace hpt := kJ17.same _ _ hpt
      replace hbody := kJ17.sqL hbody
      replace htA := kJ17.sqT htA
      replace hfbA := kJ17.same _ _ hfbA
      replace hvpA := kJ17.dp _ hvpA
      replace hvfA := kJ17.dp _ hvfA
      replace hflA := kJ17.same _ _ hflA
      replace hysA := kJ17.dpAll _ hysA
      refine ⟨x1, _, rfl, hx1, rfl, _, _, rfl, _, _, rfl, rfl, ?_⟩
      simp only [List.set]
      refine ⟨_, rfl, _, rfl, (by show 5 ≤ sizeLine; decide), fun fj n_fj => ?_⟩
      have kJ18 : Kx [] J17 (upd J17 fj (.tup [.str "loop", .str "j", .int by_, .int many, .int 1])) := .new n_fj
      have dfj : Dp K (upd J17 fj (.tup [.str "loop", .str "j", .int by_, .int many, .int 1])) (.ref fj) (frD (.loop "j" by_ many 1)) := tup_new n_fj (.cons (.str _) (.cons (.str _) (.cons (.int _) (.cons (.int _) (.cons (.int _) .nil)))))
      generalize upd J17 fj (.tup [.str "loop", .str "j", .int by_, .int many, .int 1]) = J18 at kJ18 dfj ⊢
      replace kd := kd.trans (kJ18.sub (fun _ z => nomatch z))
      replace ht1 := kJ18.sqT ht1
      replace s0 := kJ18.dp _ s0
      replace s1 := kJ18.dp _ s1
      replace di := kJ18.dp _ di
      replace s2i := kJ18.dp _ s2i
      replace s2 := kJ18.dp _ s2
      replace s3 := kJ18.dp _ s3
      replace s4 := kJ18.dp _ s4
      replace hlb := kJ18.same _ _ hlb
      replace s5 := kJ18.dp _ s5
      replace hlx2 := kJ18.sqL hlx2
      replace p3 := p3.keep kJ18
      replace s6 := kJ18.dp _ s6
      replace s7 := kJ18.dp _ s7
      replace hpt := kJ18.same _ _ hpt
      replace hbody := kJ18.sqL hbody
      replace htA := kJ18.sqT htA
      replace hfbA := kJ18.same _ _ hfbA
      replace hvpA := kJ18.dp _ hvpA
      replace hvfA := kJ18.dp _ hvfA
      replace hflA := kJ18.same _ _ hflA
      replace hysA := kJ18.dpAll _ hysA
      replace hx1 := kJ18.sqT hx1
      replace hla := kJ18.same _ _ hla
      refine ⟨_, rfl, _, _, rfl, rfl, .inl ⟨by decide, by decide⟩, (by show 2 ≤ sizeLine; decide), fun fc n_fc => ?_⟩
      have kJ19 : Kx [] J18 (upd J18 fc (.tup [.str "call", .int (2 * by_)])) := .new n_fc
      have dfc : Dp K (upd J18 fc (.tup [.str "call", .int (2 * by_)])) (.ref fc) (frD (.call (2 * by_))) := tup_new n_fc (.cons (.str _) (.cons (.int _) .nil))
      generalize upd J18 fc (.tup [.str "call", .int (2 * by_)]) = J19 at kJ19 dfc ⊢
      replace kd := kd.trans (kJ19.sub (fun _ z => nomatch z))
      replace ht1 := kJ19.sqT ht1
      replace s0 := kJ19.dp _ s0
      replace s1 := kJ19.dp _ s1
      replace di := kJ19.dp _ di
      replace s2i := kJ19.dp _ s2i
      replace s2 := kJ19.dp _ s2
      replace s3 := kJ19.dp _ s3
      replace s4 := kJ19.dp _ s4
      replace hlb := kJ19.same _ _ hlb
      replace s5 := kJ19.dp _ s5
      replace hlx2 := kJ19.sqL hlx2
      replace p3 := p3.keep kJ19
      replace s6 := kJ19.dp _ s6
      replace s7 := kJ19.dp _ s7
      replace hpt := kJ19.same _ _ hpt
      replace hbody := kJ19.sqL hbody
      replace htA := kJ19.sqT htA
      replace hfbA := kJ19.same _ _ hfbA
      replace hvpA := kJ19.dp _ hvpA
      replace hvfA := kJ19.dp _ hvfA
      replace hflA := kJ19.same _ _ hflA
      replace hysA := kJ19.dpAll _ hysA
      replace hx1 := kJ19.sqT hx1
      replace hla := kJ19.same _ _ hla
      replace dfj := kJ19.dp _ dfj
      refine ⟨(by show 2 ≤ sizeLine; decide), fun fs n_fs => ?_⟩
      have kJ20 : Kx [] J19 (upd J19 fs (.tup [.ref fj, .ref fc])) := .new n_fs
      have dfs : Dp K (upd J19 fs (.tup [.ref fj, .ref fc])) (.ref fs) (pileD [.loop "j" by_ many 1, .call (2 * by_)]) := tup_new n_fs (.cons dfj (.cons dfc .nil))
      generalize upd J19 fs (.tup [.ref fj, .ref fc]) = J20 at kJ20 dfs ⊢
      replace kd := kd.trans (kJ20.sub (fun _ z => nomatch z))
      replace ht1 := kJ20.sqT ht1
      replace s0 := kJ20.dp _ s0
      replace s1 := kJ20.dp _ s1
      replace di := kJ20.dp _ di
      replace s2i := kJ20.dp _ s2i
      replace s2 := kJ20.dp _ s2
      replace s3 := kJ20.dp _ s3
      replace s4 := kJ20.dp _ s4
      replace hlb := kJ20.same _ _ hlb
      replace s5 := kJ20.dp _ s5
      replace hlx2 := kJ20.sqL hlx2
      replace p3 := p3.keep kJ20
      replace s6 := kJ20.dp _ s6
      replace s7 := kJ20.dp _ s7
      replace hpt := kJ20.same _ _ hpt
      replace hbody := kJ20.sqL hbody
      replace htA := kJ20.sqT htA
      replace hfbA := kJ20.same _ _ hfbA
      replace hvpA := kJ20.dp _ hvpA
      replace hvfA := kJ20.dp _ hvfA
      replace hflA := kJ20.same _ _ hflA
      replace hysA := kJ20.dpAll _ hysA
      replace hx1 := kJ20.sqT hx1
      replace hla := kJ20.same _ _ hla
      replace dfj := kJ20.dp _ dfj
      replace dfc := kJ20.dp _ dfc
      simp only [List.set]
      refine ⟨_, rfl, pt, _, _, _, rfl, rfl, .inl (.inl hpt), atI_nat (j := 1) rfl, (by show 2 ≤ sizeLine; decide), fun tj n_tj => ?_⟩
      have kJ22 : Kx [] J20 (upd J20 tj (.tup [.str "again", .str "j"])) := .new n_tj
      have dtj : Dp K (upd J20 tj (.tup [.str "again", .str "j"])) (.ref tj) (.tuple [.str "again", .str "j"]) := tup_new n_tj (.cons (.str _) (.cons (.str _) .nil))
      generalize upd J20 tj (.tup [.str "again", .str "j"]) = J22 at kJ22 dtj ⊢
      replace kd := kd.trans (kJ22.sub (fun _ z => nomatch z))
      replace ht1 := kJ22.sqT ht1
      replace s0 := kJ22.dp _ s0
      replace s1 := kJ22.dp _ s1
      replace di := kJ22.dp _ di
      replace s2i := kJ22.dp _ s2i
      replace s2 := kJ22.dp _ s2
      replace s3 := kJ22.dp _ s3
      replace s4 := kJ22.dp _ s4
      replace hlb := kJ22.same _ _ hlb
      replace s5 := kJ22.dp _ s5
      replace hlx2 := kJ22.sqL hlx2
      replace p3 := p3.keep kJ22
      replace s6 := kJ22.dp _ s6
      replace s7 := kJ22.dp _ s7
      replace hpt := kJ22.same _ _ hpt
      replace hbody := kJ22.sqL hbody
      replace htA := kJ22.sqT htA
      replace hfbA := kJ22.same _ _ hfbA
      replace hvpA := kJ22.dp _ hvpA
      replace hvfA := kJ22.dp _ hvfA
      replace hflA := kJ22.same _ _ hflA
      replace hysA := kJ22.dpAll _ hysA
      replace hx1 := kJ22.sqT hx1
      replace hla := kJ22.same _ _ hla
      replace dfj := kJ22.dp _ dfj
      replace dfc := kJ22.dp _ dfc
      replace dfs := kJ22.dp _ dfs
      refine ⟨smD (.again "j"), _, s6, dtj, sm_shaped (st := .again "j") hxo, again_shaped nm_j, _, rfl, ?_⟩
      rw [eqv_again]
      rw [show isAg (.again "j") "j" = true by decide +kernel]
      refine iteT ?_
      refine ⟨_, rfl, (by show 0 ≤ sizeLine; decide), fun m0 n_m0 => ?_⟩
      have kJ23 : Kx [] J22 (upd J22 m0 (.lst [])) := .new n_m0
      have h_m0 : (upd J22 m0 (.lst [])) m0 = some (.lst []) := upd_same
      generalize upd J22 m0 (.lst []) = J23 at kJ23 h_m0 ⊢
      replace kd := kd.trans (kJ23.sub (fun _ z => nomatch z))
      replace ht1 := kJ23.sqT ht1
      replace s0 := kJ23.dp _ s0
      replace s1 := kJ23.dp _ s1
      replace di := kJ23.dp _ di
      replace s2i := kJ23.dp _ s2i
      replace s2 := kJ23.dp _ s2
      replace s3 := kJ23.dp _ s3
      replace s4 := kJ23.dp _ s4
      replace hlb := kJ23.same _ _ hlb
      replace s5 := kJ23.dp _ s5
      replace hlx2 := kJ23.sqL hlx2
      replace p3 := p3.keep kJ23
      replace s6 := kJ23.dp _ s6
      replace s7 := kJ23.dp _ s7
      replace hpt := kJ23.same _ _ hpt
      replace hbody := kJ23.sqL hbody
      replace htA := kJ23.sqT htA
      replace hfbA := kJ23.same _ _ hfbA
      replace hvpA := kJ23.dp _ hvpA
      replace hvfA := kJ23.dp _ hvfA
      replace hflA := kJ23.same _ _ hflA
      replace hysA := kJ23.dpAll _ hysA
      replace hx1 := kJ23.sqT hx1
      replace hla := kJ23.same _ _ hla
      replace dfj := kJ23.dp _ dfj
      replace dfc := kJ23.dp _ dfc
      replace dfs := kJ23.dp _ dfs
      replace dtj := kJ23.dp _ dtj
      refine ⟨.list (l.map .int), .list ([].map .int), .lst (.inl (.inl hla)) (dpa_ints l), .lst (.inl (.inl h_m0)) .nil, ints_shaped _, ints_shaped [], _, rfl, ?_⟩
      rw [show PyData.eqv (.list (l.map .int)) (.list (([] : List Int).map .int)) = decide (l = []) by cases l <;> simp [PyData.eqv, PyData.eqvAll]]
      rw [decide_eq_false hl0]
      refine iteF ?_
      refine ⟨_, rfl, _, rfl, _, _, rfl, rfl, .inl ⟨by decide, by decide⟩, _, rfl, t1, _, _, _, rfl, rfl, ht1, atI_nat (j := 1) rfl, _, rfl, t1, _, _, _, rfl, rfl, ht1, atI_nat (j := 2) rfl, (by show 5 ≤ sizeLine; decide), fun fi n_fi => ?_⟩
      have kJ24 : Kx [] J23 (upd J23 fi (.tup [.str "loop", .str "i", .int (6 * by_), .int b, .int c])) := .new n_fi
      have dfi : Dp K (upd J23 fi (.tup [.str "loop", .str "i", .int (6 * by_), .int b, .int c])) (.ref fi) (frD (.loop "i" (6 * by_) b c)) := tup_new n_fi (.cons (.str _) (.cons (.str _) (.cons (.int _) (.cons (.int _) (.cons (.int _) .nil)))))
      generalize upd J23 fi (.tup [.str "loop", .str "i", .int (6 * by_), .int b, .int c]) = J24 at kJ24 dfi ⊢
      replace kd := kd.trans (kJ24.sub (fun _ z => nomatch z))
      replace ht1 := kJ24.sqT ht1
      replace s0 := kJ24.dp _ s0
      replace s1 := kJ24.dp _ s1
      replace di := kJ24.dp _ di
      replace s2i := kJ24.dp _ s2i
      replace s2 := kJ24.dp _ s2
      replace s3 := kJ24.dp _ s3
      replace s4 := kJ24.dp _ s4
      replace hlb := kJ24.same _ _ hlb
      replace s5 := kJ24.dp _ s5
      replace hlx2 := kJ24.sqL hlx2
      replace p3 := p3.keep kJ24
      replace s6 := kJ24.dp _ s6
      replace s7 := kJ24.dp _ s7
      replace hpt := kJ24.same _ _ hpt
      replace hbody := kJ24.sqL hbody
      replace htA := kJ24.sqT htA
      replace hfbA := kJ24.same _ _ hfbA
      replace hvpA := kJ24.dp _ hvpA
      replace hvfA := kJ24.dp _ hvfA
      replace hflA := kJ24.same _ _ hflA
      replace hysA := kJ24.dpAll _ hysA
      replace hx1 := kJ24.sqT hx1
      replace hla := kJ24.same _ _ hla
      replace dfj := kJ24.dp _ dfj
      replace dfc := kJ24.dp _ dfc
      replace dfs := kJ24.dp _ dfs
      replace dtj := kJ24.dp _ dtj
      replace h_m0 := kJ24.same _ _ h_m0
      refine ⟨(by show 1 ≤ sizeLine; decide), fun f1 n_f1 => ?_⟩
      have kJ25 : Kx [] J24 (upd J24 f1 (.tup [.ref fi])) := .new n_f1
      have df1 : Dp K (upd J24 f1 (.tup [.ref fi])) (.ref f1) (pileD [.loop "i" (6 * by_) b c]) := tup_new n_f1 (.cons dfi .nil)
      generalize upd J24 f1 (.tup [.ref fi]) = J25 at kJ25 df1 ⊢
      replace kd := kd.trans (kJ25.sub (fun _ z => nomatch z))
      replace ht1 := kJ25.sqT ht1
      replace s0 := kJ25.dp _ s0
      replace s1 := kJ25.dp _ s1
      replace di := kJ25.dp _ di
      replace s2i := kJ25.dp _ s2i
      replace s2 := kJ25.dp _ s2
      replace s3 := kJ25.dp _ s3
      replace s4 := kJ25.dp _ s4
      replace hlb := kJ25.same _ _ hlb
      replace s5 := kJ25.dp _ s5
      replace hlx2 := kJ25.sqL hlx2
      replace p3 := p3.keep kJ25
      replace s6 := kJ25.dp _ s6
      replace s7 := kJ25.dp _ s7
      replace hpt := kJ25.same _ _ hpt
      replace hbody := kJ25.sqL hbody
      replace htA := kJ25.sqT htA
      replace hfbA := kJ25.same _ _ hfbA
      replace hvpA := kJ25.dp _ hvpA
      replace hvfA := kJ25.dp _ hvfA
      replace hflA := kJ25.same _ _ hflA
      replace hysA := kJ25.dpAll _ hysA
      replace hx1 := kJ25.sqT hx1
      replace hla := kJ25.same _ _ hla
      replace dfj := kJ25.dp _ dfj
      replace dfc := kJ25.dp _ dfc
      replace dfs := kJ25.dp _ dfs
      replace dtj := kJ25.dp _ dtj
      replace h_m0 := kJ25.same _ _ h_m0
      replace dfi := kJ25.dp _ dfi
      refine cat_dp (ds := [frD (.loop "j" by_ many 1), frD (.call (2 * by_))]) (es := [frD (.loop "i" (6 * by_) b c)]) dfs df1 (by show 2 + 1 ≤ sizeLine; decide) fun J26 vr kJ26 dvr => ?_
      replace kd := kd.trans (kJ26.sub (fun _ z => nomatch z))
      replace ht1 := kJ26.sqT ht1
      replace s0 := kJ26.dp _ s0
      replace s1 := kJ26.dp _ s1
      replace di := kJ26.dp _ di
      replace s2i := kJ26.dp _ s2i
      replace s2 := kJ26.dp _ s2
      replace s3 := kJ26.dp _ s3
      replace s4 := kJ26.dp _ s4
      replace hlb := kJ26.same _ _ hlb
      replace s5 := kJ26.dp _ s5
      replace hlx2 := kJ26.sqL hlx2
      replace p3 := p3.keep kJ26
      replace s6 := kJ26.dp _ s6
      replace s7 := kJ26.dp _ s7
      replace hpt := kJ26.same _ _ hpt
      replace hbody := kJ26.sqL hbody
      replace htA := kJ26.sqT htA
      replace hfbA := kJ26.same _ _ hfbA
      replace hvpA := kJ26.dp _ hvpA
      replace hvfA := kJ26.dp _ hvfA
      replace hflA := kJ26.same _ _ hflA
      replace hysA := kJ26.dpAll _ hysA
      replace hx1 := kJ26.sqT hx1
      replace hla := kJ26.same _ _ hla
      replace dfj := kJ26.dp _ dfj
      replace dfc := kJ26.dp _ dfc
      replace dfs := kJ26.dp _ dfs
      replace dtj := kJ26.dp _ dtj
      replace h_m0 := kJ26.same _ _ h_m0
      replace dfi := kJ26.dp _ dfi
      replace df1 := kJ26.dp _ df1
      replace dvr : Dp K J26 vr (pileD [.loop "j" by_ many 1, .call (2 * by_), .loop "i" (6 * by_) b c]) := dvr
      simp only [List.set]
      refine ⟨_, rfl, _, rfl, _, _, rfl, rfl, .inl ⟨by decide, by decide⟩, ?_⟩
      intro bx n_bx
      refine ⟨_, rfl, t1, _, _, _, rfl, rfl, ((Kx.new (ks := []) n_bx).sqT ht1), atI_nat (j := 0) rfl, upd_same, [(Sum.inr "i", .int (a)), (Sum.inr "j", .int (1))], rfl, (by show 2 ≤ 15; decide), ?_⟩
      rw [show mergeK [] [((Sum.inr "i" : Key), V.int (a)), ((Sum.inr "j" : Key), V.int (1))] = bxs [("i", a), ("j", 1)] by kernel_rfl]
      have kJ27 : Kx [] J26 (upd (upd J26 bx (.dK [])) bx (.dK (bxs [("i", a), ("j", 1)]))) := (Kx.new (ks := []) n_bx).grow n_bx
      have hbx : (upd (upd J26 bx (.dK [])) bx (.dK (bxs [("i", a), ("j", 1)]))) bx = some (.dK (bxs [("i", a), ("j", 1)])) := upd_same
      generalize upd (upd J26 bx (.dK [])) bx (.dK (bxs [("i", a), ("j", 1)])) = J27 at kJ27 hbx ⊢
      replace kd := kd.trans (kJ27.sub (fun _ z => nomatch z))
      replace ht1 := kJ27.sqT ht1
      replace s0 := kJ27.dp _ s0
      replace s1 := kJ27.dp _ s1
      replace di := kJ27.dp _ di
      replace s2i := kJ27.dp _ s2i
      replace s2 := kJ27.dp _ s2
      replace s3 := kJ27.dp _ s3
      replace s4 := kJ27.dp _ s4
      replace hlb := kJ27.same _ _ hlb
      replace s5 := kJ27.dp _ s5
      replace hlx2 := kJ27.sqL hlx2
      replace p3 := p3.keep kJ27
      replace s6 := kJ27.dp _ s6
      replace s7 := kJ27.dp _ s7
      replace hpt := kJ27.same _ _ hpt
      replace hbody := kJ27.sqL hbody
      replace htA := kJ27.sqT htA
      replace hfbA := kJ27.same _ _ hfbA
      replace hvpA := kJ27.dp _ hvpA
      replace hvfA := kJ27.dp _ hvfA
      replace hflA := kJ27.same _ _ hflA
      replace hysA := kJ27.dpAll _ hysA
      replace hx1 := kJ27.sqT hx1
      replace hla := kJ27.same _ _ hla
      replace dfj := kJ27.dp _ dfj
      replace dfc := kJ27.dp _ dfc
      replace dfs := kJ27.dp _ dfs
      replace dtj := kJ27.dp _ dtj
      replace h_m0 := kJ27.same _ _ h_m0
      replace dfi := kJ27.dp _ dfi
      replace df1 := kJ27.dp _ df1
      replace dvr := kJ27.dp _ dvr
      refine ⟨_, rfl, _, rfl, _, _, rfl, rfl, .inl ⟨by decide, by decide⟩, (by show 2 ≤ sizeLine; decide), fun fu n_fu => ?_⟩
      have kJ28 : Kx [] J27 (upd J27 fu (.tup [.str "again", .int (7 * by_)])) := .new n_fu
      have dfu : Dp K (upd J27 fu (.tup [.str "again", .int (7 * by_)])) (.ref fu) (faultD (some ("again", 7 * by_))) := tup_new n_fu (.cons (.str _) (.cons (.int _) .nil))
      generalize upd J27 fu (.tup [.str "again", .int (7 * by_)]) = J28 at kJ28 dfu ⊢
      replace kd := kd.trans (kJ28.sub (fun _ z => nomatch z))
      replace ht1 := kJ28.sqT ht1
      replace s0 := kJ28.dp _ s0
      replace s1 := kJ28.dp _ s1
      replace di := kJ28.dp _ di
      replace s2i := kJ28.dp _ s2i
      replace s2 := kJ28.dp _ s2
      replace s3 := kJ28.dp _ s3
      replace s4 := kJ28.dp _ s4
      replace hlb := kJ28.same _ _ hlb
      replace s5 := kJ28.dp _ s5
      replace hlx2 := kJ28.sqL hlx2
      replace p3 := p3.keep kJ28
      replace s6 := kJ28.dp _ s6
      replace s7 := kJ28.dp _ s7
      replace hpt := kJ28.same _ _ hpt
      replace hbody := kJ28.sqL hbody
      replace htA := kJ28.sqT htA
      replace hfbA := kJ28.same _ _ hfbA
      replace hvpA := kJ28.dp _ hvpA
      replace hvfA := kJ28.dp _ hvfA
      replace hflA := kJ28.same _ _ hflA
      replace hysA := kJ28.dpAll _ hysA
      replace hx1 := kJ28.sqT hx1
      replace hla := kJ28.same _ _ hla
      replace dfj := kJ28.dp _ dfj
      replace dfc := kJ28.dp _ dfc
      replace dfs := kJ28.dp _ dfs
      replace dtj := kJ28.dp _ dtj
      replace h_m0 := kJ28.same _ _ h_m0
      replace dfi := kJ28.dp _ dfi
      replace df1 := kJ28.dp _ df1
      replace dvr := kJ28.dp _ dvr
      replace hbx := kJ28.same _ _ hbx
      refine ⟨(by show 0 ≤ sizeLine; decide), fun el n_el => ?_⟩
      have kJ29 : Kx [] J28 (upd J28 el (.lst [])) := .new n_el
      have hel : (upd J28 el (.lst [])) el = some (.lst []) := upd_same
      generalize upd J28 el (.lst []) = J29 at kJ29 hel ⊢
      replace kd := kd.trans (kJ29.sub (fun _ z => nomatch z))
      replace ht1 := kJ29.sqT ht1
      replace s0 := kJ29.dp _ s0
      replace s1 := kJ29.dp _ s1
      replace di := kJ29.dp _ di
      replace s2i := kJ29.dp _ s2i
      replace s2 := kJ29.dp _ s2
      replace s3 := kJ29.dp _ s3
      replace s4 := kJ29.dp _ s4
      replace hlb := kJ29.same _ _ hlb
      replace s5 := kJ29.dp _ s5
      replace hlx2 := kJ29.sqL hlx2
      replace p3 := p3.keep kJ29
      replace s6 := kJ29.dp _ s6
      replace s7 := kJ29.dp _ s7
      replace hpt := kJ29.same _ _ hpt
      replace hbody := kJ29.sqL hbody
      replace htA := kJ29.sqT htA
      replace hfbA := kJ29.same _ _ hfbA
      replace hvpA := kJ29.dp _ hvpA
      replace hvfA := kJ29.dp _ hvfA
      replace hflA := kJ29.same _ _ hflA
      replace hysA := kJ29.dpAll _ hysA
      replace hx1 := kJ29.sqT hx1
      replace hla := kJ29.same _ _ hla
      replace dfj := kJ29.dp _ dfj
      replace dfc := kJ29.dp _ dfc
      replace dfs := kJ29.dp _ dfs
      replace dtj := kJ29.dp _ dtj
      replace h_m0 := kJ29.same _ _ h_m0
      replace dfi := kJ29.dp _ dfi
      replace df1 := kJ29.dp _ df1
      replace dvr := kJ29.dp _ dvr
      replace hbx := kJ29.same _ _ hbx
      replace dfu := kJ29.dp _ dfu
      refine ⟨(by show 6 ≤ sizeLine; decide), fun tt n_tt => ?_⟩
      have kJ30 : Kx [] J29 (upd J29 tt (.tup [.str "faulted", .int (7 * by_), .ref bx, vr, .ref fu, .ref el])) := .new n_tt
      have htt : SqT K (upd J29 tt (.tup [.str "faulted", .int (7 * by_), .ref bx, vr, .ref fu, .ref el])) tt [.str "faulted", .int (7 * by_), .ref bx, vr, .ref fu, .ref el] := .inl (.inl upd_same)
      generalize upd J29 tt (.tup [.str "faulted", .int (7 * by_), .ref bx, vr, .ref fu, .ref el]) = J30 at kJ30 htt ⊢
      replace kd := kd.trans (kJ30.sub (fun _ z => nomatch z))
      replace ht1 := kJ30.sqT ht1
      replace s0 := kJ30.dp _ s0
      replace s1 := kJ30.dp _ s1
      replace di := kJ30.dp _ di
      replace s2i := kJ30.dp _ s2i
      replace s2 := kJ30.dp _ s2
      replace s3 := kJ30.dp _ s3
      replace s4 := kJ30.dp _ s4
      replace hlb := kJ30.same _ _ hlb
      replace s5 := kJ30.dp _ s5
      replace hlx2 := kJ30.sqL hlx2
      replace p3 := p3.keep kJ30
      replace s6 := kJ30.dp _ s6
      replace s7 := kJ30.dp _ s7
      replace hpt := kJ30.same _ _ hpt
      replace hbody := kJ30.sqL hbody
      replace htA := kJ30.sqT htA
      replace hfbA := kJ30.same _ _ hfbA
      replace hvpA := kJ30.dp _ hvpA
      replace hvfA := kJ30.dp _ hvfA
      replace hflA := kJ30.same _ _ hflA
      replace hysA := kJ30.dpAll _ hysA
      replace hx1 := kJ30.sqT hx1
      replace hla := kJ30.same _ _ hla
      replace dfj := kJ30.dp _ dfj
      replace dfc := kJ30.dp _ dfc
      replace dfs := kJ30.dp _ dfs
      replace dtj := kJ30.dp _ dtj
      replace h_m0 := kJ30.same _ _ h_m0
      replace dfi := kJ30.dp _ dfi
      replace df1 := kJ30.dp _ df1
      replace dvr := kJ30.dp _ dvr
      replace hbx := kJ30.same _ _ hbx
      replace dfu := kJ30.dp _ dfu
      replace hel := kJ30.same _ _ hel
      refine ⟨10, by decide, eq_six (said := []) (pile := [.loop "j" by_ many 1, .call (2 * by_), .loop "i" (6 * by_) b c]) (fault := some ("again", 7 * by_)) hndA htA htt hfbA hbx hvpA dvr hvfA dfu (.inl (.inl hflA)) (.inl (.inl hel)) hysA .nil, ?_⟩
      exact q _ kd (p3.mono (by omega))
  · have hrun := call_i hL1 hL2 hD hby hr1
    refine ⟨_, rfl, body, _, callS many a b c "i", by_, _, rfl, hbody, hsts, call_ok _ _ _ _ hxo, hb.1, hb.2, hrun, fun G0 ftA fbA vpA vfA flA ysA kG0 htA hfbA hvpA hvfA hflA hysA hndA => ?_⟩
    replace kd := kd.trans (kG0.sub (fun _ z => nomatch z))
    replace ht1 := kG0.sqT ht1
    replace s0 := kG0.dp _ s0
    replace s1 := kG0.dp _ s1
    replace di := kG0.dp _ di
    replace s2i := kG0.dp _ s2i
    replace s2 := kG0.dp _ s2
    replace s3 := kG0.dp _ s3
    replace s4 := kG0.dp _ s4
    replace hlb := kG0.same _ _ hlb
    replace s5 := kG0.dp _ s5
    replace hlx2 := kG0.sqL hlx2
    replace p3 := p3.keep kG0
    replace s6 := kG0.dp _ s6
    replace s7 := kG0.dp _ s7
    replace hpt := kG0.same _ _ hpt
    replace hbody := kG0.sqL hbody
    simp only [List.set]
    refine ⟨_, rfl, t1, _, _, _, rfl, rfl, ht1, atI_nat (j := 0) rfl, _, rfl, t1, _, _, _, rfl, rfl, ht1, atI_nat (j := 1) rfl, _, rfl, t1, _, _, _, rfl, rfl, ht1, atI_nat (j := 2) rfl, a, b, c, z, l, rfl, hr1, fun J17 x1 la kJ17 hx1 hla => ?_⟩
    replace kd := kd.trans (kJ17.sub (fun _ z => nomatch z))
    replace ht1 := kJ17.sqT ht1
    replace s0 := kJ17.dp _ s0
    replace s1 := kJ17.dp _ s1
    replace di := kJ17.dp _ di
    replace s2i := kJ17.dp _ s2i
    replace s2 := kJ17.dp _ s2
    replace s3 := kJ17.dp _ s3
    replace s4 := kJ17.dp _ s4
    replace hlb := kJ17.same _ _ hlb
    replace s5 := kJ17.dp _ s5
    replace hlx2 := kJ17.sqL hlx2
    replace p3 := p3.keep kJ17
    replace s6 := kJ17.dp _ s6
    replace s7 := kJ17.dp _ s7
    replace hpt := kJ17.same _ _ hpt
    replace hbody := kJ17.sqL hbody
    replace htA := kJ17.sqT htA
    replace hfbA := kJ17.same _ _ hfbA
    replace hvpA := kJ17.dp _ hvpA
    replace hvfA := kJ17.dp _ hvfA
    replace hflA := kJ17.same _ _ hflA
    replace hysA := kJ17.dpAll _ hysA
    refine ⟨x1, _, rfl, hx1, rfl, _, _, rfl, _, _, rfl, rfl, ?_⟩
    simp only [List.set]
    refine ⟨_, rfl, _, rfl, (by show 5 ≤ sizeLine; decide), fun fj n_fj => ?_⟩
    have kJ18 : Kx [] J17 (upd J17 fj (.tup [.str "loop", .str "j", .int by_, .int many, .int 1])) := .new n_fj
    have dfj : Dp K (upd J17 fj (.tup [.str "loop", .str "j", .int by_, .int many, .int 1])) (.ref fj) (frD (.loop "j" by_ many 1)) := tup_new n_fj (.cons (.str _) (.cons (.str _) (.cons (.int _) (.cons (.int _) (.cons (.int _) .nil)))))
    generalize upd J17 fj (.tup [.str "loop", .str "j", .int by_, .int many, .int 1]) = J18 at kJ18 dfj ⊢
    replace kd := kd.trans (kJ18.sub (fun _ z => nomatch z))
    replace ht1 := kJ18.sqT ht1
    replace s0 := kJ18.dp _ s0
    replace s1 := kJ18.dp _ s1
    replace di := kJ18.dp _ di
    replace s2i := kJ18.dp _ s2i
    replace s2 := kJ18.dp _ s2
    replace s3 := kJ18.dp _ s3
    replace s4 := kJ18.dp _ s4
    replace hlb := kJ18.same _ _ hlb
    replace s5 := kJ18.dp _ s5
    replace hlx2 := kJ18.sqL hlx2
    replace p3 := p3.keep kJ18
    replace s6 := kJ18.dp _ s6
    replace s7 := kJ18.dp _ s7
    replace hpt := kJ18.same _ _ hpt
    replace hbody := kJ18.sqL hbody
    replace htA := kJ18.sqT htA
    replace hfbA := kJ18.same _ _ hfbA
    replace hvpA := kJ18.dp _ hvpA
    replace hvfA := kJ18.dp _ hvfA
    replace hflA := kJ18.same _ _ hflA
    replace hysA := kJ18.dpAll _ hysA
    replace hx1 := kJ18.sqT hx1
    replace hla := kJ18.same _ _ hla
    refine ⟨_, rfl, _, _, rfl, rfl, .inl ⟨by decide, by decide⟩, (by show 2 ≤ sizeLine; decide), fun fc n_fc => ?_⟩
    have kJ19 : Kx [] J18 (upd J18 fc (.tup [.str "call", .int (2 * by_)])) := .new n_fc
    have dfc : Dp K (upd J18 fc (.tup [.str "call", .int (2 * by_)])) (.ref fc) (frD (.call (2 * by_))) := tup_new n_fc (.cons (.str _) (.cons (.int _) .nil))
    generalize upd J18 fc (.tup [.str "call", .int (2 * by_)]) = J19 at kJ19 dfc ⊢
    replace kd := kd.trans (kJ19.sub (fun _ z => nomatch z))
    replace ht1 := kJ19.sqT ht1
    replace s0 := kJ19.dp _ s0
    replace s1 := kJ19.dp _ s1
    replace di := kJ19.dp _ di
    replace s2i := kJ19.dp _ s2i
    replace s2 := kJ19.dp _ s2
    replace s3 := kJ19.dp _ s3
    replace s4 := kJ19.dp _ s4
    replace hlb := kJ19.same _ _ hlb
    replace s5 := kJ19.dp _ s5
    replace hlx2 := kJ19.sqL hlx2
    replace p3 := p3.keep kJ19
    replace s6 := kJ19.dp _ s6
    replace s7 := kJ19.dp _ s7
    replace hpt := kJ19.same _ _ hpt
    replace hbody := kJ19.sqL hbody
    replace htA := kJ19.sqT htA
    replace hfbA := kJ19.same _ _ hfbA
    replace hvpA := kJ19.dp _ hvpA
    replace hvfA := kJ19.dp _ hvfA
    replace hflA := kJ19.same _ _ hflA
    replace hysA := kJ19.dpAll _ hysA
    replace hx1 := kJ19.sqT hx1
    replace hla := kJ19.same _ _ hla
    replace dfj := kJ19.dp _ dfj
    refine ⟨(by show 2 ≤ sizeLine; decide), fun fs n_fs => ?_⟩
    have kJ20 : Kx [] J19 (upd J19 fs (.tup [.ref fj, .ref fc])) := .new n_fs
    have dfs : Dp K (upd J19 fs (.tup [.ref fj, .ref fc])) (.ref fs) (pileD [.loop "j" by_ many 1, .call (2 * by_)]) := tup_new n_fs (.cons dfj (.cons dfc .nil))
    generalize upd J19 fs (.tup [.ref fj, .ref fc]) = J20 at kJ20 dfs ⊢
    replace kd := kd.trans (kJ20.sub (fun _ z => nomatch z))
    replace ht1 := kJ20.sqT ht1
    replace s0 := kJ20.dp _ s0
    replace s1 := kJ20.dp _ s1
    replace di := kJ20.dp _ di
    replace s2i := kJ20.dp _ s2i
    replace s2 := kJ20.dp _ s2
    replace s3 := kJ20.dp _ s3
    replace s4 := kJ20.dp _ s4
    replace hlb := kJ20.same _ _ hlb
    replace s5 := kJ20.dp _ s5
    replace hlx2 := kJ20.sqL hlx2
    replace p3 := p3.keep kJ20
    replace s6 := kJ20.dp _ s6
    replace s7 := kJ20.dp _ s7
    replace hpt := kJ20.same _ _ hpt
    replace hbody := kJ20.sqL hbody
    replace htA := kJ20.sqT htA
    replace hfbA := kJ20.same _ _ hfbA
    replace hvpA := kJ20.dp _ hvpA
    replace hvfA := kJ20.dp _ hvfA
    replace hflA := kJ20.same _ _ hflA
    replace hysA := kJ20.dpAll _ hysA
    replace hx1 := kJ20.sqT hx1
    replace hla := kJ20.same _ _ hla
    replace dfj := kJ20.dp _ dfj
    replace dfc := kJ20.dp _ dfc
    simp only [List.set]
    refine ⟨_, rfl, pt, _, _, _, rfl, rfl, .inl (.inl hpt), atI_nat (j := 1) rfl, (by show 2 ≤ sizeLine; decide), fun tj n_tj => ?_⟩
    have kJ22 : Kx [] J20 (upd J20 tj (.tup [.str "again", .str "j"])) := .new n_tj
    have dtj : Dp K (upd J20 tj (.tup [.str "again", .str "j"])) (.ref tj) (.tuple [.str "again", .str "j"]) := tup_new n_tj (.cons (.str _) (.cons (.str _) .nil))
    generalize upd J20 tj (.tup [.str "again", .str "j"]) = J22 at kJ22 dtj ⊢
    replace kd := kd.trans (kJ22.sub (fun _ z => nomatch z))
    replace ht1 := kJ22.sqT ht1
    replace s0 := kJ22.dp _ s0
    replace s1 := kJ22.dp _ s1
    replace di := kJ22.dp _ di
    replace s2i := kJ22.dp _ s2i
    replace s2 := kJ22.dp _ s2
    replace s3 := kJ22.dp _ s3
    replace s4 := kJ22.dp _ s4
    replace hlb := kJ22.same _ _ hlb
    replace s5 := kJ22.dp _ s5
    replace hlx2 := kJ22.sqL hlx2
    replace p3 := p3.keep kJ22
    replace s6 := kJ22.dp _ s6
    replace s7 := kJ22.dp _ s7
    replace hpt := kJ22.same _ _ hpt
    replace hbody := kJ22.sqL hbody
    replace htA := kJ22.sqT htA
    replace hfbA := kJ22.same _ _ hfbA
    replace hvpA := kJ22.dp _ hvpA
    replace hvfA := kJ22.dp _ hvfA
    replace hflA := kJ22.same _ _ hflA
    replace hysA := kJ22.dpAll _ hysA
    replace hx1 := kJ22.sqT hx1
    replace hla := kJ22.same _ _ hla
    replace dfj := kJ22.dp _ dfj
    replace dfc := kJ22.dp _ dfc
    replace dfs := kJ22.dp _ dfs
    refine ⟨smD (.again "i"), _, s6, dtj, sm_shaped (st := .again "i") hxo, again_shaped nm_j, _, rfl, ?_⟩
    rw [eqv_again]
    rw [show isAg (.again "i") "j" = false by decide +kernel]
    refine iteF ?_
    refine ⟨_, rfl, _, rfl, pt, _, _, _, rfl, rfl, .inl (.inl hpt), atI_nat (j := 0) rfl, (by show 1 ≤ sizeLine; decide), fun w1 n_w1 => ?_⟩
    have kJ23 : Kx [] J22 (upd J22 w1 (.tup [.str "back"])) := .new n_w1
    have sw1 : Dp K (upd J22 w1 (.tup [.str "back"])) (.ref w1) (smD .back) := tup_new n_w1 (.cons (.str _) .nil)
    generalize upd J22 w1 (.tup [.str "back"]) = J23 at kJ23 sw1 ⊢
    replace kd := kd.trans (kJ23.sub (fun _ z => nomatch z))
    replace ht1 := kJ23.sqT ht1
    replace s0 := kJ23.dp _ s0
    replace s1 := kJ23.dp _ s1
    replace di := kJ23.dp _ di
    replace s2i := kJ23.dp _ s2i
    replace s2 := kJ23.dp _ s2
    replace s3 := kJ23.dp _ s3
    replace s4 := kJ23.dp _ s4
    replace hlb := kJ23.same _ _ hlb
    replace s5 := kJ23.dp _ s5
    replace hlx2 := kJ23.sqL hlx2
    replace p3 := p3.keep kJ23
    replace s6 := kJ23.dp _ s6
    replace s7 := kJ23.dp _ s7
    replace hpt := kJ23.same _ _ hpt
    replace hbody := kJ23.sqL hbody
    replace htA := kJ23.sqT htA
    replace hfbA := kJ23.same _ _ hfbA
    replace hvpA := kJ23.dp _ hvpA
    replace hvfA := kJ23.dp _ hvfA
    replace hflA := kJ23.same _ _ hflA
    replace hysA := kJ23.dpAll _ hysA
    replace hx1 := kJ23.sqT hx1
    replace hla := kJ23.same _ _ hla
    replace dfj := kJ23.dp _ dfj
    replace dfc := kJ23.dp _ dfc
    replace dfs := kJ23.dp _ dfs
    replace dtj := kJ23.dp _ dtj
    refine ⟨(by show 2 ≤ sizeLine; decide), fun w2 n_w2 => ?_⟩
    have kJ24 : Kx [] J23 (upd J23 w2 (.tup [.str "again", .str "i"])) := .new n_w2
    have sw2 : Dp K (upd J23 w2 (.tup [.str "again", .str "i"])) (.ref w2) (smD (.again "i")) := tup_new n_w2 (.cons (.str _) (.cons (.str _) .nil))
    generalize upd J23 w2 (.tup [.str "again", .str "i"]) = J24 at kJ24 sw2 ⊢
    replace kd := kd.trans (kJ24.sub (fun _ z => nomatch z))
    replace ht1 := kJ24.sqT ht1
    replace s0 := kJ24.dp _ s0
    replace s1 := kJ24.dp _ s1
    replace di := kJ24.dp _ di
    replace s2i := kJ24.dp _ s2i
    replace s2 := kJ24.dp _ s2
    replace s3 := kJ24.dp _ s3
    replace s4 := kJ24.dp _ s4
    replace hlb := kJ24.same _ _ hlb
    replace s5 := kJ24.dp _ s5
    replace hlx2 := kJ24.sqL hlx2
    replace p3 := p3.keep kJ24
    replace s6 := kJ24.dp _ s6
    replace s7 := kJ24.dp _ s7
    replace hpt := kJ24.same _ _ hpt
    replace hbody := kJ24.sqL hbody
    replace htA := kJ24.sqT htA
    replace hfbA := kJ24.same _ _ hfbA
    replace hvpA := kJ24.dp _ hvpA
    replace hvfA := kJ24.dp _ hvfA
    replace hflA := kJ24.same _ _ hflA
    replace hysA := kJ24.dpAll _ hysA
    replace hx1 := kJ24.sqT hx1
    replace hla := kJ24.same _ _ hla
    replace dfj := kJ24.dp _ dfj
    replace dfc := kJ24.dp _ dfc
    replace dfs := kJ24.dp _ dfs
    replace dtj := kJ24.dp _ dtj
    replace sw1 := kJ24.dp _ sw1
    refine ⟨(by show 1 ≤ sizeLine; decide), fun w3 n_w3 => ?_⟩
    have kJ25 : Kx [] J24 (upd J24 w3 (.tup [.str "back"])) := .new n_w3
    have sw3 : Dp K (upd J24 w3 (.tup [.str "back"])) (.ref w3) (smD .back) := tup_new n_w3 (.cons (.str _) .nil)
    generalize upd J24 w3 (.tup [.str "back"]) = J25 at kJ25 sw3 ⊢
    replace kd := kd.trans (kJ25.sub (fun _ z => nomatch z))
    replace ht1 := kJ25.sqT ht1
    replace s0 := kJ25.dp _ s0
    replace s1 := kJ25.dp _ s1
    replace di := kJ25.dp _ di
    replace s2i := kJ25.dp _ s2i
    replace s2 := kJ25.dp _ s2
    replace s3 := kJ25.dp _ s3
    replace s4 := kJ25.dp _ s4
    replace hlb := kJ25.same _ _ hlb
    replace s5 := kJ25.dp _ s5
    replace hlx2 := kJ25.sqL hlx2
    replace p3 := p3.keep kJ25
    replace s6 := kJ25.dp _ s6
    replace s7 := kJ25.dp _ s7
    replace hpt := kJ25.same _ _ hpt
    replace hbody := kJ25.sqL hbody
    replace htA := kJ25.sqT htA
    replace hfbA := kJ25.same _ _ hfbA
    replace hvpA := kJ25.dp _ hvpA
    replace hvfA := kJ25.dp _ hvfA
    replace hflA := kJ25.same _ _ hflA
    replace hysA := kJ25.dpAll _ hysA
    replace hx1 := kJ25.sqT hx1
    replace hla := kJ25.same _ _ hla
    replace dfj := kJ25.dp _ dfj
    replace dfc := kJ25.dp _ dfc
    replace dfs := kJ25.dp _ dfs
    replace dtj := kJ25.dp _ dtj
    replace sw1 := kJ25.dp _ sw1
    replace sw2 := kJ25.dp _ sw2
    refine ⟨(by show 4 ≤ sizeLine; decide), fun l4 n_l4 => ?_⟩
    have kJ26 : Kx [] J25 (upd J25 l4 (.lst [r5, .ref w1, .ref w2, .ref w3])) := .new n_l4
    have hl4 : (upd J25 l4 (.lst [r5, .ref w1, .ref w2, .ref w3])) l4 = some (.lst [r5, .ref w1, .ref w2, .ref w3]) := upd_same
    generalize upd J25 l4 (.lst [r5, .ref w1, .ref w2, .ref w3]) = J26 at kJ26 hl4 ⊢
    replace kd := kd.trans (kJ26.sub (fun _ z => nomatch z))
    replace ht1 := kJ26.sqT ht1
    replace s0 := kJ26.dp _ s0
    replace s1 := kJ26.dp _ s1
    replace di := kJ26.dp _ di
    replace s2i := kJ26.dp _ s2i
    replace s2 := kJ26.dp _ s2
    replace s3 := kJ26.dp _ s3
    replace s4 := kJ26.dp _ s4
    replace hlb := kJ26.same _ _ hlb
    replace s5 := kJ26.dp _ s5
    replace hlx2 := kJ26.sqL hlx2
    replace p3 := p3.keep kJ26
    replace s6 := kJ26.dp _ s6
    replace s7 := kJ26.dp _ s7
    replace hpt := kJ26.same _ _ hpt
    replace hbody := kJ26.sqL hbody
    replace htA := kJ26.sqT htA
    replace hfbA := kJ26.same _ _ hfbA
    replace hvpA := kJ26.dp _ hvpA
    replace hvfA := kJ26.dp _ hvfA
    replace hflA := kJ26.same _ _ hflA
    replace hysA := kJ26.dpAll _ hysA
    replace hx1 := kJ26.sqT hx1
    replace hla := kJ26.same _ _ hla
    replace dfj := kJ26.dp _ dfj
    replace dfc := kJ26.dp _ dfc
    replace dfs := kJ26.dp _ dfs
    replace dtj := kJ26.dp _ dtj
    replace sw1 := kJ26.dp _ sw1
    replace sw2 := kJ26.dp _ sw2
    replace sw3 := kJ26.dp _ sw3
    refine ⟨lb, l4, _, _, rfl, rfl, hlb, hl4, (by show 5 + 4 ≤ sizeLine; decide), fun ea n_ea => ?_⟩
    have kJ27 : Kx [] J26 (upd J26 ea (.lst ([r0, .ref q1, .ref q2, .ref q3, .ref q4] ++ [r5, .ref w1, .ref w2, .ref w3]))) := .new n_ea
    have hea : SqL K (upd J26 ea (.lst ([r0, .ref q1, .ref q2, .ref q3, .ref q4] ++ [r5, .ref w1, .ref w2, .ref w3]))) ea [r0, .ref q1, .ref q2, .ref q3, .ref q4, r5, .ref w1, .ref w2, .ref w3] := .inl (.inl upd_same)
    generalize upd J26 ea (.lst ([r0, .ref q1, .ref q2, .ref q3, .ref q4] ++ [r5, .ref w1, .ref w2, .ref w3])) = J27 at kJ27 hea ⊢
    replace kd := kd.trans (kJ27.sub (fun _ z => nomatch z))
    replace ht1 := kJ27.sqT ht1
    replace s0 := kJ27.dp _ s0
    replace s1 := kJ27.dp _ s1
    replace di := kJ27.dp _ di
    replace s2i := kJ27.dp _ s2i
    replace s2 := kJ27.dp _ s2
    replace s3 := kJ27.dp _ s3
    replace s4 := kJ27.dp _ s4
    replace hlb := kJ27.same _ _ hlb
    replace s5 := kJ27.dp _ s5
    replace hlx2 := kJ27.sqL hlx2
    replace p3 := p3.keep kJ27
    replace s6 := kJ27.dp _ s6
    replace s7 := kJ27.dp _ s7
    replace hpt := kJ27.same _ _ hpt
    replace hbody := kJ27.sqL hbody
    replace htA := kJ27.sqT htA
    replace hfbA := kJ27.same _ _ hfbA
    replace hvpA := kJ27.dp _ hvpA
    replace hvfA := kJ27.dp _ hvfA
    replace hflA := kJ27.same _ _ hflA
    replace hysA := kJ27.dpAll _ hysA
    replace hx1 := kJ27.sqT hx1
    replace hla := kJ27.same _ _ hla
    replace dfj := kJ27.dp _ dfj
    replace dfc := kJ27.dp _ dfc
    replace dfs := kJ27.dp _ dfs
    replace dtj := kJ27.dp _ dtj
    replace sw1 := kJ27.dp _ sw1
    replace sw2 := kJ27.dp _ sw2
    replace sw3 := kJ27.dp _ sw3
    replace hl4 := kJ27.same _ _ hl4
    simp only [List.set]
    have hsts2 : DpAll K J27 [r0, .ref q1, .ref q2, .ref q3, .ref q4, r5, .ref w1, .ref w2, .ref w3] ((earlyS many a b c).map smD) := .cons s0 (.cons s1 (.cons s2 (.cons s3 (.cons s4 (.cons s5 (.cons sw1 (.cons sw2 (.cons sw3 .nil))))))))
    refine ⟨_, rfl, ?_⟩
    intro bxx n_bxx
    refine ⟨_, rfl, _, rfl, _, _, rfl, rfl, upd_same, [(Sum.inr "i", .int (z)), (Sum.inr "j", .int (many + 1))], rfl, (by show 2 ≤ 15; decide), ?_⟩
    rw [show mergeK [] [((Sum.inr "i" : Key), V.int (z)), ((Sum.inr "j" : Key), V.int (many + 1))] = bxs [("i", z), ("j", many + 1)] by kernel_rfl]
    have kJ28 : Kx [] J27 (upd (upd J27 bxx (.dK [])) bxx (.dK (bxs [("i", z), ("j", many + 1)]))) := (Kx.new (ks := []) n_bxx).grow n_bxx
    have hbxx : (upd (upd J27 bxx (.dK [])) bxx (.dK (bxs [("i", z), ("j", many + 1)]))) bxx = some (.dK (bxs [("i", z), ("j", many + 1)])) := upd_same
    generalize upd (upd J27 bxx (.dK [])) bxx (.dK (bxs [("i", z), ("j", many + 1)])) = J28 at kJ28 hbxx ⊢
    replace kd := kd.trans (kJ28.sub (fun _ z => nomatch z))
    replace ht1 := kJ28.sqT ht1
    replace s0 := kJ28.dp _ s0
    replace s1 := kJ28.dp _ s1
    replace di := kJ28.dp _ di
    replace s2i := kJ28.dp _ s2i
    replace s2 := kJ28.dp _ s2
    replace s3 := kJ28.dp _ s3
    replace s4 := kJ28.dp _ s4
    replace hlb := kJ28.same _ _ hlb
    replace s5 := kJ28.dp _ s5
    replace hlx2 := kJ28.sqL hlx2
    replace p3 := p3.keep kJ28
    replace s6 := kJ28.dp _ s6
    replace s7 := kJ28.dp _ s7
    replace hpt := kJ28.same _ _ hpt
    replace hbody := kJ28.sqL hbody
    replace htA := kJ28.sqT htA
    replace hfbA := kJ28.same _ _ hfbA
    replace hvpA := kJ28.dp _ hvpA
    replace hvfA := kJ28.dp _ hvfA
    replace hflA := kJ28.same _ _ hflA
    replace hysA := kJ28.dpAll _ hysA
    replace hx1 := kJ28.sqT hx1
    replace hla := kJ28.same _ _ hla
    replace dfj := kJ28.dp _ dfj
    replace dfc := kJ28.dp _ dfc
    replace dfs := kJ28.dp _ dfs
    replace dtj := kJ28.dp _ dtj
    replace sw1 := kJ28.dp _ sw1
    replace sw2 := kJ28.dp _ sw2
    replace sw3 := kJ28.dp _ sw3
    replace hl4 := kJ28.same _ _ hl4
    replace hea := kJ28.sqL hea
    replace hsts2 := kJ28.dpAll _ hsts2
    refine ⟨(by show 0 ≤ sizeLine; decide), fun ex n_ex => ?_⟩
    have kJ29 : Kx [] J28 (upd J28 ex (.tup [])) := .new n_ex
    have dex : Dp K (upd J28 ex (.tup [])) (.ref ex) (pileD []) := tup_new n_ex .nil
    generalize upd J28 ex (.tup []) = J29 at kJ29 dex ⊢
    replace kd := kd.trans (kJ29.sub (fun _ z => nomatch z))
    replace ht1 := kJ29.sqT ht1
    replace s0 := kJ29.dp _ s0
    replace s1 := kJ29.dp _ s1
    replace di := kJ29.dp _ di
    replace s2i := kJ29.dp _ s2i
    replace s2 := kJ29.dp _ s2
    replace s3 := kJ29.dp _ s3
    replace s4 := kJ29.dp _ s4
    replace hlb := kJ29.same _ _ hlb
    replace s5 := kJ29.dp _ s5
    replace hlx2 := kJ29.sqL hlx2
    replace p3 := p3.keep kJ29
    replace s6 := kJ29.dp _ s6
    replace s7 := kJ29.dp _ s7
    replace hpt := kJ29.same _ _ hpt
    replace hbody := kJ29.sqL hbody
    replace htA := kJ29.sqT htA
    replace hfbA := kJ29.same _ _ hfbA
    replace hvpA := kJ29.dp _ hvpA
    replace hvfA := kJ29.dp _ hvfA
    replace hflA := kJ29.same _ _ hflA
    replace hysA := kJ29.dpAll _ hysA
    replace hx1 := kJ29.sqT hx1
    replace hla := kJ29.same _ _ hla
    replace dfj := kJ29.dp _ dfj
    replace dfc := kJ29.dp _ dfc
    replace dfs := kJ29.dp _ dfs
    replace dtj := kJ29.dp _ dtj
    replace sw1 := kJ29.dp _ sw1
    replace sw2 := kJ29.dp _ sw2
    replace sw3 := kJ29.dp _ sw3
    replace hl4 := kJ29.same _ _ hl4
    replace hea := kJ29.sqL hea
    replace hsts2 := kJ29.dpAll _ hsts2
    replace hbxx := kJ29.same _ _ hbxx
    refine ⟨_, rfl, (by show 1 ≤ sizeLine; decide), fun rzx n_rzx => ?_⟩
    have kJ30 : Kx [] J29 (upd J29 rzx (.tup [.int z])) := .new n_rzx
    have drzx : Dp K (upd J29 rzx (.tup [.int z])) (.ref rzx) (rowD [z]) := tup_new n_rzx (.cons (.int _) .nil)
    generalize upd J29 rzx (.tup [.int z]) = J30 at kJ30 drzx ⊢
    replace kd := kd.trans (kJ30.sub (fun _ z => nomatch z))
    replace ht1 := kJ30.sqT ht1
    replace s0 := kJ30.dp _ s0
    replace s1 := kJ30.dp _ s1
    replace di := kJ30.dp _ di
    replace s2i := kJ30.dp _ s2i
    replace s2 := kJ30.dp _ s2
    replace s3 := kJ30.dp _ s3
    replace s4 := kJ30.dp _ s4
    replace hlb := kJ30.same _ _ hlb
    replace s5 := kJ30.dp _ s5
    replace hlx2 := kJ30.sqL hlx2
    replace p3 := p3.keep kJ30
    replace s6 := kJ30.dp _ s6
    replace s7 := kJ30.dp _ s7
    replace hpt := kJ30.same _ _ hpt
    replace hbody := kJ30.sqL hbody
    replace htA := kJ30.sqT htA
    replace hfbA := kJ30.same _ _ hfbA
    replace hvpA := kJ30.dp _ hvpA
    replace hvfA := kJ30.dp _ hvfA
    replace hflA := kJ30.same _ _ hflA
    replace hysA := kJ30.dpAll _ hysA
    replace hx1 := kJ30.sqT hx1
    replace hla := kJ30.same _ _ hla
    replace dfj := kJ30.dp _ dfj
    replace dfc := kJ30.dp _ dfc
    replace dfs := kJ30.dp _ dfs
    replace dtj := kJ30.dp _ dtj
    replace sw1 := kJ30.dp _ sw1
    replace sw2 := kJ30.dp _ sw2
    replace sw3 := kJ30.dp _ sw3
    replace hl4 := kJ30.same _ _ hl4
    replace hea := kJ30.sqL hea
    replace hsts2 := kJ30.dpAll _ hsts2
    replace hbxx := kJ30.same _ _ hbxx
    replace dex := kJ30.dp _ dex
    refine ⟨(by show 1 ≤ sizeLine; decide), fun lzx n_lzx => ?_⟩
    have kJ31 : Kx [] J30 (upd J30 lzx (.lst [.ref rzx])) := .new n_lzx
    have hlzx : (upd J30 lzx (.lst [.ref rzx])) lzx = some (.lst [.ref rzx]) := upd_same
    generalize upd J30 lzx (.lst [.ref rzx]) = J31 at kJ31 hlzx ⊢
    replace kd := kd.trans (kJ31.sub (fun _ z => nomatch z))
    replace ht1 := kJ31.sqT ht1
    replace s0 := kJ31.dp _ s0
    replace s1 := kJ31.dp _ s1
    replace di := kJ31.dp _ di
    replace s2i := kJ31.dp _ s2i
    replace s2 := kJ31.dp _ s2
    replace s3 := kJ31.dp _ s3
    replace s4 := kJ31.dp _ s4
    replace hlb := kJ31.same _ _ hlb
    replace s5 := kJ31.dp _ s5
    replace hlx2 := kJ31.sqL hlx2
    replace p3 := p3.keep kJ31
    replace s6 := kJ31.dp _ s6
    replace s7 := kJ31.dp _ s7
    replace hpt := kJ31.same _ _ hpt
    replace hbody := kJ31.sqL hbody
    replace htA := kJ31.sqT htA
    replace hfbA := kJ31.same _ _ hfbA
    replace hvpA := kJ31.dp _ hvpA
    replace hvfA := kJ31.dp _ hvfA
    replace hflA := kJ31.same _ _ hflA
    replace hysA := kJ31.dpAll _ hysA
    replace hx1 := kJ31.sqT hx1
    replace hla := kJ31.same _ _ hla
    replace dfj := kJ31.dp _ dfj
    replace dfc := kJ31.dp _ dfc
    replace dfs := kJ31.dp _ dfs
    replace dtj := kJ31.dp _ dtj
    replace sw1 := kJ31.dp _ sw1
    replace sw2 := kJ31.dp _ sw2
    replace sw3 := kJ31.dp _ sw3
    replace hl4 := kJ31.same _ _ hl4
    replace hea := kJ31.sqL hea
    replace hsts2 := kJ31.dpAll _ hsts2
    replace hbxx := kJ31.same _ _ hbxx
    replace dex := kJ31.dp _ dex
    replace drzx := kJ31.dp _ drzx
    refine ⟨_, rfl, lzx, many, _, rfl, rfl, hlzx, by omega, by omega, (by show 1 * many.toNat ≤ sizeLine; rw [sizeLine_eq]; omega), fun llx n_llx => ?_⟩
    have kJ32 : Kx [] J31 (upd J31 llx (.lst (List.replicate many.toNat [V.ref rzx]).flatten)) := .new n_llx
    have hllx : (upd J31 llx (.lst (List.replicate many.toNat [V.ref rzx]).flatten)) llx = some (.lst (List.replicate many.toNat [V.ref rzx]).flatten) := upd_same
    generalize upd J31 llx (.lst (List.replicate many.toNat [V.ref rzx]).flatten) = J32 at kJ32 hllx ⊢
    replace kd := kd.trans (kJ32.sub (fun _ z => nomatch z))
    replace ht1 := kJ32.sqT ht1
    replace s0 := kJ32.dp _ s0
    replace s1 := kJ32.dp _ s1
    replace di := kJ32.dp _ di
    replace s2i := kJ32.dp _ s2i
    replace s2 := kJ32.dp _ s2
    replace s3 := kJ32.dp _ s3
    replace s4 := kJ32.dp _ s4
    replace hlb := kJ32.same _ _ hlb
    replace s5 := kJ32.dp _ s5
    replace hlx2 := kJ32.sqL hlx2
    replace p3 := p3.keep kJ32
    replace s6 := kJ32.dp _ s6
    replace s7 := kJ32.dp _ s7
    replace hpt := kJ32.same _ _ hpt
    replace hbody := kJ32.sqL hbody
    replace htA := kJ32.sqT htA
    replace hfbA := kJ32.same _ _ hfbA
    replace hvpA := kJ32.dp _ hvpA
    replace hvfA := kJ32.dp _ hvfA
    replace hflA := kJ32.same _ _ hflA
    replace hysA := kJ32.dpAll _ hysA
    replace hx1 := kJ32.sqT hx1
    replace hla := kJ32.same _ _ hla
    replace dfj := kJ32.dp _ dfj
    replace dfc := kJ32.dp _ dfc
    replace dfs := kJ32.dp _ dfs
    replace dtj := kJ32.dp _ dtj
    replace sw1 := kJ32.dp _ sw1
    replace sw2 := kJ32.dp _ sw2
    replace sw3 := kJ32.dp _ sw3
    replace hl4 := kJ32.same _ _ hl4
    replace hea := kJ32.sqL hea
    replace hsts2 := kJ32.dpAll _ hsts2
    replace hbxx := kJ32.same _ _ hbxx
    replace dex := kJ32.dp _ dex
    replace drzx := kJ32.dp _ drzx
    replace hlzx := kJ32.same _ _ hlzx
    refine ⟨(by show 6 ≤ sizeLine; decide), fun ttx n_ttx => ?_⟩
    have kJ33 : Kx [] J32 (upd J32 ttx (.tup [.str "ended", .int 0, .ref bxx, .ref ex, .non, .ref llx])) := .new n_ttx
    have httx : SqT K (upd J32 ttx (.tup [.str "ended", .int 0, .ref bxx, .ref ex, .non, .ref llx])) ttx [.str "ended", .int 0, .ref bxx, .ref ex, .non, .ref llx] := .inl (.inl upd_same)
    generalize upd J32 ttx (.tup [.str "ended", .int 0, .ref bxx, .ref ex, .non, .ref llx]) = J33 at kJ33 httx ⊢
    replace kd := kd.trans (kJ33.sub (fun _ z => nomatch z))
    replace ht1 := kJ33.sqT ht1
    replace s0 := kJ33.dp _ s0
    replace s1 := kJ33.dp _ s1
    replace di := kJ33.dp _ di
    replace s2i := kJ33.dp _ s2i
    replace s2 := kJ33.dp _ s2
    replace s3 := kJ33.dp _ s3
    replace s4 := kJ33.dp _ s4
    replace hlb := kJ33.same _ _ hlb
    replace s5 := kJ33.dp _ s5
    replace hlx2 := kJ33.sqL hlx2
    replace p3 := p3.keep kJ33
    replace s6 := kJ33.dp _ s6
    replace s7 := kJ33.dp _ s7
    replace hpt := kJ33.same _ _ hpt
    replace hbody := kJ33.sqL hbody
    replace htA := kJ33.sqT htA
    replace hfbA := kJ33.same _ _ hfbA
    replace hvpA := kJ33.dp _ hvpA
    replace hvfA := kJ33.dp _ hvfA
    replace hflA := kJ33.same _ _ hflA
    replace hysA := kJ33.dpAll _ hysA
    replace hx1 := kJ33.sqT hx1
    replace hla := kJ33.same _ _ hla
    replace dfj := kJ33.dp _ dfj
    replace dfc := kJ33.dp _ dfc
    replace dfs := kJ33.dp _ dfs
    replace dtj := kJ33.dp _ dtj
    replace sw1 := kJ33.dp _ sw1
    replace sw2 := kJ33.dp _ sw2
    replace sw3 := kJ33.dp _ sw3
    replace hl4 := kJ33.same _ _ hl4
    replace hea := kJ33.sqL hea
    replace hsts2 := kJ33.dpAll _ hsts2
    replace hbxx := kJ33.same _ _ hbxx
    replace dex := kJ33.dp _ dex
    replace drzx := kJ33.dp _ drzx
    replace hlzx := kJ33.same _ _ hlzx
    replace hllx := kJ33.same _ _ hllx
    have hrepx := rep_dp drzx many.toNat
    generalize hGx : (List.replicate many.toNat [V.ref rzx]).flatten = gx at hrepx hllx
    have hysA2 : DpAll K _ ysA ((List.replicate many.toNat [z]).map rowD) := hysA
    generalize hSx : List.replicate many.toNat [z] = saidx at hrepx hysA2
    refine ⟨10, by decide, eq_six (said := saidx) (pile := []) (fault := none) hndA htA httx hfbA hbxx hvpA dex hvfA .non (.inl (.inl hflA)) (.inl (.inl hllx)) hysA2 hrepx, ?_⟩
    refine ⟨_, rfl, iteF ?_⟩
    intro bxy n_bxy
    refine ⟨_, rfl, t1, _, _, _, rfl, rfl, ((Kx.new (ks := []) n_bxy).sqT ht1), atI_nat (j := 0) rfl, _, rfl, _, _, rfl, rfl, upd_same, [(Sum.inr "i", .int (a)), (Sum.inr "j", .int (many + 1))], rfl, (by show 2 ≤ 15; decide), ?_⟩
    rw [show mergeK [] [((Sum.inr "i" : Key), V.int (a)), ((Sum.inr "j" : Key), V.int (many + 1))] = bxs [("i", a), ("j", many + 1)] by kernel_rfl]
    have kJ34 : Kx [] J33 (upd (upd J33 bxy (.dK [])) bxy (.dK (bxs [("i", a), ("j", many + 1)]))) := (Kx.new (ks := []) n_bxy).grow n_bxy
    have hbxy : (upd (upd J33 bxy (.dK [])) bxy (.dK (bxs [("i", a), ("j", many + 1)]))) bxy = some (.dK (bxs [("i", a), ("j", many + 1)])) := upd_same
    generalize upd (upd J33 bxy (.dK [])) bxy (.dK (bxs [("i", a), ("j", many + 1)])) = J34 at kJ34 hbxy ⊢
    replace kd := kd.trans (kJ34.sub (fun _ z => nomatch z))
    replace ht1 := kJ34.sqT ht1
    replace s0 := kJ34.dp _ s0
    replace s1 := kJ34.dp _ s1
    replace di := kJ34.dp _ di
    replace s2i := kJ34.dp _ s2i
    replace s2 := kJ34.dp _ s2
    replace s3 := kJ34.dp _ s3
    replace s4 := kJ34.dp _ s4
    replace hlb := kJ34.same _ _ hlb
    replace s5 := kJ34.dp _ s5
    replace hlx2 := kJ34.sqL hlx2
    replace p3 := p3.keep kJ34
    replace s6 := kJ34.dp _ s6
    replace s7 := kJ34.dp _ s7
    replace hpt := kJ34.same _ _ hpt
    replace hbody := kJ34.sqL hbody
    replace htA := kJ34.sqT htA
    replace hfbA := kJ34.same _ _ hfbA
    replace hvpA := kJ34.dp _ hvpA
    replace hvfA := kJ34.dp _ hvfA
    replace hflA := kJ34.same _ _ hflA
    replace hysA := kJ34.dpAll _ hysA
    replace hx1 := kJ34.sqT hx1
    replace hla := kJ34.same _ _ hla
    replace dfj := kJ34.dp _ dfj
    replace dfc := kJ34.dp _ dfc
    replace dfs := kJ34.dp _ dfs
    replace dtj := kJ34.dp _ dtj
    replace sw1 := kJ34.dp _ sw1
    replace sw2 := kJ34.dp _ sw2
    replace sw3 := kJ34.dp _ sw3
    replace hl4 := kJ34.same _ _ hl4
    replace hea := kJ34.sqL hea
    replace hsts2 := kJ34.dpAll _ hsts2
    replace hbxx := kJ34.same _ _ hbxx
    replace dex := kJ34.dp _ dex
    replace drzx := kJ34.dp _ drzx
    replace hlzx := kJ34.same _ _ hlzx
    replace hllx := kJ34.same _ _ hllx
    replace httx := kJ34.sqT httx
    refine ⟨(by show 0 ≤ sizeLine; decide), fun ey n_ey => ?_⟩
    have kJ35 : Kx [] J34 (upd J34 ey (.tup [])) := .new n_ey
    have dey : Dp K (upd J34 ey (.tup [])) (.ref ey) (pileD []) := tup_new n_ey .nil
    generalize upd J34 ey (.tup []) = J35 at kJ35 dey ⊢
    replace kd := kd.trans (kJ35.sub (fun _ z => nomatch z))
    replace ht1 := kJ35.sqT ht1
    replace s0 := kJ35.dp _ s0
    replace s1 := kJ35.dp _ s1
    replace di := kJ35.dp _ di
    replace s2i := kJ35.dp _ s2i
    replace s2 := kJ35.dp _ s2
    replace s3 := kJ35.dp _ s3
    replace s4 := kJ35.dp _ s4
    replace hlb := kJ35.same _ _ hlb
    replace s5 := kJ35.dp _ s5
    replace hlx2 := kJ35.sqL hlx2
    replace p3 := p3.keep kJ35
    replace s6 := kJ35.dp _ s6
    replace s7 := kJ35.dp _ s7
    replace hpt := kJ35.same _ _ hpt
    replace hbody := kJ35.sqL hbody
    replace htA := kJ35.sqT htA
    replace hfbA := kJ35.same _ _ hfbA
    replace hvpA := kJ35.dp _ hvpA
    replace hvfA := kJ35.dp _ hvfA
    replace hflA := kJ35.same _ _ hflA
    replace hysA := kJ35.dpAll _ hysA
    replace hx1 := kJ35.sqT hx1
    replace hla := kJ35.same _ _ hla
    replace dfj := kJ35.dp _ dfj
    replace dfc := kJ35.dp _ dfc
    replace dfs := kJ35.dp _ dfs
    replace dtj := kJ35.dp _ dtj
    replace sw1 := kJ35.dp _ sw1
    replace sw2 := kJ35.dp _ sw2
    replace sw3 := kJ35.dp _ sw3
    replace hl4 := kJ35.same _ _ hl4
    replace hea := kJ35.sqL hea
    replace hsts2 := kJ35.dpAll _ hsts2
    replace hbxx := kJ35.same _ _ hbxx
    replace dex := kJ35.dp _ dex
    replace drzx := kJ35.dp _ drzx
    replace hlzx := kJ35.same _ _ hlzx
    replace hllx := kJ35.same _ _ hllx
    replace httx := kJ35.sqT httx
    replace hbxy := kJ35.same _ _ hbxy
    refine ⟨_, rfl, t1, _, _, _, rfl, rfl, ht1, atI_nat (j := 0) rfl, (by show 1 ≤ sizeLine; decide), fun rzy n_rzy => ?_⟩
    have kJ36 : Kx [] J35 (upd J35 rzy (.tup [.int a])) := .new n_rzy
    have drzy : Dp K (upd J35 rzy (.tup [.int a])) (.ref rzy) (rowD [a]) := tup_new n_rzy (.cons (.int _) .nil)
    generalize upd J35 rzy (.tup [.int a]) = J36 at kJ36 drzy ⊢
    replace kd := kd.trans (kJ36.sub (fun _ z => nomatch z))
    replace ht1 := kJ36.sqT ht1
    replace s0 := kJ36.dp _ s0
    replace s1 := kJ36.dp _ s1
    replace di := kJ36.dp _ di
    replace s2i := kJ36.dp _ s2i
    replace s2 := kJ36.dp _ s2
    replace s3 := kJ36.dp _ s3
    replace s4 := kJ36.dp _ s4
    replace hlb := kJ36.same _ _ hlb
    replace s5 := kJ36.dp _ s5
    replace hlx2 := kJ36.sqL hlx2
    replace p3 := p3.keep kJ36
    replace s6 := kJ36.dp _ s6
    replace s7 := kJ36.dp _ s7
    replace hpt := kJ36.same _ _ hpt
    replace hbody := kJ36.sqL hbody
    replace htA := kJ36.sqT htA
    replace hfbA := kJ36.same _ _ hfbA
    replace hvpA := kJ36.dp _ hvpA
    replace hvfA := kJ36.dp _ hvfA
    replace hflA := kJ36.same _ _ hflA
    replace hysA := kJ36.dpAll _ hysA
    replace hx1 := kJ36.sqT hx1
    replace hla := kJ36.same _ _ hla
    replace dfj := kJ36.dp _ dfj
    replace dfc := kJ36.dp _ dfc
    replace dfs := kJ36.dp _ dfs
    replace dtj := kJ36.dp _ dtj
    replace sw1 := kJ36.dp _ sw1
    replace sw2 := kJ36.dp _ sw2
    replace sw3 := kJ36.dp _ sw3
    replace hl4 := kJ36.same _ _ hl4
    replace hea := kJ36.sqL hea
    replace hsts2 := kJ36.dpAll _ hsts2
    replace hbxx := kJ36.same _ _ hbxx
    replace dex := kJ36.dp _ dex
    replace drzx := kJ36.dp _ drzx
    replace hlzx := kJ36.same _ _ hlzx
    replace hllx := kJ36.same _ _ hllx
    replace httx := kJ36.sqT httx
    replace hbxy := kJ36.same _ _ hbxy
    replace dey := kJ36.dp _ dey
    refine ⟨(by show 1 ≤ sizeLine; decide), fun lzy n_lzy => ?_⟩
    have kJ37 : Kx [] J36 (upd J36 lzy (.lst [.ref rzy])) := .new n_lzy
    have hlzy : (upd J36 lzy (.lst [.ref rzy])) lzy = some (.lst [.ref rzy]) := upd_same
    generalize upd J36 lzy (.lst [.ref rzy]) = J37 at kJ37 hlzy ⊢
    replace kd := kd.trans (kJ37.sub (fun _ z => nomatch z))
    replace ht1 := kJ37.sqT ht1
    replace s0 := kJ37.dp _ s0
    replace s1 := kJ37.dp _ s1
    replace di := kJ37.dp _ di
    replace s2i := kJ37.dp _ s2i
    replace s2 := kJ37.dp _ s2
    replace s3 := kJ37.dp _ s3
    replace s4 := kJ37.dp _ s4
    replace hlb := kJ37.same _ _ hlb
    replace s5 := kJ37.dp _ s5
    replace hlx2 := kJ37.sqL hlx2
    replace p3 := p3.keep kJ37
    replace s6 := kJ37.dp _ s6
    replace s7 := kJ37.dp _ s7
    replace hpt := kJ37.same _ _ hpt
    replace hbody := kJ37.sqL hbody
    replace htA := kJ37.sqT htA
    replace hfbA := kJ37.same _ _ hfbA
    replace hvpA := kJ37.dp _ hvpA
    replace hvfA := kJ37.dp _ hvfA
    replace hflA := kJ37.same _ _ hflA
    replace hysA := kJ37.dpAll _ hysA
    replace hx1 := kJ37.sqT hx1
    replace hla := kJ37.same _ _ hla
    replace dfj := kJ37.dp _ dfj
    replace dfc := kJ37.dp _ dfc
    replace dfs := kJ37.dp _ dfs
    replace dtj := kJ37.dp _ dtj
    replace sw1 := kJ37.dp _ sw1
    replace sw2 := kJ37.dp _ sw2
    replace sw3 := kJ37.dp _ sw3
    replace hl4 := kJ37.same _ _ hl4
    replace hea := kJ37.sqL hea
    replace hsts2 := kJ37.dpAll _ hsts2
    replace hbxx := kJ37.same _ _ hbxx
    replace dex := kJ37.dp _ dex
    replace drzx := kJ37.dp _ drzx
    replace hlzx := kJ37.same _ _ hlzx
    replace hllx := kJ37.same _ _ hllx
    replace httx := kJ37.sqT httx
    replace hbxy := kJ37.same _ _ hbxy
    replace dey := kJ37.dp _ dey
    replace drzy := kJ37.dp _ drzy
    refine ⟨_, rfl, lzy, many, _, rfl, rfl, hlzy, by omega, by omega, (by show 1 * many.toNat ≤ sizeLine; rw [sizeLine_eq]; omega), fun lly n_lly => ?_⟩
    have kJ38 : Kx [] J37 (upd J37 lly (.lst (List.replicate many.toNat [V.ref rzy]).flatten)) := .new n_lly
    have hlly : (upd J37 lly (.lst (List.replicate many.toNat [V.ref rzy]).flatten)) lly = some (.lst (List.replicate many.toNat [V.ref rzy]).flatten) := upd_same
    generalize upd J37 lly (.lst (List.replicate many.toNat [V.ref rzy]).flatten) = J38 at kJ38 hlly ⊢
    replace kd := kd.trans (kJ38.sub (fun _ z => nomatch z))
    replace ht1 := kJ38.sqT ht1
    replace s0 := kJ38.dp _ s0
    replace s1 := kJ38.dp _ s1
    replace di := kJ38.dp _ di
    replace s2i := kJ38.dp _ s2i
    replace s2 := kJ38.dp _ s2
    replace s3 := kJ38.dp _ s3
    replace s4 := kJ38.dp _ s4
    replace hlb := kJ38.same _ _ hlb
    replace s5 := kJ38.dp _ s5
    replace hlx2 := kJ38.sqL hlx2
    replace p3 := p3.keep kJ38
    replace s6 := kJ38.dp _ s6
    replace s7 := kJ38.dp _ s7
    replace hpt := kJ38.same _ _ hpt
    replace hbody := kJ38.sqL hbody
    replace htA := kJ38.sqT htA
    replace hfbA := kJ38.same _ _ hfbA
    replace hvpA := kJ38.dp _ hvpA
    replace hvfA := kJ38.dp _ hvfA
    replace hflA := kJ38.same _ _ hflA
    replace hysA := kJ38.dpAll _ hysA
    replace hx1 := kJ38.sqT hx1
    replace hla := kJ38.same _ _ hla
    replace dfj := kJ38.dp _ dfj
    replace dfc := kJ38.dp _ dfc
    replace dfs := kJ38.dp _ dfs
    replace dtj := kJ38.dp _ dtj
    replace sw1 := kJ38.dp _ sw1
    replace sw2 := kJ38.dp _ sw2
    replace sw3 := kJ38.dp _ sw3
    replace hl4 := kJ38.same _ _ hl4
    replace hea := kJ38.sqL hea
    replace hsts2 := kJ38.dpAll _ hsts2
    replace hbxx := kJ38.same _ _ hbxx
    replace dex := kJ38.dp _ dex
    replace drzx := kJ38.dp _ drzx
    replace hlzx := kJ38.same _ _ hlzx
    replace hllx := kJ38.same _ _ hllx
    replace httx := kJ38.sqT httx
    replace hbxy := kJ38.same _ _ hbxy
    replace dey := kJ38.dp _ dey
    replace drzy := kJ38.dp _ drzy
    replace hlzy := kJ38.same _ _ hlzy
    refine ⟨(by show 6 ≤ sizeLine; decide), fun tty n_tty => ?_⟩
    have kJ39 : Kx [] J38 (upd J38 tty (.tup [.str "ended", .int 0, .ref bxy, .ref ey, .non, .ref lly])) := .new n_tty
    have htty : SqT K (upd J38 tty (.tup [.str "ended", .int 0, .ref bxy, .ref ey, .non, .ref lly])) tty [.str "ended", .int 0, .ref bxy, .ref ey, .non, .ref lly] := .inl (.inl upd_same)
    generalize upd J38 tty (.tup [.str "ended", .int 0, .ref bxy, .ref ey, .non, .ref lly]) = J39 at kJ39 htty ⊢
    replace kd := kd.trans (kJ39.sub (fun _ z => nomatch z))
    replace ht1 := kJ39.sqT ht1
    replace s0 := kJ39.dp _ s0
    replace s1 := kJ39.dp _ s1
    replace di := kJ39.dp _ di
    replace s2i := kJ39.dp _ s2i
    replace s2 := kJ39.dp _ s2
    replace s3 := kJ39.dp _ s3
    replace s4 := kJ39.dp _ s4
    replace hlb := kJ39.same _ _ hlb
    replace s5 := kJ39.dp _ s5
    replace hlx2 := kJ39.sqL hlx2
    replace p3 := p3.keep kJ39
    replace s6 := kJ39.dp _ s6
    replace s7 := kJ39.dp _ s7
    replace hpt := kJ39.same _ _ hpt
    replace hbody := kJ39.sqL hbody
    replace htA := kJ39.sqT htA
    replace hfbA := kJ39.same _ _ hfbA
    replace hvpA := kJ39.dp _ hvpA
    replace hvfA := kJ39.dp _ hvfA
    replace hflA := kJ39.same _ _ hflA
    replace hysA := kJ39.dpAll _ hysA
    replace hx1 := kJ39.sqT hx1
    replace hla := kJ39.same _ _ hla
    replace dfj := kJ39.dp _ dfj
    replace dfc := kJ39.dp _ dfc
    replace dfs := kJ39.dp _ dfs
    replace dtj := kJ39.dp _ dtj
    replace sw1 := kJ39.dp _ sw1
    replace sw2 := kJ39.dp _ sw2
    replace sw3 := kJ39.dp _ sw3
    replace hl4 := kJ39.same _ _ hl4
    replace hea := kJ39.sqL hea
    replace hsts2 := kJ39.dpAll _ hsts2
    replace hbxx := kJ39.same _ _ hbxx
    replace dex := kJ39.dp _ dex
    replace drzx := kJ39.dp _ drzx
    replace hlzx := kJ39.same _ _ hlzx
    replace hllx := kJ39.same _ _ hllx
    replace httx := kJ39.sqT httx
    replace hbxy := kJ39.same _ _ hbxy
    replace dey := kJ39.dp _ dey
    replace drzy := kJ39.dp _ drzy
    replace hlzy := kJ39.same _ _ hlzy
    replace hlly := kJ39.same _ _ hlly
    simp only [List.set]
    refine ⟨_, rfl, _, rfl, ea, _, earlyS many a b c, by_, _, rfl, hea, hsts2, early_ok _ _ _ _, hb.1, hb.2, early_law hL1 hL2 hD hby, fun G1 ftB fbB vpB vfB flB ysB kG1 htB hfbB hvpB hvfB hflB hysB hndB => ?_⟩
    replace kd := kd.trans (kG1.sub (fun _ z => nomatch z))
    replace ht1 := kG1.sqT ht1
    replace s0 := kG1.dp _ s0
    replace s1 := kG1.dp _ s1
    replace di := kG1.dp _ di
    replace s2i := kG1.dp _ s2i
    replace s2 := kG1.dp _ s2
    replace s3 := kG1.dp _ s3
    replace s4 := kG1.dp _ s4
    replace hlb := kG1.same _ _ hlb
    replace s5 := kG1.dp _ s5
    replace hlx2 := kG1.sqL hlx2
    replace p3 := p3.keep kG1
    replace s6 := kG1.dp _ s6
    replace s7 := kG1.dp _ s7
    replace hpt := kG1.same _ _ hpt
    replace hbody := kG1.sqL hbody
    replace htA := kG1.sqT htA
    replace hfbA := kG1.same _ _ hfbA
    replace hvpA := kG1.dp _ hvpA
    replace hvfA := kG1.dp _ hvfA
    replace hflA := kG1.same _ _ hflA
    replace hysA := kG1.dpAll _ hysA
    replace hx1 := kG1.sqT hx1
    replace hla := kG1.same _ _ hla
    replace dfj := kG1.dp _ dfj
    replace dfc := kG1.dp _ dfc
    replace dfs := kG1.dp _ dfs
    replace dtj := kG1.dp _ dtj
    replace sw1 := kG1.dp _ sw1
    replace sw2 := kG1.dp _ sw2
    replace sw3 := kG1.dp _ sw3
    replace hl4 := kG1.same _ _ hl4
    replace hea := kG1.sqL hea
    replace hsts2 := kG1.dpAll _ hsts2
    replace hbxx := kG1.same _ _ hbxx
    replace dex := kG1.dp _ dex
    replace drzx := kG1.dp _ drzx
    replace hlzx := kG1.same _ _ hlzx
    replace hllx := kG1.same _ _ hllx
    replace httx := kG1.sqT httx
    replace hbxy := kG1.same _ _ hbxy
    replace dey := kG1.dp _ dey
    replace drzy := kG1.dp _ drzy
    replace hlzy := kG1.same _ _ hlzy
    replace hlly := kG1.same _ _ hlly
    replace htty := kG1.sqT htty
    refine ⟨_, rfl, ?_⟩
    have hrepy := rep_dp drzy many.toNat
    generalize hGy : (List.replicate many.toNat [V.ref rzy]).flatten = gy at hrepy hlly
    have hysB2 : DpAll K _ ysB ((List.replicate many.toNat [a]).map rowD) := hysB
    generalize hSy : List.replicate many.toNat [a] = saidy at hrepy hysB2
    refine ⟨10, by decide, eq_six (said := saidy) (pile := []) (fault := none) hndB htB htty hfbB hbxy hvpB dey hvfB .non (.inl (.inl hflB)) (.inl (.inl hlly)) hysB2 hrepy, ?_⟩
    exact q _ kd (p3.mono (by omega))
end
end K31
/-! the law -/
namespace K31
open PySem PySem.Spec PyProof.Rows L2
section
variable {P : Program} {w : World} {K : PySem.W.Frag} {mg : Str → Option Value} {base : Heap}
def spLaw (K : PySem.W.Frag) : Sp := fun vs H Q _ => ∃ (a : Addr) (ns : List Int), vs = [.ref a] ∧ SqL K H a (ns.map V.int) ∧ ∀ H', Q (.bl true) H'
theorem sc_law : FnScope ["_law_script", "_law_pen_here", "_law_turn", "_law_by"] ["_law_script"] (defScope s_law) :=
  ⟨rfl, rfl, rfl, by decide +kernel, rfl, by decide +kernel, by decide +kernel⟩
theorem ok_law (T : Txt w K mg) {f : Addr} {fd : FuncData} (F : FunD K "law" "law" (defArgs s_law) (defBody s_law) (defScope s_law) [] [] f fd) : FnOk P w K mg base CX0 11 f fd ["_law_script"] (spLaw K) := by
  have nd := sc_law.nd
  have G_pen := (gf_law_pen (P := P) (base := base) T)
  have G_draw := (gf_law_draw (P := P) (base := base) T)
  have G_n := (gf_law_nested_right (P := P) (base := base) T)
  have G_o := (gf_law_outer_right (P := P) (base := base) T)
  have G_b := (gf_law_begun_again_right (P := P) (base := base) T)
  have G_c := (gf_law_called_right (P := P) (base := base) T)
  have G_s := (gf_law_same_name_right (P := P) (base := base) T)
  refine F.ok sc_law (fun vs H Q E h => ?_) (fun cdv A outer s H vs Q E hr h => ?_)
  · obtain ⟨a, ns, rfl, _⟩ := h
    rfl
  obtain ⟨a, ns, rfl, ha, q⟩ := h
  have hu := hu_of hr
  refine ⟨_, PSs.nox (pss_cons (sT 1 nd (pe_callG G_pen (hr.mono (by decide)) (pa_cons (pv 0) pa_nil)))
    (pss_cons (ps_for PassesOwn.never rfl (pi_range1 (by rfl) T.range (pa_cons pe_int pa_nil)) (gN 2 nd)
      (pss_cons (sT 3 nd (pe_ix (r := rIxL K) ix_list (pe_lst (pa_cons pe_int (pa_cons pe_int (pa_cons pe_int (pa_cons pe_int pa_nil))))) (pe_callG G_draw (hr.mono (by decide)) (pa_cons (pv 1) (pa_cons pe_int pa_nil))) (fun _ _ => rfl)))
      (pss_cons (ps_if (PW.pt (pw_or (pt_not (pt_val (pe_callG G_n (hr.mono (by decide)) (pa_cons (pv 1) (pa_cons (pv 3) pa_nil))))) (pw_or1 (pt_not (pt_val (pe_callG G_o (hr.mono (by decide)) (pa_cons (pv 1) (pa_cons (pv 3) pa_nil))))))))
        (pss_one (ps_ret pe_bl))
        pss_nil)
      (pss_cons (ps_if (PW.pt (pw_or (pt_not (pt_val (pe_callG G_b (hr.mono (by decide)) (pa_cons (pv 1) (pa_cons (pv 3) pa_nil))))) (pw_or1 (pt_not (pt_val (pe_callG G_c (hr.mono (by decide)) (pa_cons (pv 1) (pa_cons (pv 3) pa_nil))))))))
        (pss_one (ps_ret pe_bl))
        pss_nil)
      (pss_one (ps_if (pt_not (pt_val (pe_callG G_s (hr.mono (by decide)) (pa_cons (pv 1) (pa_cons (pv 3) pa_nil)))))
        (pss_one (ps_ret pe_bl))
        pss_nil))))))
    (pss_one (ps_ret pe_bl)))), ?_⟩
  simp only [cxK, cxK2, L2.start, List.map, List.length, List.replicate, List.append, HAppend.hAppend, Append.append]
  refine ⟨_, rfl, a, ns, rfl, ha, fun H1 d k1 p1 => ?_⟩
  simp only [List.set]
  refine ⟨3, rfl, by decide, by decide, for_range (n := 3) (fun i σ H' => PenS K H' d (22 * (i : Int)) ∧ ∃ v2 v3, σ = [some (.ref a), some (.ref d), v2, v3]) ⟨p1.mono (by decide), none, none, rfl⟩ ?_ ?_⟩
  · rintro i σ H' hi ⟨p2, v2, v3, rfl⟩
    show tSeq _ _ _ _ _
    simp only [List.set]
    refine ⟨(by show 4 ≤ sizeLine; decide), fun l nl => ?_⟩
    have k3 : Kx [] H' (upd H' l (.lst [.int 10, .int 1, .int 7, .int 500])) := .new nl
    have l3 : SqL K (upd H' l (.lst [.int 10, .int 1, .int 7, .int 500])) l [.int 10, .int 1, .int 7, .int 500] := .inl (.inl upd_same)
    replace p2 := p2.keep k3
    generalize upd H' l (.lst [.int 10, .int 1, .int 7, .int 500]) = H2 at p2 l3 ⊢
    refine ⟨_, rfl, d, 4, _, rfl, by decide, by decide, by omega, p2, fun H3 r k4 p3 hr0 hr1 => ?_⟩
    obtain ⟨b, hb, hat⟩ : ∃ b : Int, b ∈ Bys ∧ atI [V.int 10, V.int 1, V.int 7, V.int 500] r = some (.int b) := by
      have e : r = 0 ∨ r = 1 ∨ r = 2 ∨ r = 3 := by omega
      rcases e with rfl | rfl | rfl | rfl
      · exact ⟨10, by decide, atI_nat (j := 0) rfl⟩
      · exact ⟨1, by decide, atI_nat (j := 1) rfl⟩
      · exact ⟨7, by decide, atI_nat (j := 2) rfl⟩
      · exact ⟨500, by decide, atI_nat (j := 3) rfl⟩
    refine ⟨l, _, _, _, rfl, rfl, k4.sqL l3, hat, ?_⟩
    simp only [List.set]
    refine ⟨_, rfl, _, rfl, d, b, _, rfl, hb, by omega, p3, fun H4 k5 p4 => ⟨_, rfl, iteF ?_⟩⟩
    refine ⟨_, rfl, _, rfl, d, b, _, rfl, hb, by omega, p4, fun H5 k6 p5 => ⟨_, rfl, iteF ?_⟩⟩
    refine ⟨_, rfl, _, rfl, d, b, _, rfl, hb, by omega, p5, fun H6 k7 p6 => ⟨_, rfl, iteF ?_⟩⟩
    refine ⟨_, rfl, _, rfl, d, b, _, rfl, hb, by omega, p6, fun H7 k8 p7 => ⟨_, rfl, iteF ?_⟩⟩
    refine ⟨_, rfl, _, rfl, d, b, _, rfl, hb, by omega, p7, fun H8 k9 p8 => ⟨_, rfl, iteF ?_⟩⟩
    refine ⟨p8.mono (by push_cast; omega), _, _, rfl⟩
  · rintro σ H' ⟨p2, v2, v3, rfl⟩
    exact q H'
end
end K31
/-! what the top tells: Txt -/
namespace K31
open PySem PySem.Spec PyProof.Rows L2
section
variable {w : World} {K : PySem.W.Frag} {h : Heap} {mg : Str → Option Value}
theorem atd (X : K.In h) (G : h.Ns mainGlobals mg) (c : He.SaysD fa fn K) {x nm : Str} {st : Stmt} {ks : List (Str × He.Dv)} {kws : List (Str × V)} (i j : Nat) (hd : fn[i]? = some ⟨(x, none), nm, nm, defArgs st, defBody st, defScope st, [], ks⟩) (hg : fa[j]? = some (.glo x))
    (e : (He.DefD.mk (x, none) nm nm (defArgs st) (defBody st) (defScope st) [] ks).kws K = kws) : AtD K mg x nm st kws := by
  obtain ⟨fd, F⟩ := c.def_ i hd
  rw [e] at F
  exact ⟨_, fd, F, He.glo_ok X G (c.fact j hg)⟩
theorem tupAt_ok {a : Addr} {vs : List V} (q0 : tupAtB K a vs = true) (H : Hp) : SqT K H a vs := by
  unfold tupAtB at q0
  cases q : K.lookup a with
  | none => rw [q] at q0; cases q0
  | some o =>
    obtain ⟨oc, od, dt, osl⟩ := o
    rw [q] at q0
    cases oc with
    | type c =>
      cases dt with
      | seq its n =>
        obtain ⟨h1, h2⟩ := Bool.and_eq_true_iff.mp (show (decide (c = "tuple") && (decide (its.size ≤ sizeLine) && He.relAll vs its.toList)) = true from q0)
        obtain ⟨h3, h4⟩ := Bool.and_eq_true_iff.mp h2
        exact .inr ⟨_, its, n, q, congrArg Value.type (of_decide_eq_true h1), rfl, of_decide_eq_true h3, He.relAll_ok h4⟩
      | _ => cases q0
    | _ => cases dt <;> cases q0
theorem rec_ok {k : Str} {vs : List V} (q : recB K k vs = true) : ∃ a, PySem.W.nsIn K (He.ga K "RECKONED") k = some (some (.ref a)) ∧ ∀ H, SqT K H a vs := by
  obtain ⟨h1, h2⟩ := Bool.and_eq_true_iff.mp q
  exact ⟨_, He.eqO_ok h1, fun H => tupAt_ok h2 H⟩
theorem exs (q : ex K = true) (i : Nat) {b : Bool} (hb : (exList K)[i]? = some b) : b = true := List.all_eq_true.mp (show (exList K).all id = true from q) b (List.mem_of_getElem? hb)
theorem txt (X : K.In h) (G : h.Ns mainGlobals mg) (c : He.SaysX fa fn tabs [] ex w h K) : Txt w K mg := by
  have d := c.t.d
  have E := fun i b hb => exs (K := K) c.more i (b := b) hb
  exact {
    isinstance := He.free_ok X G (d.fact 56 (f := .free "isinstance") rfl)
    int := He.free_ok X G (d.fact 57 (f := .free "int") rfl)
    all := He.free_ok X G (d.fact 58 (f := .free "all") rfl)
    len := He.free_ok X G (d.fact 59 (f := .free "len") rfl)
    range := He.free_ok X G (d.fact 60 (f := .free "range") rfl)
    abs := He.free_ok X G (d.fact 61 (f := .free "abs") rfl)
    dict := He.free_ok X G (d.fact 62 (f := .free "dict") rfl)
    list := He.free_ok X G (d.fact 63 (f := .free "list") rfl)
    zip := He.free_ok X G (d.fact 64 (f := .free "zip") rfl)
    tuple := He.free_ok X G (d.fact 65 (f := .free "tuple") rfl)
    sorted := He.free_ok X G (d.fact 66 (f := .free "sorted") rfl)
    enumerate := He.free_ok X G (d.fact 67 (f := .free "enumerate") rfl)
    frames := He.int_ok X G (d.fact 68 (f := .int "MOST_FRAMES" 50) rfl)
    great1 := He.int_ok X G (d.fact 69 (f := .int "MOST_NUMBER_loops" 1000000000000) rfl)
    great2 := He.int_ok X G (d.fact 70 (f := .int "MOST_NUMBER_reckon" 1000000000000) rfl)
    parts := ⟨_, He.glo_ok X G (d.fact 51 (f := .glo "PARTS") rfl), fun H => He.tupB_ok (E 0 _ rfl) H⟩
    plain := ⟨_, He.glo_ok X G (d.fact 52 (f := .glo "PLAIN_reckon") rfl), fun H => He.tupB_ok (E 1 _ rfl) H⟩
    both := ⟨_, He.glo_ok X G (d.fact 53 (f := .glo "BOTH_KINDS") rfl), fun H => He.tupB_ok (E 2 _ rfl) H⟩
    reck := by
      obtain ⟨es, n, q⟩ := c.t.tab 0 (t := (fun K => He.ga K "RECKONED", _)) rfl
      refine ⟨_, es, n, He.glo_ok X G (d.fact 54 (f := .glo "RECKONED") rfl), q, fun st ns => ?_⟩
      cases st with
      | set x e => exact rec_ok (E 3 _ rfl)
      | say es => exact ns.elim
      | call n => exact He.eqO_ok (E 6 _ rfl)
      | back => exact He.eqO_ok (E 7 _ rfl)
      | iff e n => exact rec_ok (E 5 _ rfl)
      | loop x a b c => exact rec_ok (E 4 _ rfl)
      | again x => exact He.eqO_ok (E 8 _ rfl)
      | stop => exact He.eqO_ok (E 9 _ rfl)
      | fin => exact He.eqO_ok (E 10 _ rfl)
    acts := by
      obtain ⟨es, n, q⟩ := c.t.tab 1 (t := (fun K => He.ga K "PLAIN_acts", _)) rfl
      refine ⟨_, es, n, He.glo_ok X G (d.fact 55 (f := .glo "PLAIN_acts") rfl), q, fun st => ?_⟩
      cases st with
      | set x e => exact ⟨_, He.eqO_ok (E 11 _ rfl), He.glo_ok X G (d.fact 19 (f := .glo "put_in_box") rfl)⟩
      | say es => exact ⟨_, He.eqO_ok (E 12 _ rfl), He.glo_ok X G (d.fact 20 (f := .glo "say_done") rfl)⟩
      | call n => exact He.eqO_ok (E 13 _ rfl)
      | back => exact He.eqO_ok (E 14 _ rfl)
      | iff e n => exact He.eqO_ok (E 15 _ rfl)
      | loop x a b c => exact He.eqO_ok (E 16 _ rfl)
      | again x => exact He.eqO_ok (E 17 _ rfl)
      | stop => exact He.eqO_ok (E 18 _ rfl)
      | fin => exact He.eqO_ok (E 19 _ rfl)
    around := by
      obtain ⟨fd, F⟩ := d.def_ 8 (d := d_around_init) rfl
      exact ⟨_, _, fd, He.glo_ok X G (d.fact 49 (f := .glo "Around") rfl), He.mkr_ok (d.fact 73 (f := .mkr "Around") rfl), He.cls_ok (d.fact 72 (f := .cls "Around") rfl), He.noat_ok (d.fact 74 (f := .noat "Around" "box_worths") rfl), He.noat_ok (d.fact 75 (f := .noat "Around" "row_worths") rfl), He.noat_ok (d.fact 76 (f := .noat "Around" "fit_bodies") rfl), He.noat_ok (d.fact 77 (f := .noat "Around" "fault_met") rfl), He.noat_ok (d.fact 78 (f := .noat "Around" "deep") rfl), F⟩
    is_number_loops := atd X G d 0 0 (st := s_is_number_loops) rfl rfl rfl
    line_behind := atd X G d 1 1 (st := s_line_behind) rfl rfl rfl
    go_behind := atd X G d 2 2 (st := s_go_behind) rfl rfl rfl
    again_behind := atd X G d 3 3 (st := s_again_behind) rfl rfl rfl
    closed_by := atd X G d 4 4 (st := s_closed_by) rfl rfl rfl
    is_beyond := atd X G d 5 5 (st := s_is_beyond) rfl rfl rfl
    loop_begun := atd X G d 6 6 (st := s_loop_begun) rfl rfl rfl
    loop_again := atd X G d 7 7 (st := s_loop_again) rfl rfl rfl
    need := atd X G d 9 8 (st := s_need) rfl rfl rfl
    is_number_reckon := atd X G d 10 9 (st := s_is_number_reckon) rfl rfl rfl
    bounded := atd X G d 11 10 (st := s_bounded) rfl rfl rfl
    by_sign := atd X G d 12 11 (st := s_by_sign) rfl rfl rfl
    of_worths := atd X G d 13 12 (st := s_of_worths) rfl rfl rfl
    come := atd X G d 14 13 (st := s_come) rfl rfl rfl
    reckon := atd X G d 15 14 (st := s_reckon) rfl rfl rfl
    has_line := atd X G d 16 15 (st := s_has_line) rfl rfl rfl
    fault_at := atd X G d 17 16 (st := s_fault_at) rfl rfl rfl
    expressions_of := atd X G d 18 17 (st := s_expressions_of) rfl rfl rfl
    worths_of := atd X G d 19 18 (st := s_worths_of) rfl rfl rfl
    put_in_box := atd X G d 20 19 (st := s_put_in_box) rfl rfl rfl
    say_done := atd X G d 21 20 (st := s_say_done) rfl rfl rfl
    jump_done := atd X G d 22 21 (st := s_jump_done) rfl rfl rfl
    call_done := atd X G d 23 22 (st := s_call_done) rfl rfl rfl
    back_done := atd X G d 24 23 (st := s_back_done) rfl rfl rfl
    choice_done := atd X G d 25 24 (st := s_choice_done) rfl rfl rfl
    halt_done := atd X G d 26 25 (st := s_halt_done) rfl rfl rfl
    move_done := atd X G d 27 26 (st := s_move_done) rfl rfl rfl
    gone_behind := atd X G d 28 27 (st := s_gone_behind) rfl rfl rfl
    line_done := atd X G d 29 28 (st := s_line_done) rfl rfl rfl
    numbers_of := atd X G d 30 29 (st := s_numbers_of) rfl rfl rfl
    known_of := atd X G d 31 30 (st := s_known_of) rfl rfl rfl
    as_state := atd X G d 32 31 (st := s_as_state) rfl rfl rfl
    first_state := atd X G d 33 32 (st := s_first_state) rfl rfl rfl
    line_of := atd X G d 34 33 (st := s_line_of) rfl rfl rfl
    step := atd X G d 35 34 (st := s_step) rfl rfl rfl
    walk := atd X G d 36 35 (st := s_walk) rfl rfl rfl
    law_pen := atd X G d 37 36 (st := s_law_pen) rfl rfl rfl
    law_draw := atd X G d 38 37 (st := s_law_draw) rfl rfl rfl
    law_number_said := atd X G d 39 38 (st := s_law_number_said) rfl rfl rfl
    law_loop_line := atd X G d 40 39 (st := s_law_loop_line) rfl rfl rfl
    law_rounds := atd X G d 41 40 (st := s_law_rounds) rfl rfl rfl
    law_three := atd X G d 42 41 (st := s_law_three) rfl rfl rfl
    law_comes_to := atd X G d 43 42 (st := s_law_comes_to) rfl rfl rfl
    law_nested_right := atd X G d 44 43 (st := s_law_nested_right) rfl rfl rfl
    law_outer_right := atd X G d 45 44 (st := s_law_outer_right) rfl rfl rfl
    law_begun_again_right := atd X G d 46 45 (st := s_law_begun_again_right) rfl rfl rfl
    law_called_right := atd X G d 47 46 (st := s_law_called_right) rfl rfl rfl
    law_same_name_right := atd X G d 48 47 (st := s_law_same_name_right) rfl rfl rfl
  }
end
end K31
namespace K31
open PySem PySem.Spec PyProof.Rows L2
theorem facts {P : Program} {w : World} {K : PySem.W.Frag} {h : Heap} {mg : Str → Option Value} {f : Addr} (X : K.In h) (G : h.Ns mainGlobals mg) (hfa : mg ("law" : Str) = some (.ref f)) (c : He.SaysX fa fn tabs [] ex w h K) :
    ∃ fd : FuncData, (∀ (s : Shared) (v : Value), BindsTo s fd ⟨[v], []⟩ [("_law_script", v)]) ∧ ∀ base : Heap, K.In base → base.Ns mainGlobals mg → FnOk P w K mg base CX0 11 f fd ["_law_script"] (spLaw K) := by
  have T := txt X G c
  obtain ⟨fd, F⟩ := c.t.d.defs (d := d_law) (by simp [fn, fnB])
  have e := hfa.symm.trans (He.glo_ok X G (c.t.d.facts (f := .glo "law") (by simp [fa, faB])))
  cases e
  have b := FunD.bindsA (ps := ["_law_script"]) F fun _ _ _ _ _ _ us hl => match us, hl with | [_], _ => rfl
  exact ⟨fd, fun s v => b s [v] rfl, fun base _ _ => ok_law T F⟩
end K31
open PySem PySem.W PySem.Calls PyProof.Rows
theorem PySem.Challenge.cw_numberedlines_k31_whole_loops_by_names_holds : PySem.Challenge.rw_numberedlines_k31_whole_loops_by_names.Holds := by
  w_on; o_law
  refine HandSHeadRun.head_any (r := OpenLaw.row PySem.Challenge.rw_numberedlines_k31_whole_loops_by_names) (q := view (OpenLaw.row PySem.Challenge.rw_numberedlines_k31_whole_loops_by_names).prog [95]) (H := K31.hk) (ob := K31.ob) (M := 4000) (loose := K31.loose) (d := HandSHeadRun.topDef (OpenLaw.row PySem.Challenge.rw_numberedlines_k31_whole_loops_by_names).prog 95) (kwd := []) K31.ob_eq
    (by kernel_rfl) (fun s => by kernel_rfl) K31.run (by kernel_rfl) (by kernel_rfl) (by kernel_rfl) (by rfl) (by first | assumption | decide +kernel) (by decide +kernel) ⟨rfl, rfl, rfl, rfl, rfl, by decide +kernel⟩ ?hw ?hc
  case hw => w_witness2
  case hc =>
    refine L2.walk_ofE (l := PySem.Challenge.rw_numberedlines_k31_whole_loops_by_names) (n := 63) (k := 11) (x := "_law_script") (CX := L2.CX0) rfl (by decide) (by kernel_rfl) ⟨rfl, by decide, by decide⟩ ?F (fun _ _ _ _ z => z)
    intro w mg fa h Y G hmg0
    obtain ⟨K, KX, c⟩ := Y
    have hmg : mg ("law" : PySem.Str) = some (.ref fa) := by
      have e : (HandSHeadRun.topDef (OpenLaw.row PySem.Challenge.rw_numberedlines_k31_whole_loops_by_names).prog 95).name = ("law" : PySem.Str) := by kernel_rfl
      rw [← e]
      exact hmg0
    obtain ⟨fd, hb, hF⟩ := K31.facts (P := (PySem.Challenge.rw_numberedlines_k31_whole_loops_by_names).prog) (w := w) KX G hmg c
    exact ⟨K, fd, K31.spLaw K, KX, hb, fun H a ns hl _ hS => ⟨a, ns, rfl, hS, fun _ => rfl⟩, hF⟩
