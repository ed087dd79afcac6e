import PyProof.Rows.All
import Wide.All
import OpenK.AllK
import Wide.FinOn
import KE.KStateDown
import HandS.Base
import HandS.Call
import HandS.Ends
import HandS.More
import HandS.Words
import HandS.WordsExc
import HandS.Defaults
import HandS.Head0
import HandS.Head1
import HandS.Head2
import HandS.HeadEnd
import HandS.HeadHook1
import HandS.HeadHook2
import PyProof.ListStr
import PyProof.StrOps2
import HandS.ForMost
import HandS.Conv
import HandS.Steps
import HandS.Style
import HandS.IsInst
import HandS.Replace
import HandS.DictTup
import HandS.Evl
import HandS.Small
import HandS.SetTxt0
import HandS.Strs
import HandS.DictComp
import PyProof.Draws
import HandS.Walk
import PySem.Challenge.RW_wordskips_k65_whole_weaves_unfolded
set_option Elab.async false
set_option linter.all false
set_option maxRecDepth 100000
set_option maxHeartbeats 0
namespace Wk
open PySem PySem.Spec PyProof.Rows L2
def top (i : Nat) : Stmt := PySem.Challenge.pw_wordskips_k65_whole_weaves_unfolded.main.body.getD i (.Pass ⟨0, 0, 0, 0⟩)
abbrev s_check_letters : Stmt := top 20
def d_check_letters : He.DefD := ⟨("check_letters", none), "check_letters", "check_letters", defArgs s_check_letters, defBody s_check_letters, defScope s_check_letters, [], []⟩
abbrev s_is_word : Stmt := top 21
def d_is_word : He.DefD := ⟨("is_word", none), "is_word", "is_word", defArgs s_is_word, defBody s_is_word, defScope s_is_word, [], []⟩
abbrev s_check_words : Stmt := top 22
def d_check_words : He.DefD := ⟨("check_words", none), "check_words", "check_words", defArgs s_check_words, defBody s_check_words, defScope s_check_words, [], []⟩
abbrev s_check_text : Stmt := top 23
def d_check_text : He.DefD := ⟨("check_text", none), "check_text", "check_text", defArgs s_check_text, defBody s_check_text, defScope s_check_text, [], []⟩
abbrev s_trace : Stmt := top 30
def d_trace : He.DefD := ⟨("trace", none), "trace", "trace", defArgs s_trace, defBody s_trace, defScope s_trace, [], []⟩
abbrev s_is_name : Stmt := top 39
def d_is_name : He.DefD := ⟨("is_name", none), "is_name", "is_name", defArgs s_is_name, defBody s_is_name, defScope s_is_name, [], []⟩
abbrev s_is_count : Stmt := top 40
def d_is_count : He.DefD := ⟨("is_count", none), "is_count", "is_count", defArgs s_is_count, defBody s_is_count, defScope s_is_count, [], []⟩
abbrev s_is_part : Stmt := top 41
def d_is_part : He.DefD := ⟨("is_part", none), "is_part", "is_part", defArgs s_is_part, defBody s_is_part, defScope s_is_part, [], []⟩
abbrev s_is_rule : Stmt := top 42
def d_is_rule : He.DefD := ⟨("is_rule", none), "is_rule", "is_rule", defArgs s_is_rule, defBody s_is_rule, defScope s_is_rule, [], []⟩
abbrev s_check_rules : Stmt := top 43
def d_check_rules : He.DefD := ⟨("check_rules", none), "check_rules", "check_rules", defArgs s_check_rules, defBody s_check_rules, defScope s_check_rules, [], []⟩
abbrev s_names_in : Stmt := top 44
def d_names_in : He.DefD := ⟨("names_in", none), "names_in", "names_in", defArgs s_names_in, defBody s_names_in, defScope s_names_in, [], []⟩
abbrev s_ordered : Stmt := top 45
def d_ordered : He.DefD := ⟨("ordered", none), "ordered", "ordered", defArgs s_ordered, defBody s_ordered, defScope s_ordered, [], []⟩
abbrev s_far : Stmt := top 52
def d_far : He.DefD := ⟨("far", none), "far", "far", defArgs s_far, defBody s_far, defScope s_far, [], []⟩
abbrev s_is_number : Stmt := top 64
def d_is_number : He.DefD := ⟨("is_number", none), "is_number", "is_number", defArgs s_is_number, defBody s_is_number, defScope s_is_number, [], []⟩
abbrev s_is_head : Stmt := top 65
def d_is_head : He.DefD := ⟨("is_head", none), "is_head", "is_head", defArgs s_is_head, defBody s_is_head, defScope s_is_head, [], []⟩
abbrev s_within : Stmt := top 66
def d_within : He.DefD := ⟨("within", none), "within", "within", defArgs s_within, defBody s_within, defScope s_within, [], []⟩
abbrev s_checked : Stmt := top 67
def d_checked : He.DefD := ⟨("checked", none), "checked", "checked", defArgs s_checked, defBody s_checked, defScope s_checked, [], []⟩
abbrev s_kept : Stmt := top 68
def d_kept : He.DefD := ⟨("kept", none), "kept", "kept", defArgs s_kept, defBody s_kept, defScope s_kept, [], []⟩
abbrev s_borders_of : Stmt := top 80
def d_borders_of : He.DefD := ⟨("borders_of", none), "borders_of", "borders_of", defArgs s_borders_of, defBody s_borders_of, defScope s_borders_of, [], []⟩
abbrev s_steps_down : Stmt := top 81
def d_steps_down : He.DefD := ⟨("steps_down", none), "steps_down", "steps_down", defArgs s_steps_down, defBody s_steps_down, defScope s_steps_down, [], []⟩
abbrev s_last_of : Stmt := top 82
def d_last_of : He.DefD := ⟨("last_of", none), "last_of", "last_of", defArgs s_last_of, defBody s_last_of, defScope s_last_of, [], []⟩
abbrev s_compared : Stmt := top 83
def d_compared : He.DefD := ⟨("compared", none), "compared", "compared", defArgs s_compared, defBody s_compared, defScope s_compared, [], []⟩
abbrev s_left_step : Stmt := top 84
def d_left_step : He.DefD := ⟨("left_step", none), "left_step", "left_step", defArgs s_left_step, defBody s_left_step, defScope s_left_step, [], []⟩
abbrev s_from_left : Stmt := top 85
def d_from_left : He.DefD := ⟨("from_left", none), "from_left", "from_left", defArgs s_from_left, defBody s_from_left, defScope s_from_left, [], []⟩
abbrev s_by_one_letter : Stmt := top 86
def d_by_one_letter : He.DefD := ⟨("by_one_letter", none), "by_one_letter", "by_one_letter", defArgs s_by_one_letter, defBody s_by_one_letter, defScope s_by_one_letter, [], []⟩
abbrev s_is_good_slide : Stmt := top 87
def d_is_good_slide : He.DefD := ⟨("is_good_slide", none), "is_good_slide", "is_good_slide", defArgs s_is_good_slide, defBody s_is_good_slide, defScope s_is_good_slide, [], []⟩
abbrev s_right_slide : Stmt := top 88
def d_right_slide : He.DefD := ⟨("right_slide", none), "right_slide", "right_slide", defArgs s_right_slide, defBody s_right_slide, defScope s_right_slide, [], []⟩
abbrev s_from_right : Stmt := top 89
def d_from_right : He.DefD := ⟨("from_right", none), "from_right", "from_right", defArgs s_from_right, defBody s_from_right, defScope s_from_right, [], []⟩
abbrev s_made : Stmt := top 91
def d_made : He.DefD := ⟨("made", none), "made", "made", defArgs s_made, defBody s_made, defScope s_made, [], []⟩
abbrev s_law_pen : Stmt := top 93
def d_law_pen : He.DefD := ⟨("_law_pen", none), "_law_pen", "_law_pen", defArgs s_law_pen, defBody s_law_pen, defScope s_law_pen, [], []⟩
abbrev s_law_draw : Stmt := top 94
def d_law_draw : He.DefD := ⟨("_law_draw", none), "_law_draw", "_law_draw", defArgs s_law_draw, defBody s_law_draw, defScope s_law_draw, [], []⟩
abbrev s_law_pick : Stmt := top 95
def d_law_pick : He.DefD := ⟨("_law_pick", none), "_law_pick", "_law_pick", defArgs s_law_pick, defBody s_law_pick, defScope s_law_pick, [], []⟩
abbrev s_law_letters : Stmt := top 96
def d_law_letters : He.DefD := ⟨("_law_letters", none), "_law_letters", "_law_letters", defArgs s_law_letters, defBody s_law_letters, defScope s_law_letters, [], []⟩
abbrev s_law_word : Stmt := top 97
def d_law_word : He.DefD := ⟨("_law_word", none), "_law_word", "_law_word", defArgs s_law_word, defBody s_law_word, defScope s_law_word, [], []⟩
abbrev s_law_ways : Stmt := top 98
def d_law_ways : He.DefD := ⟨("_law_ways", none), "_law_ways", "_law_ways", defArgs s_law_ways, defBody s_law_ways, defScope s_law_ways, [], []⟩
abbrev s_law_bent_tree : Stmt := top 99
def d_law_bent_tree : He.DefD := ⟨("_law_bent_tree", none), "_law_bent_tree", "_law_bent_tree", defArgs s_law_bent_tree, defBody s_law_bent_tree, defScope s_law_bent_tree, [], []⟩
abbrev s_law_bent : Stmt := top 100
def d_law_bent : He.DefD := ⟨("_law_bent", none), "_law_bent", "_law_bent", defArgs s_law_bent, defBody s_law_bent, defScope s_law_bent, [], []⟩
abbrev s_law_rules : Stmt := top 101
def d_law_rules : He.DefD := ⟨("_law_rules", none), "_law_rules", "_law_rules", defArgs s_law_rules, defBody s_law_rules, defScope s_law_rules, [], []⟩
abbrev s_law : Stmt := top 102
def d_law : He.DefD := ⟨("law", none), "law", "law", defArgs s_law, defBody s_law, defScope s_law, [], []⟩
abbrev s_WindowTurn_init : Stmt := inClass (top 28) 0
def d_WindowTurn_init : He.DefD := ⟨("WindowTurn", some "__init__"), "__init__", "WindowTurn.__init__", defArgs s_WindowTurn_init, defBody s_WindowTurn_init, defScope s_WindowTurn_init, [], []⟩
abbrev s_WindowTurn_does : Stmt := inClass (top 28) 1
def d_WindowTurn_does : He.DefD := ⟨("WindowTurn", some "does"), "does", "WindowTurn.does", defArgs s_WindowTurn_does, defBody s_WindowTurn_does, defScope s_WindowTurn_does, [], []⟩
abbrev s_Trace_init : Stmt := inClass (top 29) 0
def d_Trace_init : He.DefD := ⟨("Trace", some "__init__"), "__init__", "Trace.__init__", defArgs s_Trace_init, defBody s_Trace_init, defScope s_Trace_init, [], []⟩
abbrev s_Node_init : Stmt := inClass (top 46) 0
def d_Node_init : He.DefD := ⟨("Node", some "__init__"), "__init__", "Node.__init__", defArgs s_Node_init, defBody s_Node_init, defScope s_Node_init, [], []⟩
abbrev s_Nodes_init : Stmt := inClass (top 47) 0
def d_Nodes_init : He.DefD := ⟨("Nodes", some "__init__"), "__init__", "Nodes.__init__", defArgs s_Nodes_init, defBody s_Nodes_init, defScope s_Nodes_init, [], []⟩
abbrev s_Nodes_leaf : Stmt := inClass (top 47) 1
def d_Nodes_leaf : He.DefD := ⟨("Nodes", some "leaf"), "leaf", "Nodes.leaf", defArgs s_Nodes_leaf, defBody s_Nodes_leaf, defScope s_Nodes_leaf, [], []⟩
abbrev s_Nodes_pair : Stmt := inClass (top 47) 2
def d_Nodes_pair : He.DefD := ⟨("Nodes", some "pair"), "pair", "Nodes.pair", defArgs s_Nodes_pair, defBody s_Nodes_pair, defScope s_Nodes_pair, [], []⟩
abbrev s_Nodes_often : Stmt := inClass (top 47) 3
def d_Nodes_often : He.DefD := ⟨("Nodes", some "often"), "often", "Nodes.often", defArgs s_Nodes_often, defBody s_Nodes_often, defScope s_Nodes_often, [], []⟩
abbrev s_Weave_init : Stmt := inClass (top 48) 0
def d_Weave_init : He.DefD := ⟨("Weave", some "__init__"), "__init__", "Weave.__init__", defArgs s_Weave_init, defBody s_Weave_init, defScope s_Weave_init, [], []⟩
abbrev s_Weave_woven : Stmt := inClass (top 48) 1
def d_Weave_woven : He.DefD := ⟨("Weave", some "woven"), "woven", "Weave.woven", defArgs s_Weave_woven, defBody s_Weave_woven, defScope s_Weave_woven, [], []⟩
abbrev s_Weave_letter : Stmt := inClass (top 48) 2
def d_Weave_letter : He.DefD := ⟨("Weave", some "letter"), "letter", "Weave.letter", defArgs s_Weave_letter, defBody s_Weave_letter, defScope s_Weave_letter, [], []⟩
abbrev s_Weave_part : Stmt := inClass (top 48) 3
def d_Weave_part : He.DefD := ⟨("Weave", some "part"), "part", "Weave.part", defArgs s_Weave_part, defBody s_Weave_part, defScope s_Weave_part, [], []⟩
abbrev s_Sums_init : Stmt := inClass (top 49) 0
def d_Sums_init : He.DefD := ⟨("Sums", some "__init__"), "__init__", "Sums.__init__", defArgs s_Sums_init, defBody s_Sums_init, defScope s_Sums_init, [], []⟩
abbrev s_Sums_plus : Stmt := inClass (top 49) 1
def d_Sums_plus : He.DefD := ⟨("Sums", some "plus"), "plus", "Sums.plus", defArgs s_Sums_plus, defBody s_Sums_plus, defScope s_Sums_plus, [], []⟩
abbrev s_Walk_init : Stmt := inClass (top 50) 0
def d_Walk_init : He.DefD := ⟨("Walk", some "__init__"), "__init__", "Walk.__init__", defArgs s_Walk_init, defBody s_Walk_init, defScope s_Walk_init, [], []⟩
abbrev s_Walk_turns : Stmt := inClass (top 50) 1
def d_Walk_turns : He.DefD := ⟨("Walk", some "turns"), "turns", "Walk.turns", defArgs s_Walk_turns, defBody s_Walk_turns, defScope s_Walk_turns, [], []⟩
abbrev s_Walk_summed : Stmt := inClass (top 50) 2
def d_Walk_summed : He.DefD := ⟨("Walk", some "summed"), "summed", "Walk.summed", defArgs s_Walk_summed, defBody s_Walk_summed, defScope s_Walk_summed, [], []⟩
abbrev s_Walk_solved : Stmt := inClass (top 50) 3
def d_Walk_solved : He.DefD := ⟨("Walk", some "solved"), "solved", "Walk.solved", defArgs s_Walk_solved, defBody s_Walk_solved, defScope s_Walk_solved, [], []⟩
abbrev s_Walk_lacking : Stmt := inClass (top 50) 4
def d_Walk_lacking : He.DefD := ⟨("Walk", some "lacking"), "lacking", "Walk.lacking", defArgs s_Walk_lacking, defBody s_Walk_lacking, defScope s_Walk_lacking, [], []⟩
abbrev s_Walk_crossed : Stmt := inClass (top 50) 5
def d_Walk_crossed : He.DefD := ⟨("Walk", some "crossed"), "crossed", "Walk.crossed", defArgs s_Walk_crossed, defBody s_Walk_crossed, defScope s_Walk_crossed, [], []⟩
abbrev s_Walk_one_seam : Stmt := inClass (top 50) 6
def d_Walk_one_seam : He.DefD := ⟨("Walk", some "one_seam"), "one_seam", "Walk.one_seam", defArgs s_Walk_one_seam, defBody s_Walk_one_seam, defScope s_Walk_one_seam, [], []⟩
abbrev s_Walk_told_in : Stmt := inClass (top 50) 7
def d_Walk_told_in : He.DefD := ⟨("Walk", some "told_in"), "told_in", "Walk.told_in", defArgs s_Walk_told_in, defBody s_Walk_told_in, defScope s_Walk_told_in, [], []⟩
abbrev s_Far_init : Stmt := inClass (top 51) 0
def d_Far_init : He.DefD := ⟨("Far", some "__init__"), "__init__", "Far.__init__", defArgs s_Far_init, defBody s_Far_init, defScope s_Far_init, [], []⟩
abbrev s_Far_told_at : Stmt := inClass (top 51) 1
def d_Far_told_at : He.DefD := ⟨("Far", some "told_at"), "told_at", "Far.told_at", defArgs s_Far_told_at, defBody s_Far_told_at, defScope s_Far_told_at, [], []⟩
abbrev s_Searcher_init : Stmt := inClass (top 74) 0
def d_Searcher_init : He.DefD := ⟨("Searcher", some "__init__"), "__init__", "Searcher.__init__", defArgs s_Searcher_init, defBody s_Searcher_init, defScope s_Searcher_init, [], []⟩
def fn0 : List He.DefD := [d_check_letters, d_is_word, d_check_words, d_check_text, d_trace, d_is_name, d_is_count, d_is_part, d_is_rule, d_check_rules, d_names_in, d_ordered, d_far, d_is_number, d_is_head, d_within, d_checked, d_kept, d_borders_of, d_steps_down, d_last_of, d_compared, d_left_step, d_from_left, d_by_one_letter, d_is_good_slide, d_right_slide, d_from_right, d_made, d_law_pen]
def fn1 : List He.DefD := [d_law_draw, d_law_pick, d_law_letters, d_law_word, d_law_ways, d_law_bent_tree, d_law_bent, d_law_rules, d_law, d_WindowTurn_init, d_WindowTurn_does, d_Trace_init, d_Node_init, d_Nodes_init, d_Nodes_leaf, d_Nodes_pair, d_Nodes_often, d_Weave_init, d_Weave_woven, d_Weave_letter, d_Weave_part, d_Sums_init, d_Sums_plus, d_Walk_init, d_Walk_turns, d_Walk_summed, d_Walk_solved, d_Walk_lacking, d_Walk_crossed, d_Walk_one_seam]
def fn2 : List He.DefD := [d_Walk_told_in, d_Far_init, d_Far_told_at, d_Searcher_init]
def fn : List He.DefD := fn0 ++ (fn1 ++ (fn2))
def fa0 : List He.Fa := [.glo "check_letters", .glo "is_word", .glo "check_words", .glo "check_text", .glo "trace", .glo "is_name", .glo "is_count", .glo "is_part", .glo "is_rule", .glo "check_rules", .glo "names_in", .glo "ordered", .glo "far", .glo "is_number", .glo "is_head", .glo "within", .glo "checked", .glo "kept", .glo "borders_of", .glo "steps_down", .glo "last_of", .glo "compared", .glo "left_step", .glo "from_left", .glo "by_one_letter", .glo "is_good_slide", .glo "right_slide", .glo "from_right", .glo "made", .glo "_law_pen"]
def fa1 : List He.Fa := [.glo "_law_draw", .glo "_law_pick", .glo "_law_letters", .glo "_law_word", .glo "_law_ways", .glo "_law_bent_tree", .glo "_law_bent", .glo "_law_rules", .glo "law", .glo "WindowTurn", .glo "Trace", .glo "Node", .glo "Nodes", .glo "Weave", .glo "Sums", .glo "Walk", .glo "Far", .glo "Searcher", .free "len", .free "range", .free "isinstance", .free "str", .free "int", .free "bool", .free "tuple", .free "list", .free "set", .free "all", .free "any", .free "sum"]
def fa2 : List He.Fa := [.free "max", .free "min", .free "sorted", .free "enumerate", .free "abs", .int "MOST_WIDTH" 8, .int "MOST_WORDS" 3, .int "MOST_LETTERS" 5000, .int "MOST_RULES" 40, .int "MOST_PARTS" 8, .int "MOST_NAME" 8, .int "MOST_SIGNS" 60, .int "MOST_COUNT" 1000000000000000000000000000000, .int "MOST_CUT" 2000, .int "MOST_STATES" 64, .int "MOST_LEVELS" 40, .int "MOST_NODES" 3000, .int "MOST_TOLD" 3, .str "SMALL" "abcdefghijklmnopqrstuvwxyz", .str "CAPITALS" "ABCDEFGHIJKLMNOPQRSTUVWXYZ", .str "ALL_KNOWN" "all knowledge", .glo "FROM_LEFT", .glo "BY_ONE_STATE", .glo "FROM_RIGHT", .cls "WindowTurn", .mkr "WindowTurn", .noat "WindowTurn" "reads", .noat "WindowTurn" "numbers", .noat "WindowTurn" "slide", .noat "WindowTurn" "state"]
def fa3 : List He.Fa := [.meth "WindowTurn" "does", .cls "Trace", .mkr "Trace", .noat "Trace" "windows", .noat "Trace" "told", .noat "Trace" "cost", .cls "Node", .mkr "Node", .noat "Node" "letters", .noat "Node" "left", .noat "Node" "right", .noat "Node" "size", .noat "Node" "ends", .cls "Nodes", .mkr "Nodes", .noat "Nodes" "most", .noat "Nodes" "rows", .meth "Nodes" "leaf", .meth "Nodes" "pair", .meth "Nodes" "often", .cls "Weave", .mkr "Weave", .noat "Weave" "letters", .noat "Weave" "own_nodes", .noat "Weave" "own_root", .noat "Weave" "size", .meth "Weave" "woven", .meth "Weave" "letter", .meth "Weave" "part", .cls "Sums"]
def fa4 : List He.Fa := [.mkr "Sums", .noat "Sums" "cost", .noat "Sums" "windows", .noat "Sums" "told", .meth "Sums" "plus", .cls "Walk", .mkr "Walk", .noat "Walk" "searcher", .noat "Walk" "rows", .noat "Walk" "known", .noat "Walk" "seams", .meth "Walk" "turns", .meth "Walk" "summed", .meth "Walk" "solved", .meth "Walk" "lacking", .meth "Walk" "crossed", .meth "Walk" "one_seam", .meth "Walk" "told_in", .cls "Far", .mkr "Far", .noat "Far" "cost", .noat "Far" "windows", .noat "Far" "told", .noat "Far" "own_walk", .noat "Far" "own_root", .noat "Far" "own_last", .meth "Far" "told_at", .cls "Searcher", .mkr "Searcher", .noat "Searcher" "letters"]
def fa5 : List He.Fa := [.noat "Searcher" "width", .noat "Searcher" "states", .noat "Searcher" "nodes"]
def fa : List He.Fa := fa0 ++ (fa1 ++ (fa2 ++ (fa3 ++ (fa4 ++ (fa5)))))
def ex (K : PySem.W.Frag) : Bool := He.tupB K "FROM_LEFT" [.str "borders", .str "strict borders", .str "by letters"] && He.tupB K "BY_ONE_STATE" [.str "plain", .str "last letter", .str "letter behind"] && He.tupB K "FROM_RIGHT" [.str "bad letter", .str "good end", .str "both", .str "both and known"]
def loose0 : List PySem.Str := ["_wall", "SkipsError", "BadLetters", "BadWords", "BadText", "BadWidth", "TooMany", "BadTree", "BadLine", "BadWay", "OtherLetters", "BadRule", "Ring", "NoRule", "BadPlace", "SMALL", "MOST_WIDTH", "MOST_WORDS", "check_letters", "is_word", "check_words", "check_text", "fits", "slid", "MOST_LETTERS", "WindowTurn", "Trace", "trace", "MOST_RULES", "MOST_PARTS"]
def loose1 : List PySem.Str := ["MOST_NAME", "MOST_SIGNS", "MOST_COUNT", "MOST_CUT", "CAPITALS", "is_name", "is_count", "is_part", "is_rule", "check_rules", "names_in", "ordered", "Node", "Nodes", "Weave", "Sums", "Walk", "Far", "far", "DIGITS", "MOST_DEEP", "Signs", "read_head", "read_tree", "MOST_STATES", "MOST_LEVELS", "MOST_NODES", "MOST_TOLD", "is_number", "is_head"]
def loose2 : List PySem.Str := ["within", "checked", "kept", "renumbered", "led_to", "met_states", "alike_states", "tree_text", "Searcher", "FROM_LEFT", "BY_ONE_STATE", "FROM_RIGHT", "ALL_KNOWN", "borders_of", "steps_down", "last_of", "compared", "left_step", "from_left", "by_one_letter", "is_good_slide", "right_slide", "from_right", "Knower", "made", "_law_pen", "_law_draw", "_law_pick", "_law_letters", "_law_word"]
def loose3 : List PySem.Str := ["_law_ways", "_law_bent_tree", "_law_bent", "_law_rules"]
def loose : List PySem.Str := loose0 ++ (loose1 ++ (loose2 ++ (loose3)))
end Wk
namespace WkH
open Wk PySem PySem.Spec PyProof.Rows L2
/-- the hook: facts, defs, and one more Bool -/
def ads0 : List Nat := [3, 312, 311, 317, 316, 324, 323, 331, 330, 395, 394, 400, 399, 407, 406, 412, 411, 417, 416, 424, 423, 429, 428, 434, 433, 660, 659, 737, 736, 744]
def ads1 : List Nat := [743, 751, 750, 758, 757, 763, 762, 846, 845, 853, 852, 858, 857, 863, 862, 868, 867, 873, 872, 878, 877, 883, 882, 888, 887, 895, 894, 940, 939, 947]
def ads2 : List Nat := [946, 954, 953, 961, 960, 968, 967, 973, 972, 980, 979, 987, 986, 994, 993, 1001, 1000, 1006, 1005, 367, 366, 357, 356, 364, 363, 386, 385, 383, 382, 451]
def ads3 : List Nat := [450, 448, 447, 493, 492, 469, 468, 476, 475, 483, 482, 490, 489, 529, 528, 509, 508, 514, 513, 521, 520, 526, 525, 557, 556, 547, 546, 554, 553, 623]
def ads4 : List Nat := [622, 575, 574, 582, 581, 587, 586, 594, 593, 601, 600, 608, 607, 615, 614, 620, 619, 649, 648, 639, 638, 646, 645, 834, 833, 802, 801, 839, 840, 841]
def ads : List Nat := ads0 ++ (ads1 ++ (ads2 ++ (ads3 ++ (ads4))))
def obsX (g : Addr → Option Obj) : He.AlD × Bool := (He.obsD fa fn (He.frG g ads), ex (He.frG g ads))
def SaysX (K : PySem.W.Frag) : Prop := He.SaysD fa fn K ∧ ex K = true
def hookX : PySem.W.Hook where
  α := He.AlD × Bool
  obs := fun s => obsX s.heap.get?
  val := fun _ => (He.valD fn, true)
  says := fun _ h => ∃ K : PySem.W.Frag, K.In h ∧ SaysX K
  of := fun _ _ e => ⟨_, He.frG_in, congrArg (fun z : He.AlD × Bool => z.1) e, congrArg (fun z : He.AlD × Bool => z.2) e⟩
  keeps := fun _ _ _ ⟨K, hK, c⟩ k => ⟨K, PySem.W.Frag.In.keeps hK k, c⟩
abbrev R : PySem.W.OpenRow := PySem.W.OpenLaw.row PySem.Challenge.rw_wordskips_k65_whole_weaves_unfolded
abbrev hk : PySem.W.Hook := hookX
def ob (s : PySem.W.SharedT) : He.AlD × Bool := obsX (HandSHeadRun.getT s)
theorem ob_eq (s : PySem.W.SharedT) : ob s = hk.obs s.abs := by
  have e : HandSHeadRun.getT s = s.abs.heap.get? := funext (HandSHeadRun.getT_eq s)
  show obsX (HandSHeadRun.getT s) = obsX s.abs.heap.get?
  rw [e]
theorem run (w : World) : HandSHeadRun.RunEq R (PySem.W.view R.prog [102]) hk ob 9000 loose w := by
  intro os
  kernel_rfl
end WkH
set_option maxHeartbeats 4000000
namespace Wk
open PySem PySem.Spec PyProof.Rows L2

/-! ### texts as lists of code points -/
abbrev S (l : List Nat) : Str := ⟨l.toArray⟩
theorem S_len (l : List Nat) : (S l).length = l.length := by show l.toArray.size = _; simp
theorem S_app (a b : List Nat) : S a ++ S b = S (a ++ b) := by
  show Str.mk (a.toArray ++ b.toArray) = Str.mk (a ++ b).toArray
  simp
theorem S_inj {a b : List Nat} : S a = S b ↔ a = b := by
  constructor
  · intro h
    have h1 : a.toArray = b.toArray := congrArg Str.cps h
    simpa using congrArg Array.toList h1
  · intro h
    rw [h]
theorem S_eta (x : Str) : S x.cps.toList = x := by
  obtain ⟨a⟩ := x
  show Str.mk a.toList.toArray = Str.mk a
  simp

/-! ### named readings by values -/
abbrev RL := List V → Hp → VK → Prop
def rAddI : R2 := rI0 fun i j => .int (i + j)
def rSubI : R2 := rI0 fun i j => .int (i - j)
def rMulI : R2 := rI CMul fun i j => .int (i * j)
def rModI : R2 := rI (fun _ j => 0 < j) fun i j => .int (i % j)
def rDivI : R2 := rI CDiv fun i j => .int (i / j)
def rPowI : R2 := rI CPow fun i j => .int (i ^ j.toNat)
def rLtI : R2 := rI0 fun i j => .bl (decide (i < j))
def rLeI : R2 := rI0 fun i j => .bl (decide (i ≤ j))
def rGtI : R2 := rI0 fun i j => .bl (decide (j < i))
def rGeI : R2 := rI0 fun i j => .bl (decide (j ≤ i))
def rNegI : V → Hp → VK → Prop := rU fun i => .int (-i)
def rAddS : R2 := fun x y H Q => ∃ i j, x = .str i ∧ y = .str j ∧ i.length + j.length ≤ sizeLine ∧ Q (.str (i ++ j)) H
def repS (l : List Nat) (n : Nat) : List Nat := (List.replicate n l).flatten
def rMulS : R2 := fun x y H Q => ∃ (l : List Nat) (n : Nat), x = .str (S l) ∧ y = .int (n : Int) ∧ 1 ≤ n ∧ n ≤ 1000 ∧ l.length ≤ 10000 ∧ Q (.str (S (repS l n))) H
def rLenS : RL := fun xs H Q => ∃ z, xs = [.str z] ∧ z.length ≤ sizeLine ∧ Q (.int z.length) H
def rLenQ (K : PySem.W.Frag) : RL := fun xs H Q => ∃ p ys, xs = [.ref p] ∧ (SqL K H p ys ∨ SqT K H p ys) ∧ Q (.int ys.length) H
def rLenDK : RL := fun xs H Q => ∃ a kvs, xs = [V.ref a] ∧ H a = some (.dK kvs) ∧ Q (.int kvs.length) H
def rInt : RL := fun xs H Q => (∃ i, xs = [.int i] ∧ Q (.int i) H) ∨ ∃ k, xs = [.bl k] ∧ Q (.int (if k then 1 else 0)) H
def rAbs : RL := fun xs H Q => ∃ i, xs = [.int i] ∧ Q (.int (if i < 0 then -i else i)) H
def rMax2 : RL := fun xs H Q => ∃ i j, xs = [.int i, .int j] ∧ Q (.int (if j > i then j else i)) H
def rTupL (K : PySem.W.Frag) : RL := fun xs H Q => ∃ p ys, xs = [.ref p] ∧ ((SqL K H p ys ∧ ∀ l, H l = none → Q (.ref l) (upd H l (.tup ys))) ∨ (SqT K H p ys ∧ Q (.ref p) H))
def rListL (K : PySem.W.Frag) : RL := fun xs H Q => ∃ p ys, xs = [.ref p] ∧ (SqL K H p ys ∨ SqT K H p ys) ∧ ∀ l, H l = none → Q (.ref l) (upd H l (.lst ys))
def rListS : RL := fun xs H Q => ∃ l : List Nat, xs = [.str (S l)] ∧ l.length ≤ 1000 ∧ ∀ p, H p = none → Q (.ref p) (upd H p (.lst (l.map fun c => .str (S [c]))))
def rSortDK : RL := fun xs H Q => ∃ (a : Addr) (kvs : List (Key × V)) (ks : List Str), xs = [.ref a] ∧ Rd H a (.dK kvs) ∧ kvs.map (·.1) = ks.map Sum.inr ∧ ks.length < 64 ∧
    ∀ ys p, ys.Perm ks → sortedS ys = true → H p = none → Q (.ref p) (upd H p (.lst (ys.map V.str)))
def rJoin (K : PySem.W.Frag) : V → List V → Hp → VK → Prop := fun x xs H Q => ∃ a p, ∃ ys : List Str, x = .str a ∧ xs = [.ref p] ∧ (SqL K H p (ys.map V.str) ∨ SqT K H p (ys.map V.str)) ∧
    (ys.map (·.length)).sum + ys.length * a.length ≤ 16777216 ∧ Q (.str (Txt.join a ys)) H
def rSIdx : V → List V → Hp → VK → Prop := fun x xs H Q => ∃ a b i rest, x = .str a ∧ xs = [.str b] ∧ Builtin.Str.occurrences a b 0 a.length 1 = i :: rest ∧ Q (.int (i : Nat)) H
section
variable {X : Cx}
theorem o_addI : OpR X (binaryOp .Add) rAddI := op_add
theorem o_subI : OpR X (binaryOp .Sub) rSubI := op_sub
theorem o_mulI : OpR X (binaryOp .Mult) rMulI := op_mul
theorem o_modI : OpR X (binaryOp .Mod) rModI := op_mod
theorem o_divI : OpR X (binaryOp .FloorDiv) rDivI := op_fdiv
theorem o_powI : OpR X (binaryOp .Pow) rPowI := op_pow
theorem o_ltI : OpR X (compareOp .Lt) rLtI := op_lt
theorem o_leI : OpR X (compareOp .LtE) rLeI := op_le
theorem o_gtI : OpR X (compareOp .Gt) rGtI := op_gt
theorem o_geI : OpR X (compareOp .GtE) rGeI := op_ge
theorem u_negI : UnR X (unaryOp .USub) rNegI := un_neg
theorem o_addS : OpR X (binaryOp .Add) rAddS := op_add_str
theorem c_lenS : CallR X (.builtin "len") rLenS := by
  intro pins s σ H xs us Q I r h
  obtain ⟨z, rfl, hz, q⟩ := h
  exact call_len pins s σ H [.str z] us Q I r ⟨_, _, rfl, ⟨hz, rfl⟩, q⟩
theorem c_lenQ : CallR X (.builtin "len") (rLenQ X.K) := call_len_seq
theorem c_lenDK : CallR X (.builtin "len") rLenDK := call_lenD
theorem c_int : CallR X (.type "int") rInt := call_int1
theorem c_abs : CallR X (.builtin "abs") rAbs := call_abs
theorem c_max2 (hc : X.calm = true) : CallR X (.builtin "max") rMax2 := call_max2 hc
theorem c_tupL : CallR X (.type "tuple") (rTupL X.K) := call_tuple_of
theorem c_listL : CallR X (.type "list") (rListL X.K) := call_list_of
theorem c_sortDK (hc : X.calm = true) : CallR X (.builtin "sorted") rSortDK := call_sortedD hc
theorem m_join : MtR X "str.join" (rJoin X.K) := mt_join
theorem m_sidx : MtR X "str.index" rSIdx := mt_sindex

/-! ### text * int -/
theorem foldl_repl (a : Array Nat) : ∀ (n : Nat) (acc : Array Nat), (List.replicate n a).foldl (· ++ ·) acc = acc ++ (List.replicate n a.toList).flatten.toArray
  | 0, acc => by simp
  | n + 1, acc => by
    rw [List.replicate_succ, List.foldl_cons, foldl_repl a n (acc ++ a), List.replicate_succ, List.flatten_cons]
    apply Array.ext'
    simp
theorem repS_one (l : List Nat) : repS l 1 = l := by simp [repS]
theorem repS_nil (n : Nat) : repS [] n = [] := by
  unfold repS
  induction n with
  | zero => rfl
  | succ n ih => rw [List.replicate_succ, List.flatten_cons, ih]; rfl
theorem repS_length (l : List Nat) (n : Nat) : (repS l n).length = n * l.length := by
  unfold repS
  induction n with
  | zero => simp
  | succ n ih => rw [List.replicate_succ, List.flatten_cons, List.length_append, ih, Nat.succ_mul]; omega
theorem o_mulS : OpR X (binaryOp .Mult) rMulS := by
  intro pins s σ H x y v u Q I rx ry h
  obtain ⟨l, n, rfl, rfl, h1, h2, hl, q⟩ := h
  obtain ⟨t, rfl⟩ := rx
  obtain ⟨t', rfl⟩ := ry
  have hlen : (S l).length = l.length := S_len l
  have hb : n * l.length ≤ 10000000 := by
    have := Nat.mul_le_mul h2 hl
    omega
  refine PySem.P.mul_str (x := S l) (n := (n : Int)) (t := t) (u := t') ?_ ?_ ?_ ?_
  · have a1 : ¬ (n : Int) < -(2 ^ 63 : Int) := by omega
    have a2 : ¬ (n : Int) ≥ 2 ^ 63 := by omega
    rw [decide_eq_false a1, decide_eq_false a2]
    rfl
  · intro _ _
    rw [hlen]
    have hn : (0 : Int) < n := by omega
    have : (l.length : Int) * n ≤ 2 ^ 63 - 1 := by
      have e : (l.length : Int) * n = ((n * l.length : Nat) : Int) := by rw [Int.natCast_mul, Int.mul_comm]
      rw [e]; omega
    have := Int.le_ediv_of_mul_le hn this
    omega
  · intro _ _
    rw [hlen]
    have : (n : Int).toNat = n := by simp
    rw [this, Nat.mul_comm]
    show decide _ = false
    exact decide_eq_false (by have : (sizeLine : Nat) = 16777216 := sizeLine_eq; omega)
  · rw [if_neg (by omega)]
    by_cases e : ((n : Int) == 1 || (S l).length == 0) = true
    · rw [if_pos e]
      refine ⟨.str (S (repS l n)), H, ?_, ⟨t, ?_⟩, q⟩
      · first | exact I | exact I.tok _
      · rcases Bool.or_eq_true_iff.mp e with e | e
        · have : n = 1 := by have := beq_iff_eq.mp e; omega
          rw [this, repS_one]
        · have e2 := beq_iff_eq.mp e
          rw [hlen] at e2
          have : l = [] := List.eq_nil_of_length_eq_zero e2
          rw [this, repS_nil]
    · rw [if_neg e]
      have key : Str.mk ((List.replicate (n : Int).toNat (S l).cps).foldl (· ++ ·) #[]) = S (repS l n) := by
        rw [foldl_repl]
        simp [repS]
      rw [key]
      refine ⟨?_, .str (S (repS l n)), H, I.tok _, ⟨s.toks, rfl⟩, q⟩
      have : (S (repS l n)).length = n * l.length := by rw [S_len, repS_length]
      show (S (repS l n)).length ≤ sizeLine
      rw [this]
      have : (sizeLine : Nat) = 16777216 := sizeLine_eq
      omega

/-! ### list(text) -/
theorem c_listS (hc : X.calm = true) : CallR X (.type "list") rListS := by
  intro pins s σ H xs us Q I r h
  obtain ⟨l, rfl, hl, q⟩ := h
  obtain ⟨u, rfl, rx⟩ := vals1 r
  obtain ⟨t, rfl⟩ := rx
  have hsz : (S l).cps.size = l.length := by show l.toArray.size = _; simp
  refine PySem.call_list_str (I.ok.hd hc) (S l) t (fun h' tk acc c' hk hS ha => ?_) (by rw [hsz]; have : (sizeLine : Nat) = 16777216 := sizeLine_eq; omega)
  have hn : acc.size = l.length := by
    have := ha.1
    rw [hsz] at this
    exact this
  have rv : Vals (l.map fun c => V.str (S [c])) acc.toList := by
    refine vals_of_at (by simp [hn]) fun j x u hx hu => ?_
    have hj : j < l.length := by
      have := (List.getElem?_eq_some_iff.mp hx).1
      simpa using this
    have e1 : x = V.str (S [l[j]]) := by
      rw [List.getElem?_map, List.getElem?_eq_getElem hj] at hx
      exact (Option.some.inj hx).symm
    obtain ⟨c, tu, h1, h2⟩ := ha.2 j u (by simpa using hu)
    have hc2 : (S l).cps[j]? = some l[j] := by
      show l.toArray[j]? = some l[j]
      rw [List.getElem?_toArray]
      exact List.getElem?_eq_getElem hj
    rw [hc2] at h1
    rw [e1, h2, ← Option.some.inj h1]
    exact ⟨tu, rfl⟩
  refine ⟨.ref s.heap.objs.size, _, I.laid (t' := tk) (o := .lst (l.map fun c => V.str (S [c]))) hk (Nat.le_refl _) ?_, rfl, q _ (I.hok.fresh (Nat.le_refl _))⟩
  exact ⟨by rw [List.length_map]; have : (sizeLine : Nat) = 16777216 := sizeLine_eq; omega, acc.toList, c', rv, by rw [Array.toArray_toList]; exact hS⟩
end
end Wk
namespace Wk
open PySem PySem.Spec PyProof.Rows L2

/-! ### o.f as a target among others -/
def gAttr (K : PySem.W.Frag) (to : TE) (f : Str) : TG := fun v σ H Q => to σ H fun x H1 => ∃ a C dx fs, x = .ref a ∧ H1 a = some (.ins C dx fs) ∧ Cls K C ∧ NoAttr K C f ∧ fs.length < 1000 ∧ Q σ (upd H1 a (.ins C dx (putF f v fs)))
theorem pg_attr {X : Cx} {o : Expr} {f : Str} {pos : Pos} {to : TE} (ho : PE X o to) : PG X (.Attribute o f pos) (gAttr X.K to f) := by
  refine ⟨fun pins s σ H v u Q I r h => ?_⟩
  rw [arm_assign_Attribute]
  refine wpAny_bind (wpAny_holding (thn (ho.run pins s σ H _ I h) fun ov s1 ⟨x, H1, I1, rx, a, C, dx, fs, ex, ea, c, n, l, q⟩ => ?_))
  subst ex
  obtain rfl : ov = Value.ref a := rx
  refine wpAny_bind (wpAny_standAt (wpAny_bind (wpAny_holding (setattr_ok I1 ea c n l r fun s3 I3 => ?_))))
  exact wpAny_release ⟨σ, _, I3, q⟩

/-! ### len of a text or a list -/
def rLenA (K : PySem.W.Frag) : RL := fun xs H Q => rLenS xs H Q ∨ rLenQ K xs H Q
theorem c_lenA {X : Cx} : CallR X (.builtin "len") (rLenA X.K) := by
  intro pins s σ H xs us Q I r h
  rcases h with h | h
  · exact c_lenS pins s σ H xs us Q I r h
  · exact c_lenQ pins s σ H xs us Q I r h

/-! ### enumerate(text) -/
def IteS (x : Str) : It :=
  ⟨fun i _ => i < x.cps.size, fun i H v H' => ∃ T c, v = .ref T ∧ H T = none ∧ H' = upd H T (.tup [.int (i : Nat), .str ⟨#[c]⟩]) ∧ x.cps[i]? = some c, fun i _ => i = x.cps.size⟩
theorem turn_enumS {P : Program} {w : World} {K : PySem.W.Frag} {elts : List Expr} {kk : Nat} {tpos : Pos} (e it : Addr) (x : Str) (t : Tok) (ty : String) (hty : ty = "str_ascii_iterator" ∨ ty = "str_iterator") :
    Turn P w K (.Tuple elts kk tpos) (IteS x) [e, it] e (fun i h => (∃ old, IsEnum h e it ((i : Nat) : Int) old) ∧ h.IsStrIter it ty x t i ∧ e ≠ it) where
  mem := by simp
  obj := fun i h st b hb => by
    obtain ⟨⟨old, he⟩, ⟨o, ho, hc, hd⟩, _⟩ := st
    have e' : b = e ∨ b = it := by simpa using hb
    rcases e' with z | z
    · rw [z]; exact ⟨_, he, fun v q => nomatch q⟩
    · rw [z]; exact ⟨o, ho, fun v q => by rw [hd] at q; cases q⟩
  keep := fun i h h' st k => by
    obtain ⟨⟨old, he⟩, ⟨o, ho, r⟩, hne⟩ := st
    exact ⟨⟨old, k e (by simp) _ he⟩, ⟨o, k it (by simp) o ho, r⟩, hne⟩
  item := by
    intro X hP hw hK hc i pins s σ H E I hf st hg
    subst hP hw hK
    obtain ⟨⟨old, he⟩, hit, hne⟩ := st
    have hel : e < s.heap.objs.size := Heap.lt_size he
    have hil : it < s.heap.objs.size := by obtain ⟨_, q, _⟩ := hit; exact Heap.lt_size q
    have D : Draws X.prog X.w X.A.in1 it [it] x.cps.size (fun i v => ∃ c u, x.cps[i]? = some c ∧ v = Value.str ⟨#[c]⟩ u) (fun i h => h.IsStrIter it ty x t i) := by
      rcases hty with z | z
      · rw [z]; exact Draws.strAscii (A := X.A.in1) (I.ok.hd hc) it x t
      · rw [z]; exact Draws.strWide (A := X.A.in1) (I.ok.hd hc) it x t
    refine wpAny_pyNext_enum_itemD D he hit hg hne (by simp [hne]) fun u h' tk hu ho hit' hT hsz hk => ?_
    obtain ⟨c, tu, hcx, rfl⟩ := hu
    refine ⟨_, rfl, wpAny_letOwnedTupleGo_enum (s := { s with heap := h', toks := tk + 1 }) ho fun h'' he' sb => ?_⟩
    have hT2 : h''.get? s.heap.objs.size = some { cls := .type "tuple", data := .seq #[.int i tk, .str ⟨#[c]⟩ tu] } := (sb.2 _ (Nat.ne_of_gt hel)).trans hT
    have new : ObjOk X.prog X.w (upd H s.heap.objs.size (.tup [.int (i : Nat), .str ⟨#[c]⟩])) h'' s.heap.objs.size (.tup [.int (i : Nat), .str ⟨#[c]⟩]) :=
      ⟨by show 2 ≤ sizeLine; decide, [.int i tk, .str ⟨#[c]⟩ tu], .cons ⟨_, rfl⟩ (.cons ⟨_, rfl⟩ .nil), ⟨_, hT2, rfl, _, rfl⟩⟩
    have I1 : Inv X pins σ (upd H s.heap.objs.size (.tup [.int (i : Nat), .str ⟨#[c]⟩])) { s with heap := h'', toks := tk + 1 } :=
      I.turnedNew (ch := [e, it]) (fun b ob hb q => (sb.2 b (fun z => hb (by simp [z]))).trans (hk b ob (fun z => hb (by simp [z])) (fun z => hb (by simp [z])) q)) hf (Nat.le_refl _) new
    refine ⟨.ref s.heap.objs.size, _, I1, rfl, ⟨_, c, rfl, I.hok.fresh (Nat.le_refl _), rfl, hcx⟩, ⟨⟨.str ⟨#[c]⟩ tu, ?_⟩, ?_, hne⟩, fun b hb => ?_⟩
    · have e1 : ((i + 1 : Nat) : Int) = (i : Int) + 1 := by omega
      rw [e1]; exact he'
    · obtain ⟨o, ho2, r⟩ := hit'
      exact ⟨o, (sb.2 it (Ne.symm hne)).trans ho2, r⟩
    · have hb' : b < s.heap.objs.size := by
        have e' : b = e ∨ b = it := by simpa using hb
        rcases e' with z | z
        · rw [z]; exact hel
        · rw [z]; exact hil
      rw [upd_ne (Nat.ne_of_lt hb')]
      exact (hf b hb).1
  done := by
    intro X hP hw hK hc i pins s σ H E I hf st hg
    subst hP hw hK
    obtain ⟨⟨old, he⟩, hit, hne⟩ := st
    obtain ⟨f0, f1, f2, f3, f4, f5⟩ := hf it (by simp)
    have D : Draws X.prog X.w X.A.in1 it [it] x.cps.size (fun i v => ∃ c u, x.cps[i]? = some c ∧ v = Value.str ⟨#[c]⟩ u) (fun i h => h.IsStrIter it ty x t i) := by
      rcases hty with z | z
      · rw [z]; exact Draws.strAscii (A := X.A.in1) (I.ok.hd hc) it x t
      · rw [z]; exact Draws.strWide (A := X.A.in1) (I.ok.hd hc) it x t
    have hi : i = x.cps.size := hg
    subst hi
    exact wpAny_pyNext_enum_endD D he hit fun h' eb => ⟨rfl, I.turned (t' := s.toks) (fun b o hb q => eb b o hb q) f0 f1 f3 f4 f5⟩
  self := fun A i s Q E st h => let ⟨⟨_, he⟩, _⟩ := st; wpAny_pyIter_enum he h
def iEnumS (ta : TA) : TI := fun σ H R => ta σ H fun vs H1 => ∃ x, vs = [.str x] ∧ R (IteS x) H1
theorem pi_enumS {X : Cx} {e : Expr} {ta : TA} {p pos tpos : Pos} {elts : List Expr} {kk : Nat} (hg : Gl X "enumerate") (hm : X.mg "enumerate" = none) (ha : PA X [e] ta) (hs : starEach [e] X.env = [(false, eval e X.env)] := by rfl) :
    PI X (.Tuple elts kk tpos) (.Call (.Name "enumerate" p) [e] [] pos) (iEnumS ta) := by
  refine ⟨fun pins s σ H R I h => ?_⟩
  refine Call_ (ld_blt I hg hm boot_enumerate (PyProof.Rows.callWith_type1 (thn (ha.run pos pins s σ H _ I h) fun us s1 ⟨vs, H1, I1, r1, q1⟩ => ?_) hs rfl))
  obtain ⟨x, ex, q⟩ := q1
  subst ex
  cases r1 with
  | cons r rr =>
    cases rr
    obtain ⟨t, rfl⟩ := r
    refine call_enumerate_str fun h' he hit hsz hk => wpAny_pyIter_enum he ?_
    have I2 : Inv X pins σ H1 { s1 with heap := h' } := I1.kept (t' := s1.toks) hk
    have hty : strIterType x = "str_ascii_iterator" ∨ strIterType x = "str_iterator" := by
      unfold strIterType
      split <;> simp
    refine ⟨s1.heap.objs.size + 1, [s1.heap.objs.size + 1, s1.heap.objs.size], _, _, H1, rfl, I2, turn_enumS (s1.heap.objs.size + 1) s1.heap.objs.size x t _ hty, ⟨⟨.none, he⟩, hit, Nat.succ_ne_self _⟩, fun b hb => ?_, q⟩
    have e' : b = s1.heap.objs.size + 1 ∨ b = s1.heap.objs.size := by simpa using hb
    rcases e' with z | z
    · rw [z]; exact I1.fpOk (Nat.le_succ _) (I1.hok.fresh (Nat.le_succ _))
    · rw [z]; exact I1.fpOk (Nat.le_refl _) (I1.hok.fresh (Nat.le_refl _))

/-! ### set(text), the letters unlike -/
section
open Froz
variable {prog : Program} {w : World} {A : Around} {E : Value → Shared → Prop} {s : Shared}
theorem runD_ok : ∀ (cs : List Nat) (tk : Tok) (D : SD) (l : List Str), TxOk prog w D l → ∃ l', TxOk prog w (runD w cs tk D) l' ∧ l'.length = l.length + cs.length
  | [], _, _, l, h => ⟨l, h, rfl⟩
  | c :: r, tk, D, l, h => by
    obtain ⟨l', h1, h2⟩ := runD_ok r (tk + 2) _ _ (add_ok (k := sing c) tk h)
    refine ⟨l', h1, ?_⟩
    rw [h2, List.length_cons, List.length_cons]
    omega
theorem finU_at {a it : Addr} (hne : a ≠ it) {X Y Z : Obj} {D : SD} {n m : Nat} (ha : s.heap.get? a = some X) (hit : s.heap.get? it = some Y) : (finU s a "set" it D n m).heap.get? a = some (sObj "set" D) := by
  have h1 : (two s.heap a (sObj "set" D) it (itEnd n)).get? a = some (sObj "set" D) := PySem.Heap.get?_update_of_ne _ hne.symm (get_upd _ ha rfl)
  exact Heap.get?_push_of_some _ (Heap.get?_push_of_some _ h1)
theorem finU_ne {a it b : Addr} {D : SD} {n m : Nat} {o : Obj} (h1 : b ≠ a) (h2 : b ≠ it) (hb : s.heap.get? b = some o) : (finU s a "set" it D n m).heap.get? b = some o := by
  have h3 : (two s.heap a (sObj "set" D) it (itEnd n)).get? b = some o := PySem.Heap.get?_update_of_ne _ h2.symm (PySem.Heap.get?_update_of_ne _ h1.symm hb)
  exact Heap.get?_push_of_some _ (Heap.get?_push_of_some _ h3)
theorem set_loop {x : Str} {t : Tok} (hh : A.handled = none) (ha : x.cps.all (· < 128) = true) (hn : x.cps.toList.Nodup) (hn1 : x.cps.size ≤ 1000) (led : Bool) {h0 : Heap}
    {Q : Unit → Shared → Prop}
    (h : ∀ (h' : Heap) (tk : Nat) (D : SD) (l : List Str), h'.get? h0.objs.size = some (sObj "set" D) → TxOk prog w D l → l.length = x.cps.size →
      (∀ b o, b < h0.objs.size → h0.get? b = some o → h'.get? b = some o) → Q () { s with heap := h', toks := tk }) :
    wpAny (model prog w) A (pyIter (.str x t)) (fun v s' => wpAny (model prog w) A (do let _ ← runValue (.builtin "set.update.loop" ⟨[.ref h0.objs.size, v], []⟩); pure ()) Q E s') E
      { s with heap := h0.push { cls := .type "set", dict := none, data := .set #[] 0 (.fresh 0 0 led) } } := by
  have hS : (h0.push { cls := .type "set", dict := none, data := .set #[] 0 (.fresh 0 0 led) }).get? h0.objs.size = some { cls := .type "set", dict := none, data := .set #[] 0 (.fresh 0 0 led) } := Heap.get?_push_size _ rfl
  refine wpAny_pyIter_ascii ha ?_
  refine wpAny_bind (wpAny_runValue ?_)
  have hsz : (h0.push { cls := .type "set", dict := none, data := .set #[] 0 (.fresh 0 0 led) }).objs.size = h0.objs.size + 1 := Heap.size_push _ _
  have hne : h0.objs.size ≠ (h0.push { cls := .type "set", dict := none, data := .set #[] 0 (.fresh 0 0 led) }).objs.size := by rw [hsz]; omega
  have hS2 : ((h0.push { cls := .type "set", dict := none, data := .set #[] 0 (.fresh 0 0 led) }).push (itObj x t 0)).get? h0.objs.size = some (sObj "set" (#[], 0, .fresh 0 0 led)) := Heap.get?_push_of_some _ hS
  have hI : ((h0.push { cls := .type "set", dict := none, data := .set #[] 0 (.fresh 0 0 led) }).push (itObj x t 0)).get? (h0.push { cls := .type "set", dict := none, data := .set #[] 0 (.fresh 0 0 led) }).objs.size = some (itObj x t 0) := Heap.get?_push_size _ rfl
  have F0 : TxOk prog w (#[], 0, .fresh 0 0 led) [] := TxOk.nil (by cases led <;> rfl)
  refine code_update (P := prog) (w := w) (a := h0.objs.size) (it := (h0.push { cls := .type "set", dict := none, data := .set #[] 0 (.fresh 0 0 led) }).objs.size) hne (T := "set") (x := x) (u := t) hh x.cps.toList 0 (#[], 0, .fresh 0 0 led) [] _ rfl hS2 hI F0
    (fun _ _ z => by cases z) hn (by have e : x.cps.toList.length = x.cps.size := Array.length_toList; show 0 + x.cps.toList.length < scanBound; unfold scanBound; omega) ?_
  refine wpAny_pure ?_
  obtain ⟨l', g1, g2⟩ := runD_ok (prog := prog) (w := w) x.cps.toList s.toks (#[], 0, .fresh 0 0 led) [] F0
  have q := h (finU { s with heap := (h0.push { cls := .type "set", dict := none, data := .set #[] 0 (.fresh 0 0 led) }).push (itObj x t 0) } h0.objs.size "set" (h0.push { cls := .type "set", dict := none, data := .set #[] 0 (.fresh 0 0 led) }).objs.size (runD w x.cps.toList s.toks (#[], 0, .fresh 0 0 led)) (0 + x.cps.toList.length) x.cps.toList.length).heap
    (s.toks + 2 * x.cps.toList.length) _ l' (finU_at (Z := itObj x t 0) hne hS2 hI) g1 (by rw [g2]; simp) fun b o hb e => finU_ne (Nat.ne_of_lt hb) (by rw [hsz]; exact Nat.ne_of_lt (Nat.lt_succ_of_lt hb)) (Heap.get?_push_of_some _ (Heap.get?_push_of_some _ e))
  exact q
end
section
variable {prog : Program} {w : World} {A : Around} {E : Value → Shared → Prop} {s : Shared}
theorem callType_looks {T newId initId : String} {Bi : Builtin} {args : List Value} {Q Q₁ : Value → Shared → Prop} (ft : TypeCalled T newId initId)
    (entryI : entryFor table initId = some Bi)
    (hnew : codeAny (model prog w) A.in1 (.call (.builtin newId) ⟨.type T :: args, []⟩) (wants Q₁ E) s)
    (hnext : ∀ obj s₁, Q₁ obj s₁ → s₁.TypeIs obj T ∧ (∀ (M : Model) (A' : Around) (Q' : Unit → Shared → Prop) (E' : Value → Shared → Prop), Q' () s₁ → wpAny M A' (checkBuiltinCall initId ⟨obj :: args, []⟩) Q' E' s₁) ∧
      wpAny (model prog w) A.in1.in1 (Bi ⟨obj :: args, []⟩)
        (fun fin s' => match fin with | .done f => wants (fun r s₂ => r = .none ∧ Q obj s₂) E (.ok f) s' | .again c' => c'.quiet = true ∧ codeAny (model prog w) A.in1 c' (wants (fun r s₂ => r = .none ∧ Q obj s₂) E) s')
        (fun e s' => wants (fun r s₂ => r = .none ∧ Q obj s₂) E (.error e) s') s₁)
    (hct : checkTypeCall T ⟨args, []⟩ = pure ()) :
    wpAny (model prog w) A (call (.type T) args) Q E s := by
  obtain ⟨c, tl, hmro⟩ := ft.mro
  have hmade := ft.made
  have hsub := ft.sub
  refine wpAny_call (codeAny_of_tree ?_)
  show wpAny _ _ (callAny (.type T) _) _ _ _
  refine wpAny_pure ⟨Code.quiet_builtin _ (by decide +kernel), codeAny_builtin PySem.F.entry_type_call ?_⟩
  rw [Around.under_plain (weight_type_call_type T args []) rfl]
  have h1 := ft.notType
  have h2 := ft.canCreate
  repeat (any_goals (first | assumption | wp_step))
  refine codeAny_mono hnew fun r s₁ hr => ?_
  cases r with
  | error e => exact hr
  | ok fl =>
    cases fl with
    | ret obj =>
      obtain ⟨hT, hok, hsi⟩ := hnext _ _ hr
      have hli := ft.init.lookup
      have hbi := ft.init.bind obj
      repeat (any_goals (first | assumption | wp_step))
      refine codeAny_mono (codeAny_call_builtin ft.init.plain entryI (hok _ _ _ _ hsi)) fun r₂ s₂ hr₂ => ?_
      cases r₂ with
      | error e => exact hr₂
      | ok fl₂ =>
        cases fl₂ with
        | ret r =>
          obtain ⟨rfl, hq⟩ := hr₂
          repeat (any_goals (first | assumption | wp_step))
        | _ => exact hr₂.elim
    | _ => exact hr.elim
theorem call_set_txt {x : Str} {t : Tok} {Q : Value → Shared → Prop}
    (hh : A.handled = none) (ha : x.cps.all (· < 128) = true) (hn : x.cps.toList.Nodup) (hn1 : x.cps.size ≤ 1000)
    (h : ∀ (h' : Heap) (tk : Nat) (D : Froz.SD) (l : List Str), h'.get? s.heap.objs.size = some (Froz.sObj "set" D) → Froz.TxOk prog w D l → l.length = x.cps.size →
      (∀ b o, b < s.heap.objs.size → s.heap.get? b = some o → h'.get? b = some o) → Q (.ref s.heap.objs.size) { s with heap := h', toks := tk }) :
    wpAny (model prog w) A (call (.type "set") [.str x t]) Q E s := by
  refine callType_looks (Q₁ := fun obj s₁ => ∃ led : Bool, obj = .ref s.heap.objs.size ∧ s₁ = { s with heap := s.heap.push { cls := .type "set", dict := none, data := .set #[] 0 (.fresh 0 0 led) } }) PySem.F.called_set PySem.F.entry_set_init
    (code_set_new_1 (.str x t) fun led => ⟨led, rfl, rfl⟩) (fun obj s₁ h₁ => ?_) (PySem.F.typeCall_set_1 (.str x t))
  obtain ⟨led, rfl, rfl⟩ := h₁
  have hS : (s.heap.push { cls := .type "set", dict := none, data := .set #[] 0 (.fresh 0 0 led) }).get? s.heap.objs.size = some { cls := .type "set", dict := none, data := .set #[] 0 (.fresh 0 0 led) } := Heap.get?_push_size _ rfl
  refine ⟨⟨_, hS, rfl⟩, fun M A' Q' E' hq => check_set_init_1 ⟨_, hS, rfl⟩ hq, ?_⟩
  have hss := PySem.F.sub_str_set
  have hsf := PySem.F.sub_str_frozenset
  have hne : (Value.type "str" == Value.type "dict") = false := by decide
  have hT := typeIs_str { s with heap := s.heap.push { cls := .type "set", dict := none, data := .set #[] 0 (.fresh 0 0 led) } } x t
  unfold Builtin.«set.__init__» noKeywords Builtin.Frozenset.updateFrom
  generalize hPI : pyIter = PI
  wp_walk
  subst hPI
  exact set_loop (by simp [hh]) ha hn hn1 led fun h' tk D l a1 a2 a3 a4 => wpAny_pure ⟨rfl, h h' tk D l a1 a2 a3 a4⟩
end

def tLenSetS (ta : TE) : TE := fun σ H Q => ta σ H fun x H1 => ∃ l : List Nat, x = .str (S l) ∧ l.Nodup ∧ l.length ≤ 1000 ∧ (∀ c ∈ l, c < 128) ∧ Q (.int l.length) H1
theorem pe_lenSetS {X : Cx} {a : Expr} {ta : TE} {p p2 q pos : Pos} (hc : X.calm = true) (hg : Gl X "len") (hm : X.mg "len" = none) (hg2 : Gl X "set") (hm2 : X.mg "set" = none) (ha : PE X a ta)
    (na : starEach [a] X.env = (false, eval a X.env) :: starEach [] X.env := by rfl) : PE X (.Call (.Name "len" p) [.Call (.Name "set" p2) [a] [] q] [] pos) (tLenSetS ta) := by
  refine ⟨fun pins s σ H Q I h => ?_⟩
  refine Call_ (ld_blt I hg hm boot_len ?_)
  refine PyProof.Rows.callWith_builtin1 (PyProof.Rows.args_cons ?_ rfl) rfl rfl
  refine Call_ (ld_blt I hg2 hm2 boot_set ?_)
  refine PyProof.Rows.callWith_type1 (PyProof.Rows.args_cons (thn (ha.run pins s σ H _ I h) fun v s1 ⟨x, H1, I1, r1, q1⟩ => PyProof.Rows.args_nil ?_) na) na rfl
  obtain ⟨l, rfl, hn, hl, h128, q1⟩ := q1
  obtain ⟨t, rfl⟩ := r1
  refine call_set_txt (I1.ok.hd hc) ?_ (by simpa using hn) (by simpa using hl) fun h' tk D l' hD F hlen hk => ?_
  · show l.toArray.all _ = true
    rw [List.all_toArray]
    exact List.all_eq_true.mpr fun c hc => decide_eq_true (h128 c hc)
  · refine PyProof.Rows.args_nil ?_
    have I2 : Inv X pins σ H1 { s1 with heap := h', toks := tk } := I1.kept fun b o e => hk b o (Heap.lt_size e) e
    have e1 : (S l).cps.size = l.length := by simp
    have hz : D.1.size = l.length := by rw [F.sz, hlen, e1]
    refine call_len_set hD ⟨rfl, rfl, rfl⟩ rfl F.fit (by rw [hz]; omega) ⟨.int l.length, H1, I2.tok _, ⟨_, by rw [hz]⟩, q1⟩
end Wk
namespace Wk
open PySem PySem.Spec PyProof.Rows L2
theorem cturn_out (kx vx t0 i0 t1 i1 : Expr) (scope : Scope) (pos : Pos) (it : Value) (D : Addr) (env : Env) :
    compTurn (.DictComp kx vx [⟨t0, i0, [], 0⟩, ⟨t1, i1, [], 0⟩] scope pos) 0 it (.ref D) env = (do
      standAt i0.pos
      match ← pyNext it with
      | none => pure (.done .next)
      | some v =>
        letOwnedTupleGo t0 it v
        assign t0 env v
        let x ← eval i1 env
        standAt i1.pos
        let x ← foldedSetIterable i1 env x
        let _ ← runOwn (.compStart (.DictComp kx vx [⟨t0, i0, [], 0⟩, ⟨t1, i1, [], 0⟩] scope pos) 1 (← holding [x] (pyIter x)) (.ref D) env) env
        again (.compLoop (.DictComp kx vx [⟨t0, i0, [], 0⟩, ⟨t1, i1, [], 0⟩] scope pos) 0 it (.ref D) env)) := by rfl
theorem cturn_in (kx vx t0 i0 t1 i1 : Expr) (scope : Scope) (pos : Pos) (it : Value) (D : Addr) (env : Env) :
    compTurn (.DictComp kx vx [⟨t0, i0, [], 0⟩, ⟨t1, i1, [], 0⟩] scope pos) 1 it (.ref D) env = (do
      standAt i1.pos
      match ← pyNext it with
      | none => pure (.done .next)
      | some v =>
        letOwnedTupleGo t1 it v
        assign t1 env v
        (do
          let kv ← eval kx env
          let vv ← holding [kv] (eval vx env)
          standAt { kx.pos with endLine := vx.pos.endLine, endCol := vx.pos.endCol }
          holding [kv, vv] (dictSet D kv vv))
        again (.compLoop (.DictComp kx vx [⟨t0, i0, [], 0⟩, ⟨t1, i1, [], 0⟩] scope pos) 1 it (.ref D) env)) := by rfl

section
variable {prog : Program} {w : World} {A : Around} {R : Result → Shared → Prop} {s : Shared} {kx vx t0 i0 t1 i1 : Expr} {scope : Scope} {pos : Pos} {it : Value} {D : Addr} {env : Env}
/-- the loop of the first clause -/
theorem cloop_out (hs : ∀ x, foldedSetIterable i1 env x = pure x) (I : Nat → Shared → Prop)
    (turn : ∀ n s, I n s → wpAny (model prog w) A (pyNext it) (fun r s₁ => match r with
      | none => R (.ok .next) s₁
      | some v => wpAny (model prog w) A (letOwnedTupleGo t0 it v) (fun _ s₁' => wpAny (model prog w) A (assign t0 env v) (fun _ s₃ =>
            wpAny (model prog w) A (eval i1 env) (fun x s₄ => wpAny (model prog w) A (pyIter x) (fun it1 s₅ =>
              codeAny (model prog w) A (.compStart (.DictComp kx vx [⟨t0, i0, [], 0⟩, ⟨t1, i1, [], 0⟩] scope pos) 1 it1 (.ref D) env) (fun r s' => match r with
                | .ok _ => ∃ m, m < n ∧ I m s'
                | .error _ => False) s₅) (notedBy (model prog w) A env fun e s' => R (.error e) s') s₄) (notedBy (model prog w) A env fun e s' => R (.error e) s') s₃)
            (notedBy (model prog w) A env fun e s' => R (.error e) s') s₁') (notedBy (model prog w) A env fun e s' => R (.error e) s') s₁) (notedBy (model prog w) A env fun e s' => R (.error e) s') s)
    (n : Nat) (h : I n s) :
    codeAny (model prog w) A (.compLoop (.DictComp kx vx [⟨t0, i0, [], 0⟩, ⟨t1, i1, [], 0⟩] scope pos) 0 it (.ref D) env) R s := by
  refine codeAny_loop rfl I (fun n s hI => ?_) n h
  show wpAny _ A ((compTurn (.DictComp kx vx [⟨t0, i0, [], 0⟩, ⟨t1, i1, [], 0⟩] scope pos) 0 it (.ref D) env).onRaise (fun x => do noteFrame x env; theTreesLotGoes x)) _ _ s
  refine wpAny_noted ?_
  rw [cturn_out]
  refine wpAny_bind (wpAny_standAt (wpAny_bind (wpAny_mono (turn n s hI) (fun r s₁ h₁ => ?_) fun _ _ h' => h')))
  cases r with
  | none => exact wpAny_pure h₁
  | some v =>
    refine wpAny_bind (wpAny_mono h₁ (fun _ s₁' h₁' => ?_) fun _ _ h' => h')
    refine wpAny_bind (wpAny_mono h₁' (fun _ s₂ h₂ => ?_) fun _ _ h' => h')
    refine wpAny_bind (wpAny_mono h₂ (fun x s₄ h₄ => ?_) fun _ _ h' => h')
    refine wpAny_bind (wpAny_standAt (wpAny_bind (wpAny_of_eq (hs x) (wpAny_bind (wpAny_holding (wpAny_mono h₄ (fun it1 s₅ h₅ => ?_) fun _ _ h' => h'))))))
    refine wpAny_bind (wpAny_runOwn ?_)
    rw [Around.mark_none]
    refine codeAny_mono h₅ fun r s' hr => ?_
    cases r with
    | ok f => exact wpAny_pure ⟨rfl, hr⟩
    | error e => exact hr.elim
/-- the loop of the second -/
theorem cloop_in (I : Nat → Shared → Prop)
    (turn : ∀ n s, I n s → wpAny (model prog w) A (pyNext it) (fun r s₁ => match r with
      | none => R (.ok .next) s₁
      | some v => wpAny (model prog w) A (letOwnedTupleGo t1 it v) (fun _ s₁' => wpAny (model prog w) A (assign t1 env v) (fun _ s₃ =>
            wpAny (model prog w) A (eval kx env) (fun kv s₄ => wpAny (model prog w) A (eval vx env) (fun vv s₅ =>
              wpAny (model prog w) A (dictSet D kv vv) (fun _ s₆ => ∃ m, m < n ∧ I m s₆) (notedBy (model prog w) A env fun e s' => R (.error e) s') s₅) (notedBy (model prog w) A env fun e s' => R (.error e) s') s₄) (notedBy (model prog w) A env fun e s' => R (.error e) s') s₃)
            (notedBy (model prog w) A env fun e s' => R (.error e) s') s₁') (notedBy (model prog w) A env fun e s' => R (.error e) s') s₁) (notedBy (model prog w) A env fun e s' => R (.error e) s') s)
    (n : Nat) (h : I n s) :
    codeAny (model prog w) A (.compLoop (.DictComp kx vx [⟨t0, i0, [], 0⟩, ⟨t1, i1, [], 0⟩] scope pos) 1 it (.ref D) env) R s := by
  refine codeAny_loop rfl I (fun n s hI => ?_) n h
  show wpAny _ A ((compTurn (.DictComp kx vx [⟨t0, i0, [], 0⟩, ⟨t1, i1, [], 0⟩] scope pos) 1 it (.ref D) env).onRaise (fun x => do noteFrame x env; theTreesLotGoes x)) _ _ s
  refine wpAny_noted ?_
  rw [cturn_in]
  refine wpAny_bind (wpAny_standAt (wpAny_bind (wpAny_mono (turn n s hI) (fun r s₁ h₁ => ?_) fun _ _ h' => h')))
  cases r with
  | none => exact wpAny_pure h₁
  | some v =>
    refine wpAny_bind (wpAny_mono h₁ (fun _ s₁' h₁' => ?_) fun _ _ h' => h')
    refine wpAny_bind (wpAny_mono h₁' (fun _ s₂ h₂ => ?_) fun _ _ h' => h')
    exact wpAny_bind (wpAny_bind (wpAny_mono h₂ (fun kv s₄ h₄ => wpAny_bind (wpAny_holding (wpAny_mono h₄ (fun vv s₅ h₅ => wpAny_bind (wpAny_standAt (wpAny_holding (wpAny_mono h₅ (fun _ s₆ h₆ => wpAny_pure ⟨rfl, h₆⟩) fun _ _ h' => h')))) fun _ _ h' => h'))) fun _ _ h' => h'))
/-- the second clause's start -/
theorem cstart_in (h0 : codeAny (model prog w) A (.compLoop (.DictComp kx vx [⟨t0, i0, [], 0⟩, ⟨t1, i1, [], 0⟩] scope pos) 1 it (.ref D) env) R s)
    (h : wpAny (model prog w) A (pyIter it) (fun it' s' => codeAny (model prog w) A (.compLoop (.DictComp kx vx [⟨t0, i0, [], 0⟩, ⟨t1, i1, [], 0⟩] scope pos) 1 it' (.ref D) env) R s')
      (notedBy (model prog w) A env fun x s' => R (.error x) s') s) :
    codeAny (model prog w) A (.compStart (.DictComp kx vx [⟨t0, i0, [], 0⟩, ⟨t1, i1, [], 0⟩] scope pos) 1 it (.ref D) env) R s := by
  refine codeAny_of_tree ?_
  show wpAny _ _ ((compStart (.DictComp kx vx [⟨t0, i0, [], 0⟩, ⟨t1, i1, [], 0⟩] scope pos) 1 it (.ref D) env).onRaise (fun x => do noteFrame x env; standAt theWindowsPlace)) _ _ s
  refine wpAny_notedAt ?_
  unfold compStart
  show wpAny _ _ (ask >>= _) _ _ s
  refine wpAny_bind (wpAny_askSetting (wpAny_ite ?_))
  split
  · first
      | exact wpAny_bind (wpAny_pure (wpAny_pure (And.intro rfl h0)))
      | exact wpAny_pure (And.intro rfl h0)
  · first
      | exact wpAny_bind (wpAny_rule (wpAny_bind (wpAny_standAt (wpAny_bind (wpAny_mono h (fun it' s' h' => wpAny_pure (And.intro rfl h')) fun _ _ x => x)))))
      | (refine wpAny_bind (wpAny_rule ?_); show wpAny _ _ (standAt i1.pos >>= _) _ _ s; exact wpAny_bind (wpAny_standAt (wpAny_bind (wpAny_mono h (fun it' s' h' => wpAny_pure (And.intro rfl h')) fun _ _ x => x))))
end
theorem d_dictSetT {X : Cx} {pins : List (Addr × Obj)} {σ : L2.St} {H : Hp} {s : Shared} {E : Value → Shared → Prop} {D b : Addr} {kvs : List (List Key × V)} {k : List Key} {v : V} {r : Value} {Q : Unit → Shared → Prop} (hu : X.A.units + 1 < cLine) (I : Inv X pins σ H s)
    (e : H D = some (.dT kvs)) (eb : H b = some (.tup (k.map kV))) (l : kvs.length < sizeLine) (rv : RelV v r) (h : ∀ s', Inv X pins σ (upd H D (.dT (putK kvs k v))) s' → Q () s') : wpAny (model X.prog X.w) X.A (dictSet D (.ref b) r) Q E s := by
  obtain ⟨z, hd, xs, rel, dd⟩ := dt_of I.hok e
  have hz : xs.length ≤ sizeLine := by rw [← Paired.length rel]; exact z
  have hl : (putK kvs k v).length ≤ sizeLine := by have := length_putK kvs k v; omega
  refine wpAny_dictSet_heap (hsz := hz) (by show X.A.units < cLine; omega) (key_of I.hok eb) dd fun h' dd' hs => h _ ?_
  obtain ⟨q, es, ep, hq, h2, h3, h4, _, h5⟩ := dd'
  refine d_write I (by rw [e]; exact True.intro) hs ⟨q, hq⟩ ⟨hl, hd, _, (rel.put k eb rv).keeps fun c ys ec => ?_, q, es, ep, hq, h2, h3, h4, h5⟩
  rw [upd_ne (ne_of ec e (fun z => nomatch z))]
  exact ec
section
variable {X : Cx}
/-- {k: v for tg in iter for tg1 in iter1}, the keys tuples -/
def tDc2 (wi : TI) (g : TG) (wi1 : TI) (g1 : TG) (tk tv : TE) (vs vs1 : List Nat) : TE := fun σ H Q => wi σ H fun J H1 => ∀ D, H1 D = none → ∃ W : Nat → Nat → Hp → Prop, (∃ m, W 0 m (upd H1 D (.dT []))) ∧ ∀ i m H, W i m H →
  (J.stop i H ∧ Q (.ref D) H) ∨ (J.go i H ∧ ∃ Nx : Hp → Prop, (∀ H', Nx H' → ∃ m', m' < m ∧ W (i + 1) m' H') ∧ ∀ x H', J.yld i H x H' → g x (wipe σ vs) H' fun σ2 H3 => wipe σ2 vs = wipe σ vs ∧
    wi1 σ2 H3 fun J1 H4 => ∃ W1 : Nat → Nat → Hp → Prop, (∃ m, W1 0 m H4) ∧ ∀ j k H, W1 j k H →
      (J1.stop j H ∧ Nx H) ∨ (J1.go j H ∧ ∃ Nx1 : Hp → Prop, (∀ H', Nx1 H' → ∃ k', k' < k ∧ W1 (j + 1) k' H') ∧ ∀ x H', J1.yld j H x H' → g1 x (wipe σ2 vs1) H' fun σ3 H6 => wipe σ3 vs1 = wipe σ2 vs1 ∧
        tk σ3 H6 fun y H7 => tv σ3 H7 fun z H8 => ∃ kvs k b, y = .ref b ∧ H8 b = some (.tup (k.map kV)) ∧ H8 D = some (.dT kvs) ∧ kvs.length < sizeLine ∧ Nx1 (upd H8 D (.dT (putK kvs k z)))))

theorem dc2_core {pins : List (Addr × Obj)} {s : Shared} {σ : L2.St} {H : Hp} {Q : VK} {kx vx tg iter tg1 iter1 : Expr} {scope : Scope} {own : List (Str × Nat)} {vs1 : List Nat} {pos pos' : Pos} {wi wi1 : TI} {g g1 : TG} {tk tv : TE} {use : Option (Value → Sem Unit)} {Qf : Value → Shared → Prop}
    (hc : X.calm = true) (hu : X.A.units + 1 < cLine) (hN : X.N.Nodup) (I : Inv X pins σ H s) (hi : PI X tg iter wi) (ok : BlkOk X.N X.env.scope scope own) (hv : ∀ i ∈ vs1, i ∈ own.map (·.2))
    (hg : ∀ (s : Shared) (H : Hp) (C : Addr) (cl : List (Str × Addr)) (fp : List Addr), PG (X.blk s H scope (compEnvC scope cl C X.env) fp) tg g)
    (hk : ∀ (s : Shared) (H : Hp) (C : Addr) (cl : List (Str × Addr)) (fp : List Addr), PE (X.blk s H scope (compEnvC scope cl C X.env) fp) kx tk) (he : ∀ (s : Shared) (H : Hp) (C : Addr) (cl : List (Str × Addr)) (fp : List Addr), PE (X.blk s H scope (compEnvC scope cl C X.env) fp) vx tv) (hs : ∀ x, foldedSetIterable iter X.env x = pure x)
    (hi1 : ∀ (s : Shared) (H : Hp) (C : Addr) (cl : List (Str × Addr)) (fp : List Addr), PI (X.blk s H scope (compEnvC scope cl C X.env) fp) tg1 iter1 wi1)
    (hg1 : ∀ (s : Shared) (H : Hp) (C : Addr) (cl : List (Str × Addr)) (fp : List Addr), PG (X.blk s H scope (compEnvC scope cl C X.env) fp) tg1 g1)
   
    (hs1 : ∀ env x, foldedSetIterable iter1 env x = pure x)
    (h : tDc2 wi g wi1 g1 tk tv (own.map (·.2)) vs1 σ H Q)
    (hRR : ∀ D C s' m H', Inv X pins σ H' s' → Q (.ref D) H' → s'.heap.Ns C m → FpOk X pins H' C → compPost (model X.prog X.w) X.A X.xe use Qf (.ref D) C (.ok .next) s') :
    wpAny (model X.prog X.w) X.A (comprehension (.DictComp kx vx [⟨tg, iter, [], 0⟩, ⟨tg1, iter1, [], 0⟩] scope pos) scope X.env pos' newDict false (eval iter X.env) use) Qf X.xe s := by
  have hfree : ∀ y ∈ scope.names, y.2 = .free → ∃ c, X.env.cells.lookup y.1 = some c := fun y hy e => by
    rcases ok.free y hy e with k | k
    · exact I.ok.has _ (.inl k)
    · exact I.ok.has _ (.inr k)
  refine wpAny_comprehension_free (use := use) rfl hs (closure_ok hfree) ok.kind (fun y hy e => by rw [ok.uniq y hy, e])
    (thn (hi.run pins s σ H _ I h) fun xv s1 hx => thn hx fun itv s2 h2 => ?_)
  obtain ⟨it, fp, tn, J, H2, e, I2, T, st2, f2, q⟩ := h2
  subst e
  refine wpAny_newObj_type (newEnv_comp ?_)
  generalize hD : s2.heap.objs.size = D
  have hDn : H2 D = none := I2.hok.fresh (Nat.le_of_eq hD)
  obtain ⟨W, ⟨m0, w0⟩, turn⟩ := q D hDn
  -- the new list
  generalize hs3 : ({ s2 with heap := s2.heap.push { cls := .type "dict", data := .dict #[] } } : Shared) = s3
  have I3 : Inv X pins σ (upd H2 D (.dT [])) s3 := by
    rw [← hs3]
    refine I2.laid (t' := s2.toks) (fun b o e => Heap.get?_push_of_some _ e) (Nat.le_of_eq hD) ?_
    rw [← hD]
    exact dt_empty s2.heap I2.big
  have h3 : s3.heap = s2.heap.push { cls := .type "dict", data := .dict #[] } := by rw [← hs3]
  have sz : ∀ b ∈ fp, b < s2.heap.objs.size := fun b hb => by
    obtain ⟨o, e, _⟩ := T.obj _ _ st2 b hb
    exact Heap.lt_size e
  have f3 : ∀ b ∈ fp, FpOk X pins (upd H2 D (.dT [])) b ∧ b < s3.heap.objs.size := fun b hb => by
    have hlt := sz b hb
    refine ⟨⟨?_, (f2 b hb).2⟩, by rw [h3, Heap.size_push]; exact Nat.lt_succ_of_lt hlt⟩
    rw [upd_ne (by rw [← hD]; exact Nat.ne_of_lt hlt)]
    exact (f2 b hb).1
  have st3 : tn 0 s3.heap := T.keep _ _ _ st2 fun b _ o e => by rw [h3]; exact Heap.get?_push_of_some _ e
  have I4 := block_start I3 ok hN f3
  have pg := hg s3 (upd H2 D (.dT [])) s3.heap.objs.size (cellsFrom (s3.heap.objs.size + 1) scope.names (cloFrom X.env.cells scope.names [])) fp
  have pk := hk s3 (upd H2 D (.dT [])) s3.heap.objs.size (cellsFrom (s3.heap.objs.size + 1) scope.names (cloFrom X.env.cells scope.names [])) fp
  have pe := he s3 (upd H2 D (.dT [])) s3.heap.objs.size (cellsFrom (s3.heap.objs.size + 1) scope.names (cloFrom X.env.cells scope.names [])) fp
  have pi1 := hi1 s3 (upd H2 D (.dT [])) s3.heap.objs.size (cellsFrom (s3.heap.objs.size + 1) scope.names (cloFrom X.env.cells scope.names [])) fp
  have pg1 := hg1 s3 (upd H2 D (.dT [])) s3.heap.objs.size (cellsFrom (s3.heap.objs.size + 1) scope.names (cloFrom X.env.cells scope.names [])) fp
  show codeAny _ _ (.compStart (.DictComp kx vx [⟨tg, iter, [], 0⟩, ⟨tg1, iter1, [], 0⟩] scope pos) 0 (.ref it) (.ref D) (compEnvC scope (cellsFrom (s3.heap.objs.size + 1) scope.names (cloFrom X.env.cells scope.names [])) s3.heap.objs.size X.env)) (compPost (model X.prog X.w) X.A X.xe use Qf (.ref D) s3.heap.objs.size) { s3 with heap := pushCells (s3.heap.push { cls := .type "dict", data := .dict #[] }) scope.names }
  have nfp : ∀ b ∈ fp, (upd H2 D (.dT [])) b = none := fun b hb => (f3 b hb).1.1
  generalize hce : compEnvC scope (cellsFrom (s3.heap.objs.size + 1) scope.names (cloFrom X.env.cells scope.names [])) s3.heap.objs.size X.env = ce at I4 pg pk pe pi1 pg1 ⊢
  have cL : ce.locals = s3.heap.objs.size := by subst hce; rfl
  generalize hH3 : upd H2 D (.dT []) = H3 at I3 I4 pg pk pe pi1 pg1 w0 nfp f3
  generalize hs4 : ({ s3 with heap := pushCells (s3.heap.push { cls := .type "dict", data := .dict #[] }) scope.names } : Shared) = s4 at I4 ⊢
  have st4 : tn 0 s4.heap := T.keep _ _ _ st3 fun b _ o e => by rw [← hs4]; exact pushCells_keeps _ _ _ _ (Heap.get?_push_of_some _ e)
  have stat : ∀ {σ' : L2.St} {H' : Hp} {s' : Shared}, Inv (X.blk s3 H3 scope ce fp) [] σ' H' s' → (∀ b ∈ fp, H' b = none) → ∀ b ∈ fp, FpOk (X.blk s3 H3 scope ce fp) [] H' b := fun {σ' H' s'} I' hn b hb =>
    ⟨hn b hb, (I'.ok.exf b hb).1, I'.ok.exfs b hb, .inl hb, fun x c e => (I'.ok.exf b hb).2 x c e, fun p hp => absurd (show p ∈ ([] : List (Addr × Obj)) ++ [] from hp) (by simp)⟩
  have loop : codeAny (model X.prog X.w) X.A (.compLoop (.DictComp kx vx [⟨tg, iter, [], 0⟩, ⟨tg1, iter1, [], 0⟩] scope pos) 0 (.ref it) (.ref D) ce) (compPost (model X.prog X.w) X.A X.xe use Qf (.ref D) s3.heap.objs.size) s4 := by
    refine cloop_out (hs1 ce) (fun n s' => ∃ i H', Inv (X.blk s3 H3 scope ce fp) [] (wipe σ (own.map (·.2))) H' s' ∧ tn i s'.heap ∧ (∀ b ∈ fp, H' b = none) ∧ W i n H') ?_ m0 ⟨0, H3, I4, st4, nfp, w0⟩
    rintro n s5 ⟨i, H5, I5, st5, n5, w5⟩
    rcases turn i n H5 w5 with ⟨stop, qq⟩ | ⟨go, Nx, hNx, step⟩
    · have td := T.done (X.blk s3 H3 scope ce fp) rfl rfl rfl hc i [] s5 _ H5 (fun _ _ => False) I5 (stat I5 n5) st5 stop
      refine thnF td fun r s6 ⟨hr, I6⟩ => ?_
      subst hr
      -- back in the def's context
      have I7 : Inv X pins σ H5 s6 := I3.call' (ch := fp) I6.os I6.base I6.hok I6.bare fun b hb => ⟨(f3 b hb).1.2.2.2.1, (f3 b hb).1.2.1, (f3 b hb).1.2.2.2.2.1, (f3 b hb).1.2.2.2.2.2⟩
      have nC : H5 s3.heap.objs.size = none := by
        have z : H5 ce.locals = none := I6.free
        rw [cL] at z
        exact z
      obtain ⟨m, hn, _⟩ := I6.loc
      have hn : s6.heap.Ns ce.locals m := hn
      rw [cL] at hn
      exact hRR D s3.heap.objs.size s6 m H5 I7 qq hn (I3.fpOk (Nat.le_refl _) nC)
    · have ti := T.item (X.blk s3 H3 scope ce fp) rfl rfl rfl hc i [] s5 _ H5 (fun _ _ => False) I5 (stat I5 n5) st5 go
      refine thnF ti fun r s6 ⟨u, hr, h6⟩ => ?_
      subst hr
      refine thnF h6 fun _ s7 ⟨x, H7, I7, r7, y7, st7, n7⟩ => ?_
      have I7' := I7.pinned (stat I7 n7) (T.obj _ _ st7)
      refine thnF (pg.run _ s7 _ H7 x u _ I7' r7 (step x H7 y7)) fun _ s8 ⟨σ8, H8, I8, hw8, q8⟩ => ?_
      -- the turn's end, from any slots that know what the block knew at its start
      have fin : ∀ {σ9 : L2.St} {s' : Shared} {H' : Hp}, Inv (X.blk s3 H3 scope ce fp) ([] ++ pinsAt fp s7.heap) σ9 H' s' → (wipe σ (own.map (·.2))).length = σ9.length → (∀ (j : Nat) v, (wipe σ (own.map (·.2)))[j]? = some (some v) → σ9[j]? = some (some v)) → Nx H' →
          ∃ m, m < n ∧ ∃ i H', Inv (X.blk s3 H3 scope ce fp) [] (wipe σ (own.map (·.2))) H' s' ∧ tn i s'.heap ∧ (∀ b ∈ fp, H' b = none) ∧ W i m H' := fun {σ9 s' H'} I' hl hk nx => by
        obtain ⟨m', hm, w'⟩ := hNx H' nx
        have pin' : ∀ b ∈ fp, ∀ o, s7.heap.get? b = some o → s'.heap.get? b = some o ∧ H' b = none := fun b hb o e =>
          let z := I'.pin (b, o) (List.mem_append_right _ (List.mem_append_right _ (mem_pinsAt hb e)))
          ⟨z.1, z.2.1⟩
        refine ⟨m', hm, i + 1, H', (I'.unpinned (pins := [])).weak hl hk, T.keep _ _ _ st7 fun b hb o e => (pin' b hb o e).1, fun b hb => ?_, w'⟩
        obtain ⟨o, e, _⟩ := T.obj _ _ st7 b hb
        exact (pin' b hb o e).2
      have hl8 : (wipe σ (own.map (·.2))).length = σ8.length := by rw [← hw8, wipe_length]
      have hk8 : ∀ (j : Nat) v, (wipe σ (own.map (·.2)))[j]? = some (some v) → σ8[j]? = some (some v) := fun j v e => by
        rw [← hw8] at e
        exact (wipe_some e).1
      have hk9 : ∀ (j : Nat) v, (wipe σ (own.map (·.2)))[j]? = some (some v) → (wipe σ8 vs1)[j]? = some (some v) := fun j v e => by
        rw [← hw8] at e
        obtain ⟨e1, e2⟩ := wipe_some e
        rw [wipe_out fun z => e2 (hv j z)]
        exact e1
      refine thnF (pi1.run _ s8 σ8 H8 _ I8 q8) fun xv s10 hx => thnF hx fun itv s11 h11 => ?_
      obtain ⟨it1, fp1, tn1, J1, H11, e1, I11, T1, st11, f11, W1, ⟨m1, w1⟩, turn1⟩ := h11
      subst e1
      -- the inner loop
      have stat1 : ∀ {H' : Hp}, (∀ b ∈ fp1, H' b = none) → ∀ b ∈ fp1, FpOk (X.blk s3 H3 scope ce fp) ([] ++ pinsAt fp s7.heap) H' b := fun hn b hb => ⟨hn b hb, (f11 b hb).2⟩
      have loop1 : codeAny (model X.prog X.w) X.A (.compLoop (.DictComp kx vx [⟨tg, iter, [], 0⟩, ⟨tg1, iter1, [], 0⟩] scope pos) 1 (.ref it1) (.ref D) ce)
          (fun r s' => match r with
            | .ok _ => ∃ m, m < n ∧ ∃ i H', Inv (X.blk s3 H3 scope ce fp) [] (wipe σ (own.map (·.2))) H' s' ∧ tn i s'.heap ∧ (∀ b ∈ fp, H' b = none) ∧ W i m H'
            | .error _ => False) s11 := by
        refine cloop_in (fun k s' => ∃ j H', Inv (X.blk s3 H3 scope ce fp) ([] ++ pinsAt fp s7.heap) (wipe σ8 vs1) H' s' ∧ tn1 j s'.heap ∧ (∀ b ∈ fp1, H' b = none) ∧ W1 j k H') ?_ m1 ⟨0, H11, I11.weak (wipe_length _ _) (fun j v e => (wipe_some e).1), st11, fun b hb => (f11 b hb).1, w1⟩
        rintro k s12 ⟨j, H12, I12, st12, n12, w12⟩
        rcases turn1 j k H12 w12 with ⟨stop1, nx1⟩ | ⟨go1, Nx1, hNx1, step1⟩
        · refine thnF (T1.done (X.blk s3 H3 scope ce fp) rfl rfl rfl hc j _ s12 (wipe σ8 vs1) H12 (fun _ _ => False) I12 (stat1 n12) st12 stop1) fun r s13 ⟨hr, I13⟩ => ?_
          subst hr
          exact fin I13 (hl8.trans (wipe_length σ8 vs1).symm) hk9 nx1
        · refine thnF (T1.item (X.blk s3 H3 scope ce fp) rfl rfl rfl hc j _ s12 (wipe σ8 vs1) H12 (fun _ _ => False) I12 (stat1 n12) st12 go1) fun r s13 ⟨u1, hr, h13⟩ => ?_
          subst hr
          refine thnF h13 fun _ s14 ⟨x1, H14, I14, r14, y14, st14, n14⟩ => ?_
          have I14' := I14.pinned (stat1 n14) (T1.obj _ _ st14)
          refine thnF (pg1.run _ s14 (wipe σ8 vs1) H14 x1 u1 _ I14' r14 (step1 x1 H14 y14)) fun _ s15 ⟨σ15, H15, I15, hw15, q15⟩ => ?_
          have fin1 : ∀ {s' : Shared} {H' : Hp}, Inv (X.blk s3 H3 scope ce fp) (([] ++ pinsAt fp s7.heap) ++ pinsAt fp1 s14.heap) σ15 H' s' → Nx1 H' → ∃ m, m < k ∧ ∃ j H', Inv (X.blk s3 H3 scope ce fp) ([] ++ pinsAt fp s7.heap) (wipe σ8 vs1) H' s' ∧ tn1 j s'.heap ∧ (∀ b ∈ fp1, H' b = none) ∧ W1 j m H' := fun {s' H'} I' nx => by
            obtain ⟨m', hm, w'⟩ := hNx1 H' nx
            have pin' : ∀ b ∈ fp1, ∀ o, s14.heap.get? b = some o → s'.heap.get? b = some o ∧ H' b = none := fun b hb o e =>
              let z := I'.pin (b, o) (List.mem_append_right _ (List.mem_append_right _ (mem_pinsAt hb e)))
              ⟨z.1, z.2.1⟩
            refine ⟨m', hm, j + 1, H', I'.unpinned.weak (by rw [← hw15, wipe_length]) (fun j v e => by rw [← hw15] at e; exact (wipe_some e).1), T1.keep _ _ _ st14 fun b hb o e => (pin' b hb o e).1, fun b hb => ?_, w'⟩
            obtain ⟨o, e, _⟩ := T1.obj _ _ st14 b hb
            exact (pin' b hb o e).2
          refine thnF (pk.run _ s15 σ15 H15 _ I15 q15) fun z s16 ⟨yk, H16, I16, r16, q16⟩ => ?_
          refine thnF (pe.run _ s16 σ15 H16 _ I16 q16) fun z2 s17 ⟨yv, H17, I17, r17, kvs, kk, bb, ey, hb17, hD17, hz17, nx⟩ => ?_
          subst ey
          cases r16
          exact d_dictSetT (X := X.blk s3 H3 scope ce fp) hu I17 hD17 hb17 hz17 r17 fun s18 I18 => fin1 I18 nx
      exact cstart_in loop1 (T1.self X.A 0 _ _ _ st11 loop1)
  exact codeAny_compStart_dict loop (T.self X.A 0 _ _ _ st4 loop)

theorem pe_dc2 {kx vx tg iter tg1 iter1 : Expr} {scope : Scope} {own : List (Str × Nat)} {vs1 : List Nat} {pos : Pos} {wi wi1 : TI} {g g1 : TG} {tk tv : TE} (hc : X.calm = true) (hu : X.A.units + 1 < cLine) (hN : X.N.Nodup) (hi : PI X tg iter wi) (ok : BlkOk X.N X.env.scope scope own) (hv : ∀ i ∈ vs1, i ∈ own.map (·.2))
    (hg : ∀ (s : Shared) (H : Hp) (C : Addr) (cl : List (Str × Addr)) (fp : List Addr), PG (X.blk s H scope (compEnvC scope cl C X.env) fp) tg g)
    (hi1 : ∀ (s : Shared) (H : Hp) (C : Addr) (cl : List (Str × Addr)) (fp : List Addr), PI (X.blk s H scope (compEnvC scope cl C X.env) fp) tg1 iter1 wi1)
    (hg1 : ∀ (s : Shared) (H : Hp) (C : Addr) (cl : List (Str × Addr)) (fp : List Addr), PG (X.blk s H scope (compEnvC scope cl C X.env) fp) tg1 g1)
    (hk : ∀ (s : Shared) (H : Hp) (C : Addr) (cl : List (Str × Addr)) (fp : List Addr), PE (X.blk s H scope (compEnvC scope cl C X.env) fp) kx tk) (he : ∀ (s : Shared) (H : Hp) (C : Addr) (cl : List (Str × Addr)) (fp : List Addr), PE (X.blk s H scope (compEnvC scope cl C X.env) fp) vx tv) (hs : ∀ x, foldedSetIterable iter X.env x = pure x := by intro _; rfl) (hs1 : ∀ env x, foldedSetIterable iter1 env x = pure x := by intro _ _; rfl) :
    PE X (.DictComp kx vx [⟨tg, iter, [], 0⟩, ⟨tg1, iter1, [], 0⟩] scope pos) (tDc2 wi g wi1 g1 tk tv (own.map (·.2)) vs1) := by
  refine ⟨fun pins s σ H Q I h => ?_⟩
  rw [arm_eval_DictComp]
  refine dc2_core hc hu hN I hi ok hv hg hk he hs hi1 hg1 hs1 h fun D C s' m H' I' q hn f => ⟨m, hn, fun h'' sb => ?_⟩
  obtain ⟨f0, f1, f2, f3, f4, f5⟩ := f
  exact ⟨.ref D, H', I'.turned (t' := s'.toks) (fun b o hb e => (sb.2 b hb).trans e) f0 f1 f3 f4 f5, rfl, q⟩

theorem sw_trueD {kx vx : Expr} {gs : List Comprehension} {scope : Scope} {pos py : Pos} {y : Str} {l : Nat} {env : Env} (hk : env.scope.kind = .function) (hy : env.scope.names.lookup y = some .local) (hl : (py.line == pos.line) = true)
    (ha : (scope.names.any fun (n, k) => n == y && (k == .local || k == .cell)) = false) : swapsWith (.DictComp kx vx gs scope pos) (some (.Name y py)) l env = pure true := by
  have ky : env.kindOf y = some .local := hy
  have hb : env.blockKind = .function := by unfold Env.blockKind; rw [hk]; rfl
  unfold swapsWith
  simp only [hb, ky, ha, Expr.pos, hl]
  rfl
theorem ps_setDc2 {i : Nat} {y : Str} {py : Pos} {kx vx tg iter tg1 iter1 : Expr} {scope : Scope} {own : List (Str × Nat)} {vs1 : List Nat} {pos spos : Pos} {wi wi1 : TI} {g g1 : TG} {tk tv : TE} (hc : X.calm = true) (hu : X.A.units + 1 < cLine) (hN : X.N.Nodup) (hy : X.N[i]? = some y) (hyl : X.env.scope.names.lookup y = some .local)
    (hsw : swapsWith (.DictComp kx vx [⟨tg, iter, [], 0⟩, ⟨tg1, iter1, [], 0⟩] scope pos) (some (.Name y py)) spos.line X.env = pure true) (hi : PI X tg iter wi) (ok : BlkOk X.N X.env.scope scope own) (hv : ∀ i ∈ vs1, i ∈ own.map (·.2))
    (hg : ∀ (s : Shared) (H : Hp) (C : Addr) (cl : List (Str × Addr)) (fp : List Addr), PG (X.blk s H scope (compEnvC scope cl C X.env) fp) tg g)
    (hi1 : ∀ (s : Shared) (H : Hp) (C : Addr) (cl : List (Str × Addr)) (fp : List Addr), PI (X.blk s H scope (compEnvC scope cl C X.env) fp) tg1 iter1 wi1)
    (hg1 : ∀ (s : Shared) (H : Hp) (C : Addr) (cl : List (Str × Addr)) (fp : List Addr), PG (X.blk s H scope (compEnvC scope cl C X.env) fp) tg1 g1)
    (hk : ∀ (s : Shared) (H : Hp) (C : Addr) (cl : List (Str × Addr)) (fp : List Addr), PE (X.blk s H scope (compEnvC scope cl C X.env) fp) kx tk) (he : ∀ (s : Shared) (H : Hp) (C : Addr) (cl : List (Str × Addr)) (fp : List Addr), PE (X.blk s H scope (compEnvC scope cl C X.env) fp) vx tv) (hs : ∀ x, foldedSetIterable iter X.env x = pure x := by intro _; rfl) (hs1 : ∀ env x, foldedSetIterable iter1 env x = pure x := by intro _ _; rfl) :
    PS X (.Assign [.Name y py] (.DictComp kx vx [⟨tg, iter, [], 0⟩, ⟨tg1, iter1, [], 0⟩] scope pos) spos) (tAsg (tDc2 wi g wi1 g1 tk tv (own.map (·.2)) vs1) (gName i)) := by
  refine ⟨fun pins s σ H D I h => ?_⟩
  rw [exec_Assign_Name_used _ _ _ _ hsw]
  refine wpAny_bind (wpAny_standAt (wpAny_bind ?_))
  show wpAny _ X.A (do let _ ← comprehension (.DictComp kx vx [⟨tg, iter, [], 0⟩, ⟨tg1, iter1, [], 0⟩] scope pos) scope X.env (firstIterPos [⟨tg, iter, [], 0⟩, ⟨tg1, iter1, [], 0⟩] pos) newDict false (eval iter X.env) (some (assign (.Name y py) X.env))) _ _ s
  have h : tDc2 wi g wi1 g1 tk tv (own.map (·.2)) vs1 σ H (fun x H1 => gName i x σ H1 D.nx) := h
  refine wpAny_bind (thn (dc2_core (Qf := fun _ s' => SP X pins D .next s') hc hu hN I hi ok hv hg hk he hs hi1 hg1 hs1 h fun L C s' m H' I' q hn f => ?_) fun _ s' hq => wpAny_pure (wpAny_pure hq))
  show wpAny _ _ (assign (.Name y py) X.env (.ref L)) _ _ _
  refine wpAny_assign_Name (store_ok2 (v := V.ref L) I' hN hy (.inl hyl) rfl (fun s2 I2 ⟨a, sb, ha⟩ => ?_) (.inr hyl))
  obtain ⟨f0, f1, f2, f3, f4, f5⟩ := f
  have haC : C ≠ a := by
    rcases ha with z | z
    · rw [z]; exact f1
    · exact fun e => f4 y a z e.symm
  refine ⟨m, hn.sameBut sb haC, fun h3 sb3 => ?_⟩
  exact ⟨_, H', I2.turned (t' := s2.toks) (fun b o hb e => (sb3.2 b hb).trans e) f0 f1 f3 f4 f5, q⟩

end
end Wk
namespace Wk
open PySem PySem.Spec PyProof.Rows L2
/-! ### where things stand, the facts by name -/
abbrev cWindowTurn (K : PySem.W.Frag) : Addr := He.ga K "WindowTurn"
abbrev cTrace (K : PySem.W.Frag) : Addr := He.ga K "Trace"
abbrev cNode (K : PySem.W.Frag) : Addr := He.ga K "Node"
abbrev cNodes (K : PySem.W.Frag) : Addr := He.ga K "Nodes"
abbrev cWeave (K : PySem.W.Frag) : Addr := He.ga K "Weave"
abbrev cSums (K : PySem.W.Frag) : Addr := He.ga K "Sums"
abbrev cWalk (K : PySem.W.Frag) : Addr := He.ga K "Walk"
abbrev cFar (K : PySem.W.Frag) : Addr := He.ga K "Far"
abbrev cSearcher (K : PySem.W.Frag) : Addr := He.ga K "Searcher"
abbrev aFROM_LEFT (K : PySem.W.Frag) : Addr := He.ga K "FROM_LEFT"
abbrev aBY_ONE_STATE (K : PySem.W.Frag) : Addr := He.ga K "BY_ONE_STATE"
abbrev aFROM_RIGHT (K : PySem.W.Frag) : Addr := He.ga K "FROM_RIGHT"
def fdOf (K : PySem.W.Frag) (a : Addr) : FuncData := match K.lookup a with | some ⟨_, _, .func fd, _⟩ => fd | _ => default
theorem fdOf_eq {K : PySem.W.Frag} {x q : Str} {st : Stmt} {f : Addr} {fd : FuncData} (F : FunD K x q (defArgs st) (defBody st) (defScope st) [] [] f fd) : fdOf K f = fd := by
  obtain ⟨oc, od, dV, kV, doc, pm, an, cdv, ct, osl, rfl, lk, _⟩ := F.ex
  unfold fdOf
  rw [lk]
abbrev f_check_letters (K : PySem.W.Frag) : Addr := He.ga K "check_letters"
abbrev fd_check_letters (K : PySem.W.Frag) : FuncData := fdOf K (f_check_letters K)
abbrev ps_check_letters : List Str := ["letters"]
abbrev f_is_word (K : PySem.W.Frag) : Addr := He.ga K "is_word"
abbrev fd_is_word (K : PySem.W.Frag) : FuncData := fdOf K (f_is_word K)
abbrev ps_is_word : List Str := ["letters", "value"]
abbrev f_check_words (K : PySem.W.Frag) : Addr := He.ga K "check_words"
abbrev fd_check_words (K : PySem.W.Frag) : FuncData := fdOf K (f_check_words K)
abbrev ps_check_words : List Str := ["letters", "words"]
abbrev f_check_text (K : PySem.W.Frag) : Addr := He.ga K "check_text"
abbrev fd_check_text (K : PySem.W.Frag) : FuncData := fdOf K (f_check_text K)
abbrev ps_check_text : List Str := ["letters", "text"]
abbrev f_trace (K : PySem.W.Frag) : Addr := He.ga K "trace"
abbrev fd_trace (K : PySem.W.Frag) : FuncData := fdOf K (f_trace K)
abbrev ps_trace : List Str := ["searcher", "text"]
abbrev f_is_name (K : PySem.W.Frag) : Addr := He.ga K "is_name"
abbrev fd_is_name (K : PySem.W.Frag) : FuncData := fdOf K (f_is_name K)
abbrev ps_is_name : List Str := ["value"]
abbrev f_is_count (K : PySem.W.Frag) : Addr := He.ga K "is_count"
abbrev fd_is_count (K : PySem.W.Frag) : FuncData := fdOf K (f_is_count K)
abbrev ps_is_count : List Str := ["value"]
abbrev f_is_part (K : PySem.W.Frag) : Addr := He.ga K "is_part"
abbrev fd_is_part (K : PySem.W.Frag) : FuncData := fdOf K (f_is_part K)
abbrev ps_is_part : List Str := ["letters", "rules", "value"]
abbrev f_is_rule (K : PySem.W.Frag) : Addr := He.ga K "is_rule"
abbrev fd_is_rule (K : PySem.W.Frag) : FuncData := fdOf K (f_is_rule K)
abbrev ps_is_rule : List Str := ["letters", "rules", "value"]
abbrev f_check_rules (K : PySem.W.Frag) : Addr := He.ga K "check_rules"
abbrev fd_check_rules (K : PySem.W.Frag) : FuncData := fdOf K (f_check_rules K)
abbrev ps_check_rules : List Str := ["letters", "rules"]
abbrev f_names_in (K : PySem.W.Frag) : Addr := He.ga K "names_in"
abbrev fd_names_in (K : PySem.W.Frag) : FuncData := fdOf K (f_names_in K)
abbrev ps_names_in : List Str := ["rules", "name"]
abbrev f_ordered (K : PySem.W.Frag) : Addr := He.ga K "ordered"
abbrev fd_ordered (K : PySem.W.Frag) : FuncData := fdOf K (f_ordered K)
abbrev ps_ordered : List Str := ["rules"]
abbrev f_far (K : PySem.W.Frag) : Addr := He.ga K "far"
abbrev fd_far (K : PySem.W.Frag) : FuncData := fdOf K (f_far K)
abbrev ps_far : List Str := ["searcher", "weave"]
abbrev f_is_number (K : PySem.W.Frag) : Addr := He.ga K "is_number"
abbrev fd_is_number (K : PySem.W.Frag) : FuncData := fdOf K (f_is_number K)
abbrev ps_is_number : List Str := ["value", "least", "most"]
abbrev f_is_head (K : PySem.W.Frag) : Addr := He.ga K "is_head"
abbrev fd_is_head (K : PySem.W.Frag) : FuncData := fdOf K (f_is_head K)
abbrev ps_is_head : List Str := ["tree", "letters", "width", "states"]
abbrev f_within (K : PySem.W.Frag) : Addr := He.ga K "within"
abbrev fd_within (K : PySem.W.Frag) : FuncData := fdOf K (f_within K)
abbrev ps_within : List Str := ["tree"]
abbrev f_checked (K : PySem.W.Frag) : Addr := He.ga K "checked"
abbrev fd_checked (K : PySem.W.Frag) : FuncData := fdOf K (f_checked K)
abbrev ps_checked : List Str := ["tree", "letters", "width", "states", "level", "number"]
abbrev f_kept (K : PySem.W.Frag) : Addr := He.ga K "kept"
abbrev fd_kept (K : PySem.W.Frag) : FuncData := fdOf K (f_kept K)
abbrev ps_kept : List Str := ["tree"]
abbrev f_borders_of (K : PySem.W.Frag) : Addr := He.ga K "borders_of"
abbrev fd_borders_of (K : PySem.W.Frag) : FuncData := fdOf K (f_borders_of K)
abbrev ps_borders_of : List Str := ["word"]
abbrev f_steps_down (K : PySem.W.Frag) : Addr := He.ga K "steps_down"
abbrev fd_steps_down (K : PySem.W.Frag) : FuncData := fdOf K (f_steps_down K)
abbrev ps_steps_down : List Str := ["borders", "size"]
abbrev f_last_of (K : PySem.W.Frag) : Addr := He.ga K "last_of"
abbrev fd_last_of (K : PySem.W.Frag) : FuncData := fdOf K (f_last_of K)
abbrev ps_last_of : List Str := ["word", "letter", "end"]
abbrev f_compared (K : PySem.W.Frag) : Addr := He.ga K "compared"
abbrev fd_compared (K : PySem.W.Frag) : FuncData := fdOf K (f_compared K)
abbrev ps_compared : List Str := ["letters", "word", "places", "unlike", "like"]
abbrev f_left_step (K : PySem.W.Frag) : Addr := He.ga K "left_step"
abbrev fd_left_step (K : PySem.W.Frag) : FuncData := fdOf K (f_left_step K)
abbrev ps_left_step : List Str := ["word", "borders", "way", "place", "letter"]
abbrev f_from_left (K : PySem.W.Frag) : Addr := He.ga K "from_left"
abbrev fd_from_left (K : PySem.W.Frag) : FuncData := fdOf K (f_from_left K)
abbrev ps_from_left : List Str := ["letters", "word", "way"]
abbrev f_by_one_letter (K : PySem.W.Frag) : Addr := He.ga K "by_one_letter"
abbrev fd_by_one_letter (K : PySem.W.Frag) : FuncData := fdOf K (f_by_one_letter K)
abbrev ps_by_one_letter : List Str := ["letters", "word", "way"]
abbrev f_is_good_slide (K : PySem.W.Frag) : Addr := He.ga K "is_good_slide"
abbrev fd_is_good_slide (K : PySem.W.Frag) : FuncData := fdOf K (f_is_good_slide K)
abbrev ps_is_good_slide : List Str := ["word", "place", "by"]
abbrev f_right_slide (K : PySem.W.Frag) : Addr := He.ga K "right_slide"
abbrev fd_right_slide (K : PySem.W.Frag) : FuncData := fdOf K (f_right_slide K)
abbrev ps_right_slide : List Str := ["word", "way", "place", "letter"]
abbrev f_from_right (K : PySem.W.Frag) : Addr := He.ga K "from_right"
abbrev fd_from_right (K : PySem.W.Frag) : FuncData := fdOf K (f_from_right K)
abbrev ps_from_right : List Str := ["letters", "word", "way"]
abbrev f_made (K : PySem.W.Frag) : Addr := He.ga K "made"
abbrev fd_made (K : PySem.W.Frag) : FuncData := fdOf K (f_made K)
abbrev ps_made : List Str := ["letters", "word", "way"]
abbrev f_law_pen (K : PySem.W.Frag) : Addr := He.ga K "_law_pen"
abbrev fd_law_pen (K : PySem.W.Frag) : FuncData := fdOf K (f_law_pen K)
abbrev ps_law_pen : List Str := ["_law_script"]
abbrev f_law_draw (K : PySem.W.Frag) : Addr := He.ga K "_law_draw"
abbrev fd_law_draw (K : PySem.W.Frag) : FuncData := fdOf K (f_law_draw K)
abbrev ps_law_draw : List Str := ["_law_pen_here", "_law_many"]
abbrev f_law_pick (K : PySem.W.Frag) : Addr := He.ga K "_law_pick"
abbrev fd_law_pick (K : PySem.W.Frag) : FuncData := fdOf K (f_law_pick K)
abbrev ps_law_pick : List Str := ["_law_pen_here", "_law_items"]
abbrev f_law_letters (K : PySem.W.Frag) : Addr := He.ga K "_law_letters"
abbrev fd_law_letters (K : PySem.W.Frag) : FuncData := fdOf K (f_law_letters K)
abbrev ps_law_letters : List Str := ["_law_pen_here", "_law_many"]
abbrev f_law_word (K : PySem.W.Frag) : Addr := He.ga K "_law_word"
abbrev fd_law_word (K : PySem.W.Frag) : FuncData := fdOf K (f_law_word K)
abbrev ps_law_word : List Str := ["_law_pen_here", "_law_letters_here", "_law_size"]
abbrev f_law_ways (K : PySem.W.Frag) : Addr := He.ga K "_law_ways"
abbrev fd_law_ways (K : PySem.W.Frag) : FuncData := fdOf K (f_law_ways K)
abbrev ps_law_ways : List Str := []
abbrev f_law_bent_tree (K : PySem.W.Frag) : Addr := He.ga K "_law_bent_tree"
abbrev fd_law_bent_tree (K : PySem.W.Frag) : FuncData := fdOf K (f_law_bent_tree K)
abbrev ps_law_bent_tree : List Str := ["_law_pen_here", "_law_tree", "_law_width", "_law_many"]
abbrev f_law_bent (K : PySem.W.Frag) : Addr := He.ga K "_law_bent"
abbrev fd_law_bent (K : PySem.W.Frag) : FuncData := fdOf K (f_law_bent K)
abbrev ps_law_bent : List Str := ["_law_pen_here", "_law_searcher"]
abbrev f_law_rules (K : PySem.W.Frag) : Addr := He.ga K "_law_rules"
abbrev fd_law_rules (K : PySem.W.Frag) : FuncData := fdOf K (f_law_rules K)
abbrev ps_law_rules : List Str := ["_law_pen_here", "_law_letters_here"]
abbrev f_law (K : PySem.W.Frag) : Addr := He.ga K "law"
abbrev fd_law (K : PySem.W.Frag) : FuncData := fdOf K (f_law K)
abbrev ps_law : List Str := ["_law_script"]
abbrev f_WindowTurn_init (K : PySem.W.Frag) : Addr := He.ma K (cWindowTurn K) "__init__"
abbrev fd_WindowTurn_init (K : PySem.W.Frag) : FuncData := fdOf K (f_WindowTurn_init K)
abbrev ps_WindowTurn_init : List Str := ["self", "searcher", "state", "view"]
abbrev f_WindowTurn_does (K : PySem.W.Frag) : Addr := He.ma K (cWindowTurn K) "does"
abbrev fd_WindowTurn_does (K : PySem.W.Frag) : FuncData := fdOf K (f_WindowTurn_does K)
abbrev ps_WindowTurn_does : List Str := ["self", "searcher", "tree", "view"]
abbrev f_Trace_init (K : PySem.W.Frag) : Addr := He.ma K (cTrace K) "__init__"
abbrev fd_Trace_init (K : PySem.W.Frag) : FuncData := fdOf K (f_Trace_init K)
abbrev ps_Trace_init : List Str := ["self", "windows", "told"]
abbrev f_Node_init (K : PySem.W.Frag) : Addr := He.ma K (cNode K) "__init__"
abbrev fd_Node_init (K : PySem.W.Frag) : FuncData := fdOf K (f_Node_init K)
abbrev ps_Node_init : List Str := ["self", "letters", "left", "right", "size", "ends"]
abbrev f_Nodes_init (K : PySem.W.Frag) : Addr := He.ma K (cNodes K) "__init__"
abbrev fd_Nodes_init (K : PySem.W.Frag) : FuncData := fdOf K (f_Nodes_init K)
abbrev ps_Nodes_init : List Str := ["self", "most"]
abbrev f_Nodes_leaf (K : PySem.W.Frag) : Addr := He.ma K (cNodes K) "leaf"
abbrev fd_Nodes_leaf (K : PySem.W.Frag) : FuncData := fdOf K (f_Nodes_leaf K)
abbrev ps_Nodes_leaf : List Str := ["self", "letters"]
abbrev f_Nodes_pair (K : PySem.W.Frag) : Addr := He.ma K (cNodes K) "pair"
abbrev fd_Nodes_pair (K : PySem.W.Frag) : FuncData := fdOf K (f_Nodes_pair K)
abbrev ps_Nodes_pair : List Str := ["self", "left", "right"]
abbrev f_Nodes_often (K : PySem.W.Frag) : Addr := He.ma K (cNodes K) "often"
abbrev fd_Nodes_often (K : PySem.W.Frag) : FuncData := fdOf K (f_Nodes_often K)
abbrev ps_Nodes_often : List Str := ["self", "number", "count"]
abbrev f_Weave_init (K : PySem.W.Frag) : Addr := He.ma K (cWeave K) "__init__"
abbrev fd_Weave_init (K : PySem.W.Frag) : FuncData := fdOf K (f_Weave_init K)
abbrev ps_Weave_init : List Str := ["self", "letters", "rules", "root"]
abbrev f_Weave_woven (K : PySem.W.Frag) : Addr := He.ma K (cWeave K) "woven"
abbrev fd_Weave_woven (K : PySem.W.Frag) : FuncData := fdOf K (f_Weave_woven K)
abbrev ps_Weave_woven : List Str := ["self", "rules", "root"]
abbrev f_Weave_letter (K : PySem.W.Frag) : Addr := He.ma K (cWeave K) "letter"
abbrev fd_Weave_letter (K : PySem.W.Frag) : FuncData := fdOf K (f_Weave_letter K)
abbrev ps_Weave_letter : List Str := ["self", "number"]
abbrev f_Weave_part (K : PySem.W.Frag) : Addr := He.ma K (cWeave K) "part"
abbrev fd_Weave_part (K : PySem.W.Frag) : FuncData := fdOf K (f_Weave_part K)
abbrev ps_Weave_part : List Str := ["self", "first", "size"]
abbrev f_Sums_init (K : PySem.W.Frag) : Addr := He.ma K (cSums K) "__init__"
abbrev fd_Sums_init (K : PySem.W.Frag) : FuncData := fdOf K (f_Sums_init K)
abbrev ps_Sums_init : List Str := ["self", "cost", "windows", "told"]
abbrev f_Sums_plus (K : PySem.W.Frag) : Addr := He.ma K (cSums K) "plus"
abbrev fd_Sums_plus (K : PySem.W.Frag) : FuncData := fdOf K (f_Sums_plus K)
abbrev ps_Sums_plus : List Str := ["self", "other"]
abbrev f_Walk_init (K : PySem.W.Frag) : Addr := He.ma K (cWalk K) "__init__"
abbrev fd_Walk_init (K : PySem.W.Frag) : FuncData := fdOf K (f_Walk_init K)
abbrev ps_Walk_init : List Str := ["self", "searcher", "nodes"]
abbrev f_Walk_turns (K : PySem.W.Frag) : Addr := He.ma K (cWalk K) "turns"
abbrev fd_Walk_turns (K : PySem.W.Frag) : FuncData := fdOf K (f_Walk_turns K)
abbrev ps_Walk_turns : List Str := ["self", "views", "place", "state", "first", "most"]
abbrev f_Walk_summed (K : PySem.W.Frag) : Addr := He.ma K (cWalk K) "summed"
abbrev fd_Walk_summed (K : PySem.W.Frag) : FuncData := fdOf K (f_Walk_summed K)
abbrev ps_Walk_summed : List Str := ["self", "done"]
abbrev f_Walk_solved (K : PySem.W.Frag) : Addr := He.ma K (cWalk K) "solved"
abbrev fd_Walk_solved (K : PySem.W.Frag) : FuncData := fdOf K (f_Walk_solved K)
abbrev ps_Walk_solved : List Str := ["self", "number", "place", "state"]
abbrev f_Walk_lacking (K : PySem.W.Frag) : Addr := He.ma K (cWalk K) "lacking"
abbrev fd_Walk_lacking (K : PySem.W.Frag) : FuncData := fdOf K (f_Walk_lacking K)
abbrev ps_Walk_lacking : List Str := ["self", "key"]
abbrev f_Walk_crossed (K : PySem.W.Frag) : Addr := He.ma K (cWalk K) "crossed"
abbrev fd_Walk_crossed (K : PySem.W.Frag) : FuncData := fdOf K (f_Walk_crossed K)
abbrev ps_Walk_crossed : List Str := ["self", "node", "place", "state"]
abbrev f_Walk_one_seam (K : PySem.W.Frag) : Addr := He.ma K (cWalk K) "one_seam"
abbrev fd_Walk_one_seam (K : PySem.W.Frag) : FuncData := fdOf K (f_Walk_one_seam K)
abbrev ps_Walk_one_seam : List Str := ["self", "node", "place", "state"]
abbrev f_Walk_told_in (K : PySem.W.Frag) : Addr := He.ma K (cWalk K) "told_in"
abbrev fd_Walk_told_in (K : PySem.W.Frag) : FuncData := fdOf K (f_Walk_told_in K)
abbrev ps_Walk_told_in : List Str := ["self", "key", "k"]
abbrev f_Far_init (K : PySem.W.Frag) : Addr := He.ma K (cFar K) "__init__"
abbrev fd_Far_init (K : PySem.W.Frag) : FuncData := fdOf K (f_Far_init K)
abbrev ps_Far_init : List Str := ["self", "walk", "root", "last"]
abbrev f_Far_told_at (K : PySem.W.Frag) : Addr := He.ma K (cFar K) "told_at"
abbrev fd_Far_told_at (K : PySem.W.Frag) : FuncData := fdOf K (f_Far_told_at K)
abbrev ps_Far_told_at : List Str := ["self", "k"]
abbrev f_Searcher_init (K : PySem.W.Frag) : Addr := He.ma K (cSearcher K) "__init__"
abbrev fd_Searcher_init (K : PySem.W.Frag) : FuncData := fdOf K (f_Searcher_init K)
abbrev ps_Searcher_init : List Str := ["self", "letters", "width", "states"]
structure Tx0 (K : PySem.W.Frag) (mg : Str → Option Value) : Type where
  f_len : mg "len" = none
  f_range : mg "range" = none
  f_isinstance : mg "isinstance" = none
  f_str : mg "str" = none
  f_int : mg "int" = none
  f_bool : mg "bool" = none
  f_tuple : mg "tuple" = none
  f_list : mg "list" = none
  f_set : mg "set" = none
  f_all : mg "all" = none
  f_any : mg "any" = none
  f_sum : mg "sum" = none
  f_max : mg "max" = none
  f_min : mg "min" = none
  f_sorted : mg "sorted" = none
  f_enumerate : mg "enumerate" = none
  f_abs : mg "abs" = none
  tk_MOST_WIDTH : Tok
  i_MOST_WIDTH : mg "MOST_WIDTH" = some (.int 8 tk_MOST_WIDTH)
  tk_MOST_WORDS : Tok
  i_MOST_WORDS : mg "MOST_WORDS" = some (.int 3 tk_MOST_WORDS)
  tk_MOST_LETTERS : Tok
  i_MOST_LETTERS : mg "MOST_LETTERS" = some (.int 5000 tk_MOST_LETTERS)
  tk_MOST_RULES : Tok
  i_MOST_RULES : mg "MOST_RULES" = some (.int 40 tk_MOST_RULES)
  tk_MOST_PARTS : Tok
  i_MOST_PARTS : mg "MOST_PARTS" = some (.int 8 tk_MOST_PARTS)
  tk_MOST_NAME : Tok
  i_MOST_NAME : mg "MOST_NAME" = some (.int 8 tk_MOST_NAME)
  tk_MOST_SIGNS : Tok
  i_MOST_SIGNS : mg "MOST_SIGNS" = some (.int 60 tk_MOST_SIGNS)
  tk_MOST_COUNT : Tok
  i_MOST_COUNT : mg "MOST_COUNT" = some (.int 1000000000000000000000000000000 tk_MOST_COUNT)
  tk_MOST_CUT : Tok
  i_MOST_CUT : mg "MOST_CUT" = some (.int 2000 tk_MOST_CUT)
  tk_MOST_STATES : Tok
  i_MOST_STATES : mg "MOST_STATES" = some (.int 64 tk_MOST_STATES)
  tk_MOST_LEVELS : Tok
  i_MOST_LEVELS : mg "MOST_LEVELS" = some (.int 40 tk_MOST_LEVELS)
  tk_MOST_NODES : Tok
  i_MOST_NODES : mg "MOST_NODES" = some (.int 3000 tk_MOST_NODES)
  tk_MOST_TOLD : Tok
  i_MOST_TOLD : mg "MOST_TOLD" = some (.int 3 tk_MOST_TOLD)
  tk_SMALL : Tok
  s_SMALL : mg "SMALL" = some (.str "abcdefghijklmnopqrstuvwxyz" tk_SMALL)
  tk_CAPITALS : Tok
  s_CAPITALS : mg "CAPITALS" = some (.str "ABCDEFGHIJKLMNOPQRSTUVWXYZ" tk_CAPITALS)
  tk_ALL_KNOWN : Tok
  s_ALL_KNOWN : mg "ALL_KNOWN" = some (.str "all knowledge" tk_ALL_KNOWN)
structure Tx1 (K : PySem.W.Frag) (mg : Str → Option Value) : Type where
  g_FROM_LEFT : mg "FROM_LEFT" = some (.ref (aFROM_LEFT K))
  q_FROM_LEFT : ∀ H : Hp, SqT K H (aFROM_LEFT K) [.str "borders", .str "strict borders", .str "by letters"]
  g_BY_ONE_STATE : mg "BY_ONE_STATE" = some (.ref (aBY_ONE_STATE K))
  q_BY_ONE_STATE : ∀ H : Hp, SqT K H (aBY_ONE_STATE K) [.str "plain", .str "last letter", .str "letter behind"]
  g_FROM_RIGHT : mg "FROM_RIGHT" = some (.ref (aFROM_RIGHT K))
  q_FROM_RIGHT : ∀ H : Hp, SqT K H (aFROM_RIGHT K) [.str "bad letter", .str "good end", .str "both", .str "both and known"]
  g_WindowTurn : mg "WindowTurn" = some (.ref (cWindowTurn K))
  c_WindowTurn : Cls K (cWindowTurn K)
  mk_WindowTurn : Mk K (cWindowTurn K) (f_WindowTurn_init K)
  n_WindowTurn_reads : NoAttr K (cWindowTurn K) "reads"
  n_WindowTurn_numbers : NoAttr K (cWindowTurn K) "numbers"
  n_WindowTurn_slide : NoAttr K (cWindowTurn K) "slide"
  n_WindowTurn_state : NoAttr K (cWindowTurn K) "state"
  me_WindowTurn_does : Meth K (cWindowTurn K) "does" (f_WindowTurn_does K)
  g_Trace : mg "Trace" = some (.ref (cTrace K))
  c_Trace : Cls K (cTrace K)
  mk_Trace : Mk K (cTrace K) (f_Trace_init K)
  n_Trace_windows : NoAttr K (cTrace K) "windows"
  n_Trace_told : NoAttr K (cTrace K) "told"
  n_Trace_cost : NoAttr K (cTrace K) "cost"
  g_Node : mg "Node" = some (.ref (cNode K))
  c_Node : Cls K (cNode K)
  mk_Node : Mk K (cNode K) (f_Node_init K)
  n_Node_letters : NoAttr K (cNode K) "letters"
  n_Node_left : NoAttr K (cNode K) "left"
  n_Node_right : NoAttr K (cNode K) "right"
  n_Node_size : NoAttr K (cNode K) "size"
  n_Node_ends : NoAttr K (cNode K) "ends"
  g_Nodes : mg "Nodes" = some (.ref (cNodes K))
  c_Nodes : Cls K (cNodes K)
  mk_Nodes : Mk K (cNodes K) (f_Nodes_init K)
  n_Nodes_most : NoAttr K (cNodes K) "most"
  n_Nodes_rows : NoAttr K (cNodes K) "rows"
  me_Nodes_leaf : Meth K (cNodes K) "leaf" (f_Nodes_leaf K)
  me_Nodes_pair : Meth K (cNodes K) "pair" (f_Nodes_pair K)
  me_Nodes_often : Meth K (cNodes K) "often" (f_Nodes_often K)
  g_Weave : mg "Weave" = some (.ref (cWeave K))
  c_Weave : Cls K (cWeave K)
  mk_Weave : Mk K (cWeave K) (f_Weave_init K)
  n_Weave_letters : NoAttr K (cWeave K) "letters"
  n_Weave_own_nodes : NoAttr K (cWeave K) "own_nodes"
  n_Weave_own_root : NoAttr K (cWeave K) "own_root"
  n_Weave_size : NoAttr K (cWeave K) "size"
  me_Weave_woven : Meth K (cWeave K) "woven" (f_Weave_woven K)
  me_Weave_letter : Meth K (cWeave K) "letter" (f_Weave_letter K)
  me_Weave_part : Meth K (cWeave K) "part" (f_Weave_part K)
  g_Sums : mg "Sums" = some (.ref (cSums K))
  c_Sums : Cls K (cSums K)
structure Tx2 (K : PySem.W.Frag) (mg : Str → Option Value) : Type where
  mk_Sums : Mk K (cSums K) (f_Sums_init K)
  n_Sums_cost : NoAttr K (cSums K) "cost"
  n_Sums_windows : NoAttr K (cSums K) "windows"
  n_Sums_told : NoAttr K (cSums K) "told"
  me_Sums_plus : Meth K (cSums K) "plus" (f_Sums_plus K)
  g_Walk : mg "Walk" = some (.ref (cWalk K))
  c_Walk : Cls K (cWalk K)
  mk_Walk : Mk K (cWalk K) (f_Walk_init K)
  n_Walk_searcher : NoAttr K (cWalk K) "searcher"
  n_Walk_rows : NoAttr K (cWalk K) "rows"
  n_Walk_known : NoAttr K (cWalk K) "known"
  n_Walk_seams : NoAttr K (cWalk K) "seams"
  me_Walk_turns : Meth K (cWalk K) "turns" (f_Walk_turns K)
  me_Walk_summed : Meth K (cWalk K) "summed" (f_Walk_summed K)
  me_Walk_solved : Meth K (cWalk K) "solved" (f_Walk_solved K)
  me_Walk_lacking : Meth K (cWalk K) "lacking" (f_Walk_lacking K)
  me_Walk_crossed : Meth K (cWalk K) "crossed" (f_Walk_crossed K)
  me_Walk_one_seam : Meth K (cWalk K) "one_seam" (f_Walk_one_seam K)
  me_Walk_told_in : Meth K (cWalk K) "told_in" (f_Walk_told_in K)
  g_Far : mg "Far" = some (.ref (cFar K))
  c_Far : Cls K (cFar K)
  mk_Far : Mk K (cFar K) (f_Far_init K)
  n_Far_cost : NoAttr K (cFar K) "cost"
  n_Far_windows : NoAttr K (cFar K) "windows"
  n_Far_told : NoAttr K (cFar K) "told"
  n_Far_own_walk : NoAttr K (cFar K) "own_walk"
  n_Far_own_root : NoAttr K (cFar K) "own_root"
  n_Far_own_last : NoAttr K (cFar K) "own_last"
  me_Far_told_at : Meth K (cFar K) "told_at" (f_Far_told_at K)
  g_Searcher : mg "Searcher" = some (.ref (cSearcher K))
  c_Searcher : Cls K (cSearcher K)
  mk_Searcher : Mk K (cSearcher K) (f_Searcher_init K)
  n_Searcher_letters : NoAttr K (cSearcher K) "letters"
  n_Searcher_width : NoAttr K (cSearcher K) "width"
  n_Searcher_states : NoAttr K (cSearcher K) "states"
  n_Searcher_nodes : NoAttr K (cSearcher K) "nodes"
  g_check_letters : mg "check_letters" = some (.ref (f_check_letters K))
  F_check_letters : FunD K "check_letters" "check_letters" (defArgs s_check_letters) (defBody s_check_letters) (defScope s_check_letters) [] [] (f_check_letters K) (fd_check_letters K)
  k_check_letters : PySem.W.keepIn K (.ref (f_check_letters K)) = true
  b_check_letters : Binds K (fd_check_letters K) ps_check_letters []
  g_is_word : mg "is_word" = some (.ref (f_is_word K))
  F_is_word : FunD K "is_word" "is_word" (defArgs s_is_word) (defBody s_is_word) (defScope s_is_word) [] [] (f_is_word K) (fd_is_word K)
  k_is_word : PySem.W.keepIn K (.ref (f_is_word K)) = true
  b_is_word : Binds K (fd_is_word K) ps_is_word []
  g_check_words : mg "check_words" = some (.ref (f_check_words K))
  F_check_words : FunD K "check_words" "check_words" (defArgs s_check_words) (defBody s_check_words) (defScope s_check_words) [] [] (f_check_words K) (fd_check_words K)
  k_check_words : PySem.W.keepIn K (.ref (f_check_words K)) = true
  b_check_words : Binds K (fd_check_words K) ps_check_words []
structure Tx3 (K : PySem.W.Frag) (mg : Str → Option Value) : Type where
  g_check_text : mg "check_text" = some (.ref (f_check_text K))
  F_check_text : FunD K "check_text" "check_text" (defArgs s_check_text) (defBody s_check_text) (defScope s_check_text) [] [] (f_check_text K) (fd_check_text K)
  k_check_text : PySem.W.keepIn K (.ref (f_check_text K)) = true
  b_check_text : Binds K (fd_check_text K) ps_check_text []
  g_trace : mg "trace" = some (.ref (f_trace K))
  F_trace : FunD K "trace" "trace" (defArgs s_trace) (defBody s_trace) (defScope s_trace) [] [] (f_trace K) (fd_trace K)
  k_trace : PySem.W.keepIn K (.ref (f_trace K)) = true
  b_trace : Binds K (fd_trace K) ps_trace []
  g_is_name : mg "is_name" = some (.ref (f_is_name K))
  F_is_name : FunD K "is_name" "is_name" (defArgs s_is_name) (defBody s_is_name) (defScope s_is_name) [] [] (f_is_name K) (fd_is_name K)
  k_is_name : PySem.W.keepIn K (.ref (f_is_name K)) = true
  b_is_name : Binds K (fd_is_name K) ps_is_name []
  g_is_count : mg "is_count" = some (.ref (f_is_count K))
  F_is_count : FunD K "is_count" "is_count" (defArgs s_is_count) (defBody s_is_count) (defScope s_is_count) [] [] (f_is_count K) (fd_is_count K)
  k_is_count : PySem.W.keepIn K (.ref (f_is_count K)) = true
  b_is_count : Binds K (fd_is_count K) ps_is_count []
  g_is_part : mg "is_part" = some (.ref (f_is_part K))
  F_is_part : FunD K "is_part" "is_part" (defArgs s_is_part) (defBody s_is_part) (defScope s_is_part) [] [] (f_is_part K) (fd_is_part K)
  k_is_part : PySem.W.keepIn K (.ref (f_is_part K)) = true
  b_is_part : Binds K (fd_is_part K) ps_is_part []
  g_is_rule : mg "is_rule" = some (.ref (f_is_rule K))
  F_is_rule : FunD K "is_rule" "is_rule" (defArgs s_is_rule) (defBody s_is_rule) (defScope s_is_rule) [] [] (f_is_rule K) (fd_is_rule K)
  k_is_rule : PySem.W.keepIn K (.ref (f_is_rule K)) = true
  b_is_rule : Binds K (fd_is_rule K) ps_is_rule []
  g_check_rules : mg "check_rules" = some (.ref (f_check_rules K))
  F_check_rules : FunD K "check_rules" "check_rules" (defArgs s_check_rules) (defBody s_check_rules) (defScope s_check_rules) [] [] (f_check_rules K) (fd_check_rules K)
  k_check_rules : PySem.W.keepIn K (.ref (f_check_rules K)) = true
  b_check_rules : Binds K (fd_check_rules K) ps_check_rules []
  g_names_in : mg "names_in" = some (.ref (f_names_in K))
  F_names_in : FunD K "names_in" "names_in" (defArgs s_names_in) (defBody s_names_in) (defScope s_names_in) [] [] (f_names_in K) (fd_names_in K)
  k_names_in : PySem.W.keepIn K (.ref (f_names_in K)) = true
  b_names_in : Binds K (fd_names_in K) ps_names_in []
  g_ordered : mg "ordered" = some (.ref (f_ordered K))
  F_ordered : FunD K "ordered" "ordered" (defArgs s_ordered) (defBody s_ordered) (defScope s_ordered) [] [] (f_ordered K) (fd_ordered K)
  k_ordered : PySem.W.keepIn K (.ref (f_ordered K)) = true
  b_ordered : Binds K (fd_ordered K) ps_ordered []
  g_far : mg "far" = some (.ref (f_far K))
  F_far : FunD K "far" "far" (defArgs s_far) (defBody s_far) (defScope s_far) [] [] (f_far K) (fd_far K)
  k_far : PySem.W.keepIn K (.ref (f_far K)) = true
  b_far : Binds K (fd_far K) ps_far []
  g_is_number : mg "is_number" = some (.ref (f_is_number K))
  F_is_number : FunD K "is_number" "is_number" (defArgs s_is_number) (defBody s_is_number) (defScope s_is_number) [] [] (f_is_number K) (fd_is_number K)
  k_is_number : PySem.W.keepIn K (.ref (f_is_number K)) = true
  b_is_number : Binds K (fd_is_number K) ps_is_number []
  g_is_head : mg "is_head" = some (.ref (f_is_head K))
  F_is_head : FunD K "is_head" "is_head" (defArgs s_is_head) (defBody s_is_head) (defScope s_is_head) [] [] (f_is_head K) (fd_is_head K)
  k_is_head : PySem.W.keepIn K (.ref (f_is_head K)) = true
  b_is_head : Binds K (fd_is_head K) ps_is_head []
structure Tx4 (K : PySem.W.Frag) (mg : Str → Option Value) : Type where
  g_within : mg "within" = some (.ref (f_within K))
  F_within : FunD K "within" "within" (defArgs s_within) (defBody s_within) (defScope s_within) [] [] (f_within K) (fd_within K)
  k_within : PySem.W.keepIn K (.ref (f_within K)) = true
  b_within : Binds K (fd_within K) ps_within []
  g_checked : mg "checked" = some (.ref (f_checked K))
  F_checked : FunD K "checked" "checked" (defArgs s_checked) (defBody s_checked) (defScope s_checked) [] [] (f_checked K) (fd_checked K)
  k_checked : PySem.W.keepIn K (.ref (f_checked K)) = true
  b_checked : Binds K (fd_checked K) ps_checked []
  g_kept : mg "kept" = some (.ref (f_kept K))
  F_kept : FunD K "kept" "kept" (defArgs s_kept) (defBody s_kept) (defScope s_kept) [] [] (f_kept K) (fd_kept K)
  k_kept : PySem.W.keepIn K (.ref (f_kept K)) = true
  b_kept : Binds K (fd_kept K) ps_kept []
  g_borders_of : mg "borders_of" = some (.ref (f_borders_of K))
  F_borders_of : FunD K "borders_of" "borders_of" (defArgs s_borders_of) (defBody s_borders_of) (defScope s_borders_of) [] [] (f_borders_of K) (fd_borders_of K)
  k_borders_of : PySem.W.keepIn K (.ref (f_borders_of K)) = true
  b_borders_of : Binds K (fd_borders_of K) ps_borders_of []
  g_steps_down : mg "steps_down" = some (.ref (f_steps_down K))
  F_steps_down : FunD K "steps_down" "steps_down" (defArgs s_steps_down) (defBody s_steps_down) (defScope s_steps_down) [] [] (f_steps_down K) (fd_steps_down K)
  k_steps_down : PySem.W.keepIn K (.ref (f_steps_down K)) = true
  b_steps_down : Binds K (fd_steps_down K) ps_steps_down []
  g_last_of : mg "last_of" = some (.ref (f_last_of K))
  F_last_of : FunD K "last_of" "last_of" (defArgs s_last_of) (defBody s_last_of) (defScope s_last_of) [] [] (f_last_of K) (fd_last_of K)
  k_last_of : PySem.W.keepIn K (.ref (f_last_of K)) = true
  b_last_of : Binds K (fd_last_of K) ps_last_of []
  g_compared : mg "compared" = some (.ref (f_compared K))
  F_compared : FunD K "compared" "compared" (defArgs s_compared) (defBody s_compared) (defScope s_compared) [] [] (f_compared K) (fd_compared K)
  k_compared : PySem.W.keepIn K (.ref (f_compared K)) = true
  b_compared : Binds K (fd_compared K) ps_compared []
  g_left_step : mg "left_step" = some (.ref (f_left_step K))
  F_left_step : FunD K "left_step" "left_step" (defArgs s_left_step) (defBody s_left_step) (defScope s_left_step) [] [] (f_left_step K) (fd_left_step K)
  k_left_step : PySem.W.keepIn K (.ref (f_left_step K)) = true
  b_left_step : Binds K (fd_left_step K) ps_left_step []
  g_from_left : mg "from_left" = some (.ref (f_from_left K))
  F_from_left : FunD K "from_left" "from_left" (defArgs s_from_left) (defBody s_from_left) (defScope s_from_left) [] [] (f_from_left K) (fd_from_left K)
  k_from_left : PySem.W.keepIn K (.ref (f_from_left K)) = true
  b_from_left : Binds K (fd_from_left K) ps_from_left []
  g_by_one_letter : mg "by_one_letter" = some (.ref (f_by_one_letter K))
  F_by_one_letter : FunD K "by_one_letter" "by_one_letter" (defArgs s_by_one_letter) (defBody s_by_one_letter) (defScope s_by_one_letter) [] [] (f_by_one_letter K) (fd_by_one_letter K)
  k_by_one_letter : PySem.W.keepIn K (.ref (f_by_one_letter K)) = true
  b_by_one_letter : Binds K (fd_by_one_letter K) ps_by_one_letter []
  g_is_good_slide : mg "is_good_slide" = some (.ref (f_is_good_slide K))
  F_is_good_slide : FunD K "is_good_slide" "is_good_slide" (defArgs s_is_good_slide) (defBody s_is_good_slide) (defScope s_is_good_slide) [] [] (f_is_good_slide K) (fd_is_good_slide K)
  k_is_good_slide : PySem.W.keepIn K (.ref (f_is_good_slide K)) = true
  b_is_good_slide : Binds K (fd_is_good_slide K) ps_is_good_slide []
  g_right_slide : mg "right_slide" = some (.ref (f_right_slide K))
  F_right_slide : FunD K "right_slide" "right_slide" (defArgs s_right_slide) (defBody s_right_slide) (defScope s_right_slide) [] [] (f_right_slide K) (fd_right_slide K)
  k_right_slide : PySem.W.keepIn K (.ref (f_right_slide K)) = true
  b_right_slide : Binds K (fd_right_slide K) ps_right_slide []
structure Tx5 (K : PySem.W.Frag) (mg : Str → Option Value) : Type where
  g_from_right : mg "from_right" = some (.ref (f_from_right K))
  F_from_right : FunD K "from_right" "from_right" (defArgs s_from_right) (defBody s_from_right) (defScope s_from_right) [] [] (f_from_right K) (fd_from_right K)
  k_from_right : PySem.W.keepIn K (.ref (f_from_right K)) = true
  b_from_right : Binds K (fd_from_right K) ps_from_right []
  g_made : mg "made" = some (.ref (f_made K))
  F_made : FunD K "made" "made" (defArgs s_made) (defBody s_made) (defScope s_made) [] [] (f_made K) (fd_made K)
  k_made : PySem.W.keepIn K (.ref (f_made K)) = true
  b_made : Binds K (fd_made K) ps_made []
  g_law_pen : mg "_law_pen" = some (.ref (f_law_pen K))
  F_law_pen : FunD K "_law_pen" "_law_pen" (defArgs s_law_pen) (defBody s_law_pen) (defScope s_law_pen) [] [] (f_law_pen K) (fd_law_pen K)
  k_law_pen : PySem.W.keepIn K (.ref (f_law_pen K)) = true
  b_law_pen : Binds K (fd_law_pen K) ps_law_pen []
  g_law_draw : mg "_law_draw" = some (.ref (f_law_draw K))
  F_law_draw : FunD K "_law_draw" "_law_draw" (defArgs s_law_draw) (defBody s_law_draw) (defScope s_law_draw) [] [] (f_law_draw K) (fd_law_draw K)
  k_law_draw : PySem.W.keepIn K (.ref (f_law_draw K)) = true
  b_law_draw : Binds K (fd_law_draw K) ps_law_draw []
  g_law_pick : mg "_law_pick" = some (.ref (f_law_pick K))
  F_law_pick : FunD K "_law_pick" "_law_pick" (defArgs s_law_pick) (defBody s_law_pick) (defScope s_law_pick) [] [] (f_law_pick K) (fd_law_pick K)
  k_law_pick : PySem.W.keepIn K (.ref (f_law_pick K)) = true
  b_law_pick : Binds K (fd_law_pick K) ps_law_pick []
  g_law_letters : mg "_law_letters" = some (.ref (f_law_letters K))
  F_law_letters : FunD K "_law_letters" "_law_letters" (defArgs s_law_letters) (defBody s_law_letters) (defScope s_law_letters) [] [] (f_law_letters K) (fd_law_letters K)
  k_law_letters : PySem.W.keepIn K (.ref (f_law_letters K)) = true
  b_law_letters : Binds K (fd_law_letters K) ps_law_letters []
  g_law_word : mg "_law_word" = some (.ref (f_law_word K))
  F_law_word : FunD K "_law_word" "_law_word" (defArgs s_law_word) (defBody s_law_word) (defScope s_law_word) [] [] (f_law_word K) (fd_law_word K)
  k_law_word : PySem.W.keepIn K (.ref (f_law_word K)) = true
  b_law_word : Binds K (fd_law_word K) ps_law_word []
  g_law_ways : mg "_law_ways" = some (.ref (f_law_ways K))
  F_law_ways : FunD K "_law_ways" "_law_ways" (defArgs s_law_ways) (defBody s_law_ways) (defScope s_law_ways) [] [] (f_law_ways K) (fd_law_ways K)
  k_law_ways : PySem.W.keepIn K (.ref (f_law_ways K)) = true
  b_law_ways : Binds K (fd_law_ways K) ps_law_ways []
  g_law_bent_tree : mg "_law_bent_tree" = some (.ref (f_law_bent_tree K))
  F_law_bent_tree : FunD K "_law_bent_tree" "_law_bent_tree" (defArgs s_law_bent_tree) (defBody s_law_bent_tree) (defScope s_law_bent_tree) [] [] (f_law_bent_tree K) (fd_law_bent_tree K)
  k_law_bent_tree : PySem.W.keepIn K (.ref (f_law_bent_tree K)) = true
  b_law_bent_tree : Binds K (fd_law_bent_tree K) ps_law_bent_tree []
  g_law_bent : mg "_law_bent" = some (.ref (f_law_bent K))
  F_law_bent : FunD K "_law_bent" "_law_bent" (defArgs s_law_bent) (defBody s_law_bent) (defScope s_law_bent) [] [] (f_law_bent K) (fd_law_bent K)
  k_law_bent : PySem.W.keepIn K (.ref (f_law_bent K)) = true
  b_law_bent : Binds K (fd_law_bent K) ps_law_bent []
  g_law_rules : mg "_law_rules" = some (.ref (f_law_rules K))
  F_law_rules : FunD K "_law_rules" "_law_rules" (defArgs s_law_rules) (defBody s_law_rules) (defScope s_law_rules) [] [] (f_law_rules K) (fd_law_rules K)
  k_law_rules : PySem.W.keepIn K (.ref (f_law_rules K)) = true
  b_law_rules : Binds K (fd_law_rules K) ps_law_rules []
  g_law : mg "law" = some (.ref (f_law K))
  F_law : FunD K "law" "law" (defArgs s_law) (defBody s_law) (defScope s_law) [] [] (f_law K) (fd_law K)
  k_law : PySem.W.keepIn K (.ref (f_law K)) = true
  b_law : Binds K (fd_law K) ps_law []
structure Tx6 (K : PySem.W.Frag) (mg : Str → Option Value) : Type where
  F_WindowTurn_init : FunD K "__init__" "WindowTurn.__init__" (defArgs s_WindowTurn_init) (defBody s_WindowTurn_init) (defScope s_WindowTurn_init) [] [] (f_WindowTurn_init K) (fd_WindowTurn_init K)
  k_WindowTurn_init : PySem.W.keepIn K (.ref (f_WindowTurn_init K)) = true
  b_WindowTurn_init : Binds K (fd_WindowTurn_init K) ps_WindowTurn_init []
  F_WindowTurn_does : FunD K "does" "WindowTurn.does" (defArgs s_WindowTurn_does) (defBody s_WindowTurn_does) (defScope s_WindowTurn_does) [] [] (f_WindowTurn_does K) (fd_WindowTurn_does K)
  k_WindowTurn_does : PySem.W.keepIn K (.ref (f_WindowTurn_does K)) = true
  b_WindowTurn_does : Binds K (fd_WindowTurn_does K) ps_WindowTurn_does []
  F_Trace_init : FunD K "__init__" "Trace.__init__" (defArgs s_Trace_init) (defBody s_Trace_init) (defScope s_Trace_init) [] [] (f_Trace_init K) (fd_Trace_init K)
  k_Trace_init : PySem.W.keepIn K (.ref (f_Trace_init K)) = true
  b_Trace_init : Binds K (fd_Trace_init K) ps_Trace_init []
  F_Node_init : FunD K "__init__" "Node.__init__" (defArgs s_Node_init) (defBody s_Node_init) (defScope s_Node_init) [] [] (f_Node_init K) (fd_Node_init K)
  k_Node_init : PySem.W.keepIn K (.ref (f_Node_init K)) = true
  b_Node_init : Binds K (fd_Node_init K) ps_Node_init []
  F_Nodes_init : FunD K "__init__" "Nodes.__init__" (defArgs s_Nodes_init) (defBody s_Nodes_init) (defScope s_Nodes_init) [] [] (f_Nodes_init K) (fd_Nodes_init K)
  k_Nodes_init : PySem.W.keepIn K (.ref (f_Nodes_init K)) = true
  b_Nodes_init : Binds K (fd_Nodes_init K) ps_Nodes_init []
  F_Nodes_leaf : FunD K "leaf" "Nodes.leaf" (defArgs s_Nodes_leaf) (defBody s_Nodes_leaf) (defScope s_Nodes_leaf) [] [] (f_Nodes_leaf K) (fd_Nodes_leaf K)
  k_Nodes_leaf : PySem.W.keepIn K (.ref (f_Nodes_leaf K)) = true
  b_Nodes_leaf : Binds K (fd_Nodes_leaf K) ps_Nodes_leaf []
  F_Nodes_pair : FunD K "pair" "Nodes.pair" (defArgs s_Nodes_pair) (defBody s_Nodes_pair) (defScope s_Nodes_pair) [] [] (f_Nodes_pair K) (fd_Nodes_pair K)
  k_Nodes_pair : PySem.W.keepIn K (.ref (f_Nodes_pair K)) = true
  b_Nodes_pair : Binds K (fd_Nodes_pair K) ps_Nodes_pair []
  F_Nodes_often : FunD K "often" "Nodes.often" (defArgs s_Nodes_often) (defBody s_Nodes_often) (defScope s_Nodes_often) [] [] (f_Nodes_often K) (fd_Nodes_often K)
  k_Nodes_often : PySem.W.keepIn K (.ref (f_Nodes_often K)) = true
  b_Nodes_often : Binds K (fd_Nodes_often K) ps_Nodes_often []
  F_Weave_init : FunD K "__init__" "Weave.__init__" (defArgs s_Weave_init) (defBody s_Weave_init) (defScope s_Weave_init) [] [] (f_Weave_init K) (fd_Weave_init K)
  k_Weave_init : PySem.W.keepIn K (.ref (f_Weave_init K)) = true
  b_Weave_init : Binds K (fd_Weave_init K) ps_Weave_init []
  F_Weave_woven : FunD K "woven" "Weave.woven" (defArgs s_Weave_woven) (defBody s_Weave_woven) (defScope s_Weave_woven) [] [] (f_Weave_woven K) (fd_Weave_woven K)
  k_Weave_woven : PySem.W.keepIn K (.ref (f_Weave_woven K)) = true
  b_Weave_woven : Binds K (fd_Weave_woven K) ps_Weave_woven []
  F_Weave_letter : FunD K "letter" "Weave.letter" (defArgs s_Weave_letter) (defBody s_Weave_letter) (defScope s_Weave_letter) [] [] (f_Weave_letter K) (fd_Weave_letter K)
  k_Weave_letter : PySem.W.keepIn K (.ref (f_Weave_letter K)) = true
  b_Weave_letter : Binds K (fd_Weave_letter K) ps_Weave_letter []
  F_Weave_part : FunD K "part" "Weave.part" (defArgs s_Weave_part) (defBody s_Weave_part) (defScope s_Weave_part) [] [] (f_Weave_part K) (fd_Weave_part K)
  k_Weave_part : PySem.W.keepIn K (.ref (f_Weave_part K)) = true
  b_Weave_part : Binds K (fd_Weave_part K) ps_Weave_part []
  F_Sums_init : FunD K "__init__" "Sums.__init__" (defArgs s_Sums_init) (defBody s_Sums_init) (defScope s_Sums_init) [] [] (f_Sums_init K) (fd_Sums_init K)
  k_Sums_init : PySem.W.keepIn K (.ref (f_Sums_init K)) = true
  b_Sums_init : Binds K (fd_Sums_init K) ps_Sums_init []
  F_Sums_plus : FunD K "plus" "Sums.plus" (defArgs s_Sums_plus) (defBody s_Sums_plus) (defScope s_Sums_plus) [] [] (f_Sums_plus K) (fd_Sums_plus K)
  k_Sums_plus : PySem.W.keepIn K (.ref (f_Sums_plus K)) = true
  b_Sums_plus : Binds K (fd_Sums_plus K) ps_Sums_plus []
  F_Walk_init : FunD K "__init__" "Walk.__init__" (defArgs s_Walk_init) (defBody s_Walk_init) (defScope s_Walk_init) [] [] (f_Walk_init K) (fd_Walk_init K)
  k_Walk_init : PySem.W.keepIn K (.ref (f_Walk_init K)) = true
  b_Walk_init : Binds K (fd_Walk_init K) ps_Walk_init []
  F_Walk_turns : FunD K "turns" "Walk.turns" (defArgs s_Walk_turns) (defBody s_Walk_turns) (defScope s_Walk_turns) [] [] (f_Walk_turns K) (fd_Walk_turns K)
  k_Walk_turns : PySem.W.keepIn K (.ref (f_Walk_turns K)) = true
  b_Walk_turns : Binds K (fd_Walk_turns K) ps_Walk_turns []
structure Tx7 (K : PySem.W.Frag) (mg : Str → Option Value) : Type where
  F_Walk_summed : FunD K "summed" "Walk.summed" (defArgs s_Walk_summed) (defBody s_Walk_summed) (defScope s_Walk_summed) [] [] (f_Walk_summed K) (fd_Walk_summed K)
  k_Walk_summed : PySem.W.keepIn K (.ref (f_Walk_summed K)) = true
  b_Walk_summed : Binds K (fd_Walk_summed K) ps_Walk_summed []
  F_Walk_solved : FunD K "solved" "Walk.solved" (defArgs s_Walk_solved) (defBody s_Walk_solved) (defScope s_Walk_solved) [] [] (f_Walk_solved K) (fd_Walk_solved K)
  k_Walk_solved : PySem.W.keepIn K (.ref (f_Walk_solved K)) = true
  b_Walk_solved : Binds K (fd_Walk_solved K) ps_Walk_solved []
  F_Walk_lacking : FunD K "lacking" "Walk.lacking" (defArgs s_Walk_lacking) (defBody s_Walk_lacking) (defScope s_Walk_lacking) [] [] (f_Walk_lacking K) (fd_Walk_lacking K)
  k_Walk_lacking : PySem.W.keepIn K (.ref (f_Walk_lacking K)) = true
  b_Walk_lacking : Binds K (fd_Walk_lacking K) ps_Walk_lacking []
  F_Walk_crossed : FunD K "crossed" "Walk.crossed" (defArgs s_Walk_crossed) (defBody s_Walk_crossed) (defScope s_Walk_crossed) [] [] (f_Walk_crossed K) (fd_Walk_crossed K)
  k_Walk_crossed : PySem.W.keepIn K (.ref (f_Walk_crossed K)) = true
  b_Walk_crossed : Binds K (fd_Walk_crossed K) ps_Walk_crossed []
  F_Walk_one_seam : FunD K "one_seam" "Walk.one_seam" (defArgs s_Walk_one_seam) (defBody s_Walk_one_seam) (defScope s_Walk_one_seam) [] [] (f_Walk_one_seam K) (fd_Walk_one_seam K)
  k_Walk_one_seam : PySem.W.keepIn K (.ref (f_Walk_one_seam K)) = true
  b_Walk_one_seam : Binds K (fd_Walk_one_seam K) ps_Walk_one_seam []
  F_Walk_told_in : FunD K "told_in" "Walk.told_in" (defArgs s_Walk_told_in) (defBody s_Walk_told_in) (defScope s_Walk_told_in) [] [] (f_Walk_told_in K) (fd_Walk_told_in K)
  k_Walk_told_in : PySem.W.keepIn K (.ref (f_Walk_told_in K)) = true
  b_Walk_told_in : Binds K (fd_Walk_told_in K) ps_Walk_told_in []
  F_Far_init : FunD K "__init__" "Far.__init__" (defArgs s_Far_init) (defBody s_Far_init) (defScope s_Far_init) [] [] (f_Far_init K) (fd_Far_init K)
  k_Far_init : PySem.W.keepIn K (.ref (f_Far_init K)) = true
  b_Far_init : Binds K (fd_Far_init K) ps_Far_init []
  F_Far_told_at : FunD K "told_at" "Far.told_at" (defArgs s_Far_told_at) (defBody s_Far_told_at) (defScope s_Far_told_at) [] [] (f_Far_told_at K) (fd_Far_told_at K)
  k_Far_told_at : PySem.W.keepIn K (.ref (f_Far_told_at K)) = true
  b_Far_told_at : Binds K (fd_Far_told_at K) ps_Far_told_at []
  F_Searcher_init : FunD K "__init__" "Searcher.__init__" (defArgs s_Searcher_init) (defBody s_Searcher_init) (defScope s_Searcher_init) [] [] (f_Searcher_init K) (fd_Searcher_init K)
  k_Searcher_init : PySem.W.keepIn K (.ref (f_Searcher_init K)) = true
  b_Searcher_init : Binds K (fd_Searcher_init K) ps_Searcher_init []
structure Tx (K : PySem.W.Frag) (mg : Str → Option Value) : Type extends Tx0 K mg, Tx1 K mg, Tx2 K mg, Tx3 K mg, Tx4 K mg, Tx5 K mg, Tx6 K mg, Tx7 K mg
end Wk
namespace Wk
open PySem PySem.Spec PyProof.Rows L2
abbrev N_check_letters : List Str := ["letters", "letter"]
theorem sc_check_letters : FnScope N_check_letters ps_check_letters (defScope s_check_letters) := ⟨rfl, rfl, rfl, by decide +kernel, rfl, by decide +kernel, by decide +kernel⟩
def t_check_letters (K : PySem.W.Frag) : TS :=
    (tSeq (tIfS (tOr (tNot (tB (tCB (rIsi K) (tCons (tVar 0) (tCons (tC (.ty "str")) tNil))))) (tOr (tNot (tTest (tChain rLeI rLeI (tC (.int 2)) (tCB rLenS (tCons (tVar 0) tNil)) (tC (.int 4))))) (tTest (tOp rLtI (tLenSetS (tVar 0)) (tCB rLenS (tCons (tVar 0) tNil)))))) tNever tNext)
    (tIfS (tNot (tB (tCB (rAll K) (tCons (tLc (iStr (tVar 0)) (gName 1) tYes (tOp rInS (tVar 1) (tC (.str "abcdefghijklmnopqrstuvwxyz"))) [1]) tNil)))) tNever tNext))
abbrev N_is_word : List Str := ["letters", "value", "letter"]
theorem sc_is_word : FnScope N_is_word ps_is_word (defScope s_is_word) := ⟨rfl, rfl, rfl, by decide +kernel, rfl, by decide +kernel, by decide +kernel⟩
def t_is_word (K : PySem.W.Frag) : TS :=
    (tSeq (tIfS (tOr (tNot (tB (tCB (rIsi K) (tCons (tVar 1) (tCons (tC (.ty "str")) tNil))))) (tNot (tTest (tChain rLeI rLeI (tC (.int 1)) (tCB rLenS (tCons (tVar 1) tNil)) (tC (.int 8)))))) (tRet (tC (.bl false))) tNext)
    (tRet (tCB (rAll K) (tCons (tLc (iStr (tVar 1)) (gName 2) tYes (tOp rInS (tVar 2) (tVar 0)) [2]) tNil))))
abbrev N_check_words : List Str := ["letters", "words", "place", "word"]
theorem sc_check_words : FnScope N_check_words ps_check_words (defScope s_check_words) := ⟨rfl, rfl, rfl, by decide +kernel, rfl, by decide +kernel, by decide +kernel⟩
def t_check_words (K : PySem.W.Frag) (sp_check_letters : Sp) (sp_is_word : Sp) : TS :=
    (tSeq (tDrop (tCall sp_check_letters [] E0 (tCons (tVar 0) tNil)))
    (tSeq (tFor (iEnum K (tCons (tVar 1) tNil)) (gTup K 2 (gCons (gName 2) (gCons (gName 3) gNil))) (tIfS (tOr (tTest (tOp rEq (tVar 2) (tC (.int 3)))) (tOr (tNot (tB (tCall sp_is_word [] E0 (tCons (tVar 0) (tCons (tVar 3) tNil))))) (tOr (tTest (tOp rNe (tCB rLenS (tCons (tVar 3) tNil)) (tCB rLenS (tCons (tOp (rIxL K) (tVar 1) (tC (.int 0))) tNil)))) (tTest (tOp (rIn K false) (tVar 3) (tSl (rSlL K) (tVar 1) tNoPart (tPart (tVar 2)))))))) tNever tNext))
    (tIfS (tTest (tOp rEq (tCB (rLenQ K) (tCons (tVar 1) tNil)) (tC (.int 0)))) tNever tNext)))
abbrev N_check_text : List Str := ["letters", "text", "place", "letter"]
theorem sc_check_text : FnScope N_check_text ps_check_text (defScope s_check_text) := ⟨rfl, rfl, rfl, by decide +kernel, rfl, by decide +kernel, by decide +kernel⟩
def t_check_text (K : PySem.W.Frag) : TS :=
    (tSeq (tIfS (tNot (tB (tCB (rIsi K) (tCons (tVar 1) (tCons (tC (.ty "str")) tNil))))) tNever tNext)
    (tFor (iEnumS (tCons (tVar 1) tNil)) (gTup K 2 (gCons (gName 2) (gCons (gName 3) gNil))) (tIfS (tTest (tOp rNotInS (tVar 3) (tVar 0))) tNever tNext)))
abbrev N_trace : List Str := ["searcher", "text", "windows", "told", "place", "state", "turn", "number"]
theorem sc_trace : FnScope N_trace ps_trace (defScope s_trace) := ⟨rfl, rfl, rfl, by decide +kernel, rfl, by decide +kernel, by decide +kernel⟩
def t_trace (K : PySem.W.Frag) (sp_check_text : Sp) (sp_WindowTurn_init : Sp) (sp_Trace_init : Sp) : TS :=
    (tSeq (tDrop (tCall sp_check_text [] E0 (tCons (tFld K (tVar 0) "letters") (tCons (tVar 1) tNil))))
    (tSeq (tIfS (tTest (tOp rGtI (tCB rLenS (tCons (tVar 1) tNil)) (tC (.int 5000)))) tNever tNext)
    (tSeq (tAsg (tTup (tCons (tLst tNil) (tCons (tLst tNil) (tCons (tC (.int 0)) (tCons (tC (.int 0)) tNil))))) (gTup K 4 (gCons (gName 2) (gCons (gName 3) (gCons (gName 4) (gCons (gName 5) gNil))))))
    (tSeq (tWhile (tAnd (tB (tNotN (tVar 4))) (tTest (tOp rLeI (tOp rAddI (tVar 4) (tFld K (tVar 0) "width")) (tCB rLenS (tCons (tVar 1) tNil))))) (tSeq (tAsg (tMake (cWindowTurn K) sp_WindowTurn_init [] E0 (tCons (tVar 0) (tCons (tVar 5) (tCons (tSl rSlS (tVar 1) (tPart (tVar 4)) (tPart (tOp rAddI (tOp rAddI (tVar 4) (tFld K (tVar 0) "width")) (tC (.int 1))))) tNil)))) (gName 6))
    (tSeq (tDrop (tBM K "list" rAppend (tVar 2) (tCons (tTup (tCons (tVar 4) (tCons (tVar 5) (tCons (tCB (rTupL K) (tCons (tFld K (tVar 6) "reads") tNil)) tNil)))) tNil)))
    (tSeq (tDrop (tBM K "list" rExtend (tVar 3) (tCons (tLc (iList K (tFld K (tVar 6) "numbers")) (gName 7) tYes (tTup (tCons (tVar 4) (tCons (tVar 7) tNil))) [7]) tNil)))
    (tSeq (tAsg (tIf (tB (tIsN (tFld K (tVar 6) "slide"))) (tC .non) (tOp rAddI (tVar 4) (tFld K (tVar 6) "slide"))) (gName 4))
    (tAsg (tFld K (tVar 6) "state") (gName 5)))))))
    (tRet (tMake (cTrace K) sp_Trace_init [] E0 (tCons (tVar 2) (tCons (tVar 3) tNil))))))))
abbrev N_is_name : List Str := ["value", "sign"]
theorem sc_is_name : FnScope N_is_name ps_is_name (defScope s_is_name) := ⟨rfl, rfl, rfl, by decide +kernel, rfl, by decide +kernel, by decide +kernel⟩
def t_is_name (K : PySem.W.Frag) : TS :=
    (tRet (tAndV (tCB (rIsi K) (tCons (tVar 0) (tCons (tC (.ty "str")) tNil))) (tAndV (tChain rLeI rLeI (tC (.int 1)) (tCB rLenS (tCons (tVar 0) tNil)) (tC (.int 8))) (tCB (rAll K) (tCons (tLc (iStr (tVar 0)) (gName 1) tYes (tOp rInS (tVar 1) (tC (.str "ABCDEFGHIJKLMNOPQRSTUVWXYZ"))) [1]) tNil)))))
abbrev N_is_count : List Str := ["value"]
theorem sc_is_count : FnScope N_is_count ps_is_count (defScope s_is_count) := ⟨rfl, rfl, rfl, by decide +kernel, rfl, by decide +kernel, by decide +kernel⟩
def t_is_count (K : PySem.W.Frag) : TS :=
    (tRet (tAndV (tCB (rIsi K) (tCons (tVar 0) (tCons (tC (.ty "int")) tNil))) (tAndV (tNotV (tCB (rIsi K) (tCons (tVar 0) (tCons (tC (.ty "bool")) tNil)))) (tChain rLeI rLeI (tC (.int 1)) (tVar 0) (tC (.int 1000000000000000000000000000000))))))
abbrev N_is_part : List Str := ["letters", "rules", "value", "letter"]
theorem sc_is_part : FnScope N_is_part ps_is_part (defScope s_is_part) := ⟨rfl, rfl, rfl, by decide +kernel, rfl, by decide +kernel, by decide +kernel⟩
def t_is_part (K : PySem.W.Frag) (sp_is_count : Sp) (sp_is_name : Sp) : TS :=
    (tSeq (tIfS (tOr (tNot (tB (tCB (rIsiT K) (tCons (tVar 2) (tCons (tTup (tCons (tC (.ty "tuple")) (tCons (tC (.ty "list")) tNil))) tNil))))) (tOr (tTest (tOp rNe (tCB (rLenQ K) (tCons (tVar 2) tNil)) (tC (.int 2)))) (tNot (tB (tCB (rIsi K) (tCons (tOp (rIxT K) (tVar 2) (tC (.int 0))) (tCons (tC (.ty "str")) tNil))))))) (tRet (tC (.bl false))) tNext)
    (tSeq (tIfS (tNot (tB (tCall sp_is_count [] E0 (tCons (tOp (rIxT K) (tVar 2) (tC (.int 1))) tNil)))) (tRet (tC (.bl false))) tNext)
    (tSeq (tIfS (tB (tCall sp_is_name [] E0 (tCons (tOp (rIxT K) (tVar 2) (tC (.int 0))) tNil))) (tRet (tDIn (tOp (rIxT K) (tVar 2) (tC (.int 0))) (tVar 1))) tNext)
    (tRet (tAndV (tChain rLeI rLeI (tC (.int 1)) (tCB rLenS (tCons (tOp (rIxT K) (tVar 2) (tC (.int 0))) tNil)) (tC (.int 60))) (tCB (rAll K) (tCons (tLc (iStr (tOp (rIxT K) (tVar 2) (tC (.int 0)))) (gName 3) tYes (tOp rInS (tVar 3) (tVar 0)) [3]) tNil)))))))
abbrev N_is_rule : List Str := ["letters", "rules", "value", "part"]
theorem sc_is_rule : FnScope N_is_rule ps_is_rule (defScope s_is_rule) := ⟨rfl, rfl, rfl, by decide +kernel, rfl, by decide +kernel, by decide +kernel⟩
def t_is_rule (K : PySem.W.Frag) (sp_is_part : Sp) : TS :=
    (tSeq (tIfS (tOr (tNot (tB (tCB (rIsiT K) (tCons (tVar 2) (tCons (tTup (tCons (tC (.ty "tuple")) (tCons (tC (.ty "list")) tNil))) tNil))))) (tNot (tTest (tChain rLeI rLeI (tC (.int 1)) (tCB (rLenQ K) (tCons (tVar 2) tNil)) (tC (.int 8)))))) (tRet (tC (.bl false))) tNext)
    (tRet (tCB (rAll K) (tCons (tLc (iList K (tVar 2)) (gName 3) tYes (tCall sp_is_part [] E0 (tCons (tVar 0) (tCons (tVar 1) (tCons (tVar 3) tNil)))) [3]) tNil))))
abbrev N_check_rules : List Str := ["letters", "rules", "name"]
theorem sc_check_rules : FnScope N_check_rules ps_check_rules (defScope s_check_rules) := ⟨rfl, rfl, rfl, by decide +kernel, rfl, by decide +kernel, by decide +kernel⟩
def t_check_rules (K : PySem.W.Frag) (sp_is_name : Sp) (sp_is_rule : Sp) : TS :=
    (tSeq (tIfS (tNot (tTest (tChain rLeI rLeI (tC (.int 1)) (tCB rLenDK (tCons (tVar 1) tNil)) (tC (.int 40))))) tNever tNext)
    (tLock (tFor (iKeys (tVar 1)) (gName 2) (tIfS (tOr (tNot (tB (tCall sp_is_name [] E0 (tCons (tVar 2) tNil)))) (tNot (tB (tCall sp_is_rule [] E0 (tCons (tVar 0) (tCons (tVar 1) (tCons (tDGet (tVar 1) (tVar 2)) tNil))))))) tNever tNext))))
abbrev N_names_in : List Str := ["rules", "name", "found", "waiting", "fresh", "part", "count"]
theorem sc_names_in : FnScope N_names_in ps_names_in (defScope s_names_in) := ⟨rfl, rfl, rfl, by decide +kernel, rfl, by decide +kernel, by decide +kernel⟩
def t_names_in (K : PySem.W.Frag) (sp_is_name : Sp) : TS :=
    (tSeq (tAsg (tLst tNil) (gName 2))
    (tSeq (tAsg (tLst (tCons (tVar 1) tNil)) (gName 3))
    (tSeq (tWhile (tTru K (tVar 3)) (tSeq (tAsg (tLc (iList K (tDGet (tVar 0) (tBM0 K "list" rPop (tVar 3)))) (gTup K 2 (gCons (gName 5) (gCons (gName 6) gNil))) (tAnd (tB (tCall sp_is_name [] E0 (tCons (tVar 5) tNil))) (tTest (tOp (rIn K true) (tVar 5) (tVar 2)))) (tVar 5) [5, 6]) (gName 4))
    (tSeq (tDrop (tBM K "list" rExtend (tVar 2) (tCons (tVar 4) tNil)))
    (tDrop (tBM K "list" rExtend (tVar 3) (tCons (tVar 4) tNil))))))
    (tRet (tVar 2)))))
abbrev N_ordered : List Str := ["rules", "found", "name", "part"]
theorem sc_ordered : FnScope N_ordered ps_ordered (defScope s_ordered) := ⟨rfl, rfl, rfl, by decide +kernel, rfl, by decide +kernel, by decide +kernel⟩
def t_ordered (K : PySem.W.Frag) (sp_names_in : Sp) : TS :=
    (tSeq (tAsg (tLst tNil) (gName 1))
    (tSeq (tWhile (tTest (tOp rLtI (tCB (rLenQ K) (tCons (tVar 1) tNil)) (tCB rLenDK (tCons (tVar 0) tNil)))) (tLock (tFor (iKeys (tVar 0)) (gName 2) (tIfS (tAnd (tTest (tOp (rIn K true) (tVar 2) (tVar 1))) (tB (tCB (rAll K) (tCons (tLc (iList K (tCall sp_names_in [] E0 (tCons (tVar 0) (tCons (tVar 2) tNil)))) (gName 3) tYes (tOp (rIn K false) (tVar 3) (tVar 1)) [3]) tNil)))) (tDrop (tBM K "list" rAppend (tVar 1) (tCons (tVar 2) tNil))) tNext))))
    (tRet (tVar 1))))
abbrev N_far : List Str := ["searcher", "weave", "walk", "root", "width", "place", "state", "sums", "last", "turn"]
theorem sc_far : FnScope N_far ps_far (defScope s_far) := ⟨rfl, rfl, rfl, by decide +kernel, rfl, by decide +kernel, by decide +kernel⟩
def t_far (K : PySem.W.Frag) (sp_Walk_init : Sp) (sp_Walk_solved : Sp) (sp_WindowTurn_init : Sp) (sp_Far_init : Sp) : TS :=
    (tSeq (tIfS (tTest (tOp rNe (tFld K (tVar 0) "letters") (tFld K (tVar 1) "letters"))) tNever tNext)
    (tSeq (tPar3 2 3 4 (tCons (tMake (cWalk K) sp_Walk_init [] E0 (tCons (tVar 0) (tCons (tFld K (tVar 1) "own_nodes") tNil))) (tCons (tFld K (tVar 1) "own_root") (tCons (tFld K (tVar 0) "width") tNil))))
    (tSeq (tAsg (tMeth (cWalk K) "solved" sp_Walk_solved [] E0 (tVar 2) (tCons (tVar 3) (tCons (tC (.int 0)) (tCons (tC (.int 0)) tNil)))) (gTup K 3 (gCons (gName 5) (gCons (gName 6) (gCons (gName 7) gNil)))))
    (tSeq (tAsg (tLst tNil) (gName 8))
    (tSeq (tIfS (tTest (tOp rEq (tOp rAddI (tVar 5) (tVar 4)) (tFld K (tVar 1) "size"))) (tSeq (tAsg (tMake (cWindowTurn K) sp_WindowTurn_init [] E0 (tCons (tVar 0) (tCons (tVar 6) (tCons (tSl rSlS (tOp (rIxT K) (tFld K (tOp (rIxL K) (tFld K (tFld K (tVar 1) "own_nodes") "rows") (tVar 3)) "ends") (tC (.int 1))) (tPart (tUn rNegI (tVar 4))) tNoPart) tNil)))) (gName 9))
    (tDrop (tBM K "list" rAppend (tVar 8) (tCons (tTup (tCons (tVar 5) (tCons (tCB (rLenQ K) (tCons (tFld K (tVar 9) "reads") tNil)) (tCons (tFld K (tVar 9) "numbers") tNil)))) tNil)))) tNext)
    (tRet (tMake (cFar K) sp_Far_init [] E0 (tCons (tVar 2) (tCons (tVar 3) (tCons (tVar 8) tNil))))))))))
abbrev N_is_number : List Str := ["value", "least", "most"]
theorem sc_is_number : FnScope N_is_number ps_is_number (defScope s_is_number) := ⟨rfl, rfl, rfl, by decide +kernel, rfl, by decide +kernel, by decide +kernel⟩
def t_is_number (K : PySem.W.Frag) : TS :=
    (tRet (tAndV (tCB (rIsi K) (tCons (tVar 0) (tCons (tC (.ty "int")) tNil))) (tAndV (tNotV (tCB (rIsi K) (tCons (tVar 0) (tCons (tC (.ty "bool")) tNil)))) (tChain rLeI rLeI (tVar 1) (tVar 0) (tVar 2)))))
abbrev N_is_head : List Str := ["tree", "letters", "width", "states"]
theorem sc_is_head : FnScope N_is_head ps_is_head (defScope s_is_head) := ⟨rfl, rfl, rfl, by decide +kernel, rfl, by decide +kernel, by decide +kernel⟩
def t_is_head (K : PySem.W.Frag) (sp_is_number : Sp) : TS :=
    (tSeq (tIfS (tOr (tNot (tB (tCB (rIsiT K) (tCons (tVar 0) (tCons (tTup (tCons (tC (.ty "tuple")) (tCons (tC (.ty "list")) tNil))) tNil))))) (tOr (tTest (tOp rNe (tCB (rLenQ K) (tCons (tVar 0) tNil)) (tC (.int 3)))) (tNot (tB (tCB (rIsi K) (tCons (tOp (rIxT K) (tVar 0) (tC (.int 0))) (tCons (tC (.ty "str")) tNil))))))) (tRet (tC (.bl false))) tNext)
    (tSeq (tIfS (tTest (tOp rEq (tOp (rIxT K) (tVar 0) (tC (.int 0))) (tC (.str "go")))) (tRet (tAndV (tCall sp_is_number [] E0 (tCons (tOp (rIxT K) (tVar 0) (tC (.int 1))) (tCons (tC (.int 1)) (tCons (tOp rAddI (tVar 2) (tC (.int 1))) tNil)))) (tCall sp_is_number [] E0 (tCons (tOp (rIxT K) (tVar 0) (tC (.int 2))) (tCons (tC (.int 0)) (tCons (tOp rSubI (tVar 3) (tC (.int 1))) tNil)))))) tNext)
    (tSeq (tIfS (tTest (tOp rEq (tOp (rIxT K) (tVar 0) (tC (.int 0))) (tC (.str "tell")))) (tRet (tCall sp_is_number [] E0 (tCons (tOp (rIxT K) (tVar 0) (tC (.int 1))) (tCons (tC (.int 0)) (tCons (tOp rSubI (tC (.int 3)) (tC (.int 1))) tNil))))) tNext)
    (tSeq (tIfS (tOr (tTest (tOp rNe (tOp (rIxT K) (tVar 0) (tC (.int 0))) (tC (.str "read")))) (tNot (tB (tCall sp_is_number [] E0 (tCons (tOp (rIxT K) (tVar 0) (tC (.int 1))) (tCons (tC (.int 0)) (tCons (tVar 2) tNil))))))) (tRet (tC (.bl false))) tNext)
    (tRet (tAndV (tCB (rIsiT K) (tCons (tOp (rIxT K) (tVar 0) (tC (.int 2))) (tCons (tTup (tCons (tC (.ty "tuple")) (tCons (tC (.ty "list")) tNil))) tNil))) (tOp rEq (tCB (rLenQ K) (tCons (tOp (rIxT K) (tVar 0) (tC (.int 2))) tNil)) (tVar 1))))))))
abbrev N_within : List Str := ["tree"]
theorem sc_within : FnScope N_within ps_within (defScope s_within) := ⟨rfl, rfl, rfl, by decide +kernel, rfl, by decide +kernel, by decide +kernel⟩
def t_within (K : PySem.W.Frag) : TS :=
    (tSeq (tIfS (tTest (tOp rEq (tOp (rIxT K) (tVar 0) (tC (.int 0))) (tC (.str "go")))) (tRet (tLst tNil)) tNext)
    (tRet (tIf (tTest (tOp rEq (tOp (rIxT K) (tVar 0) (tC (.int 0))) (tC (.str "tell")))) (tLst (tCons (tOp (rIxT K) (tVar 0) (tC (.int 2))) tNil)) (tCB (rListL K) (tCons (tOp (rIxT K) (tVar 0) (tC (.int 2))) tNil)))))
abbrev N_checked : List Str := ["tree", "letters", "width", "states", "level", "number", "inner", "is_wrong"]
theorem sc_checked : FnScope N_checked ps_checked (defScope s_checked) := ⟨rfl, rfl, rfl, by decide +kernel, rfl, by decide +kernel, by decide +kernel⟩
def t_checked (K : PySem.W.Frag) (sp_is_head : Sp) (sp_within : Sp) (sp_checked : Sp) : TS :=
    (tSeq (tIfS (tOr (tTest (tOp rGtI (tVar 4) (tC (.int 40)))) (tNot (tB (tCall sp_is_head [] E0 (tCons (tVar 0) (tCons (tVar 1) (tCons (tVar 2) (tCons (tVar 3) tNil)))))))) (tRet (tTup (tCons (tC (.bl true)) (tCons (tVar 5) tNil)))) tNext)
    (tSeq (tAsg (tOp rAddI (tVar 5) (tC (.int 1))) (gName 5))
    (tSeq (tFor (iList K (tCall sp_within [] E0 (tCons (tVar 0) tNil))) (gName 6) (tSeq (tAsg (tCall sp_checked [] E0 (tCons (tVar 6) (tCons (tVar 1) (tCons (tVar 2) (tCons (tVar 3) (tCons (tOp rAddI (tVar 4) (tC (.int 1))) (tCons (tVar 5) tNil))))))) (gTup K 2 (gCons (gName 7) (gCons (gName 5) gNil))))
    (tIfS (tB (tVar 7)) (tRet (tTup (tCons (tC (.bl true)) (tCons (tVar 5) tNil)))) tNext)))
    (tRet (tTup (tCons (tC (.bl false)) (tCons (tVar 5) tNil)))))))
abbrev N_kept : List Str := ["tree", "inner"]
theorem sc_kept : FnScope N_kept ps_kept (defScope s_kept) := ⟨rfl, rfl, rfl, by decide +kernel, rfl, by decide +kernel, by decide +kernel⟩
def t_kept (K : PySem.W.Frag) (sp_kept : Sp) : TS :=
    (tSeq (tIfS (tTest (tOp rEq (tOp (rIxT K) (tVar 0) (tC (.int 0))) (tC (.str "go")))) (tRet (tCB (rTupL K) (tCons (tVar 0) tNil))) tNext)
    (tSeq (tIfS (tTest (tOp rEq (tOp (rIxT K) (tVar 0) (tC (.int 0))) (tC (.str "tell")))) (tRet (tTup (tCons (tOp (rIxT K) (tVar 0) (tC (.int 0))) (tCons (tOp (rIxT K) (tVar 0) (tC (.int 1))) (tCons (tCall sp_kept [] E0 (tCons (tOp (rIxT K) (tVar 0) (tC (.int 2))) tNil)) tNil))))) tNext)
    (tRet (tTup (tCons (tOp (rIxT K) (tVar 0) (tC (.int 0))) (tCons (tOp (rIxT K) (tVar 0) (tC (.int 1))) (tCons (tCB (rTupL K) (tCons (tLc (iTup K (tOp (rIxT K) (tVar 0) (tC (.int 2)))) (gName 1) tYes (tCall sp_kept [] E0 (tCons (tVar 1) tNil)) [1]) tNil)) tNil)))))))
abbrev N_borders_of : List Str := ["word", "found", "size", "some", "part"]
theorem sc_borders_of : FnScope N_borders_of ps_borders_of (defScope s_borders_of) := ⟨rfl, rfl, rfl, by decide +kernel, rfl, by decide +kernel, by decide +kernel⟩
def t_borders_of (K : PySem.W.Frag) : TS :=
    (tSeq (tAsg (tLst (tCons (tUn rNegI (tC (.int 1))) tNil)) (gName 1))
    (tSeq (tFor (iRng2 (tCons (tC (.int 1)) (tCons (tOp rAddI (tCB rLenS (tCons (tVar 0) tNil)) (tC (.int 1))) tNil))) (gName 2) (tSeq (tAsg (tLc (iRng1 (tCons (tVar 2) tNil)) (gName 4) (tTest (tOp rEq (tSl rSlS (tVar 0) tNoPart (tPart (tVar 4))) (tSl rSlS (tVar 0) (tPart (tOp rSubI (tVar 2) (tVar 4))) (tPart (tVar 2))))) (tVar 4) [4]) (gName 3))
    (tDrop (tBM K "list" rAppend (tVar 1) (tCons (tCB (rMax K) (tCons (tVar 3) tNil)) tNil)))))
    (tRet (tVar 1))))
abbrev N_steps_down : List Str := ["borders", "size", "found", "part"]
theorem sc_steps_down : FnScope N_steps_down ps_steps_down (defScope s_steps_down) := ⟨rfl, rfl, rfl, by decide +kernel, rfl, by decide +kernel, by decide +kernel⟩
def t_steps_down (K : PySem.W.Frag) : TS :=
    (tSeq (tPar 2 3 (tCons (tLst tNil) (tCons (tVar 1) tNil)))
    (tSeq (tWhile (tTest (tOp rGeI (tVar 3) (tC (.int 0)))) (tSeq (tAsg (tOp (rIxL K) (tVar 0) (tVar 3)) (gName 3))
    (tDrop (tBM K "list" rAppend (tVar 2) (tCons (tVar 3) tNil)))))
    (tRet (tVar 2))))
abbrev N_last_of : List Str := ["word", "letter", "end", "place"]
theorem sc_last_of : FnScope N_last_of ps_last_of (defScope s_last_of) := ⟨rfl, rfl, rfl, by decide +kernel, rfl, by decide +kernel, by decide +kernel⟩
def t_last_of (K : PySem.W.Frag) : TS :=
    (tRet (tCB (rMax K) (tCons (tOp rCat (tLst (tCons (tUn rNegI (tC (.int 1))) tNil)) (tLc (iRng1 (tCons (tVar 2) tNil)) (gName 3) (tTest (tOp rEq (tOp rIxS (tVar 0) (tVar 3)) (tVar 1))) (tVar 3) [3])) tNil)))
abbrev N_compared : List Str := ["letters", "word", "places", "unlike", "like", "tree", "place", "parts", "letter"]
theorem sc_compared : FnScope N_compared ps_compared (defScope s_compared) := ⟨rfl, rfl, rfl, by decide +kernel, rfl, by decide +kernel, by decide +kernel⟩
def t_compared (K : PySem.W.Frag) : TS :=
    (tSeq (tAsg (tVar 4) (gName 5))
    (tSeq (tFor (iList K (tRevL K (tVar 2))) (gName 6) (tSeq (tAsg (tLc (iStr (tVar 0)) (gName 8) tYes (tIf (tTest (tOp rEq (tVar 8) (tOp rIxS (tVar 1) (tVar 6)))) (tVar 5) (tDGet (tVar 3) (tTup (tCons (tVar 6) (tCons (tVar 8) tNil))))) [8]) (gName 7))
    (tAsg (tTup (tCons (tC (.str "read")) (tCons (tVar 6) (tCons (tCB (rTupL K) (tCons (tVar 7) tNil)) tNil)))) (gName 5))))
    (tRet (tVar 5))))
abbrev N_left_step : List Str := ["word", "borders", "way", "place", "letter", "steps", "part", "one"]
theorem sc_left_step : FnScope N_left_step ps_left_step (defScope s_left_step) := ⟨rfl, rfl, rfl, by decide +kernel, rfl, by decide +kernel, by decide +kernel⟩
def t_left_step (K : PySem.W.Frag) (sp_steps_down : Sp) : TS :=
    (tSeq (tAsg (tCall sp_steps_down [] E0 (tCons (tVar 1) (tCons (tVar 3) tNil))) (gName 5))
    (tSeq (tIfS (tTest (tOp rEq (tVar 2) (tC (.str "borders")))) (tAsg (tOp (rIxL K) (tVar 5) (tC (.int 0))) (gName 6)) (tIfS (tTest (tOp rEq (tVar 2) (tC (.str "strict borders")))) (tAsg (tOp (rIxL K) (tLc (iList K (tVar 5)) (gName 7) (tOr (tTest (tOp rEq (tVar 7) (tUn rNegI (tC (.int 1))))) (tTest (tOp rNe (tOp rIxS (tVar 0) (tVar 7)) (tOp rIxS (tVar 0) (tVar 3))))) (tVar 7) [7]) (tC (.int 0))) (gName 6)) (tSeq (tAsg (tOp (rIxL K) (tLc (iList K (tVar 5)) (gName 7) (tOr (tTest (tOp rEq (tVar 7) (tUn rNegI (tC (.int 1))))) (tTest (tOp rEq (tOp rIxS (tVar 0) (tVar 7)) (tVar 4)))) (tVar 7) [7]) (tC (.int 0))) (gName 6))
    (tRet (tTup (tCons (tOp rSubI (tVar 3) (tVar 6)) (tCons (tOp rAddI (tVar 6) (tC (.int 1))) tNil)))))))
    (tRet (tTup (tCons (tOp rSubI (tVar 3) (tVar 6)) (tCons (tCB rMax2 (tCons (tC (.int 0)) (tCons (tVar 6) tNil))) tNil))))))
abbrev N_from_left : List Str := ["letters", "word", "way", "borders", "width", "like", "unlike", "place", "letter", "state"]
theorem sc_from_left : FnScope N_from_left ps_from_left (defScope s_from_left) := ⟨rfl, rfl, rfl, by decide +kernel, rfl, by decide +kernel, by decide +kernel⟩
def t_from_left (K : PySem.W.Frag) (sp_borders_of : Sp) (sp_left_step : Sp) (sp_compared : Sp) : TS :=
    (tSeq (tAsg (tTup (tCons (tCall sp_borders_of [] E0 (tCons (tVar 1) tNil)) (tCons (tCB rLenS (tCons (tVar 1) tNil)) tNil))) (gTup K 2 (gCons (gName 3) (gCons (gName 4) gNil))))
    (tSeq (tAsg (tTup (tCons (tTup (tCons (tC (.str "tell")) (tCons (tC (.int 0)) (tCons (tTup (tCons (tC (.str "go")) (tCons (tOp rSubI (tVar 4) (tOp (rIxL K) (tVar 3) (tVar 4))) (tCons (tOp (rIxL K) (tVar 3) (tVar 4)) tNil)))) tNil)))) (tCons tDNewT tNil))) (gTup K 2 (gCons (gName 5) (gCons (gName 6) gNil))))
    (tSeq (tFor (iRng1 (tCons (tVar 4) tNil)) (gName 7) (tFor (iStr (tVar 0)) (gName 8) (sDPut (tVar 6) (tTup (tCons (tVar 7) (tCons (tVar 8) tNil))) (tOp (rCatT K) (tTup (tCons (tC (.str "go")) tNil)) (tCall sp_left_step [] E0 (tCons (tVar 1) (tCons (tVar 3) (tCons (tVar 2) (tCons (tVar 7) (tCons (tVar 8) tNil))))))))))
    (tRet (tLc (iRng1 (tCons (tVar 4) tNil)) (gName 9) tYes (tCall sp_compared [] E0 (tCons (tVar 0) (tCons (tVar 1) (tCons (tLstRg (tRg2 (tVar 9) (tVar 4))) (tCons (tVar 6) (tCons (tVar 5) tNil)))))) [9])))))
abbrev N_by_one_letter : List Str := ["letters", "word", "way", "width", "last", "unlike", "goes", "place", "letter"]
theorem sc_by_one_letter : FnScope N_by_one_letter ps_by_one_letter (defScope s_by_one_letter) := ⟨rfl, rfl, rfl, by decide +kernel, rfl, by decide +kernel, by decide +kernel⟩
def t_by_one_letter (K : PySem.W.Frag) (sp_last_of : Sp) (sp_compared : Sp) : TS :=
    (tSeq (tAsg (tCB rLenS (tCons (tVar 1) tNil)) (gName 3))
    (tSeq (tAsg (tTup (tCons (tC (.str "go")) (tCons (tC (.int 1)) (tCons (tC (.int 0)) tNil)))) (gName 4))
    (tSeq (tIfS (tTest (tOp rEq (tVar 2) (tC (.str "last letter")))) (tSeq (tAsg (tLc (iStr (tVar 0)) (gName 8) tYes (tTup (tCons (tC (.str "go")) (tCons (tOp rSubI (tOp rSubI (tVar 3) (tC (.int 1))) (tCall sp_last_of [] E0 (tCons (tVar 1) (tCons (tVar 8) (tCons (tOp rSubI (tVar 3) (tC (.int 1))) tNil))))) (tCons (tC (.int 0)) tNil)))) [8]) (gName 6))
    (tAsg (tTup (tCons (tC (.str "read")) (tCons (tOp rSubI (tVar 3) (tC (.int 1))) (tCons (tCB (rTupL K) (tCons (tVar 6) tNil)) tNil)))) (gName 4))) tNext)
    (tSeq (tIfS (tTest (tOp rEq (tVar 2) (tC (.str "letter behind")))) (tAsg (tTup (tCons (tC (.str "read")) (tCons (tVar 3) (tCons (tCB (rTupL K) (tCons (tLc (iStr (tVar 0)) (gName 8) tYes (tTup (tCons (tC (.str "go")) (tCons (tOp rSubI (tVar 3) (tCall sp_last_of [] E0 (tCons (tVar 1) (tCons (tVar 8) (tCons (tVar 3) tNil))))) (tCons (tC (.int 0)) tNil)))) [8]) tNil)) tNil)))) (gName 4)) tNext)
    (tSeq (tAsg (tDc2 (iRng1 (tCons (tVar 3) tNil)) (gName 7) (iStr (tVar 0)) (gName 8) (tTup (tCons (tVar 7) (tCons (tVar 8) tNil))) (tVar 4) [7, 8] [8]) (gName 5))
    (tRet (tLst (tCons (tCall sp_compared [] E0 (tCons (tVar 0) (tCons (tVar 1) (tCons (tLstRg (tRg1 (tVar 3))) (tCons (tVar 5) (tCons (tTup (tCons (tC (.str "tell")) (tCons (tC (.int 0)) (tCons (tVar 4) tNil)))) tNil)))))) tNil))))))))
abbrev N_is_good_slide : List Str := ["word", "place", "by", "width", "at"]
theorem sc_is_good_slide : FnScope N_is_good_slide ps_is_good_slide (defScope s_is_good_slide) := ⟨rfl, rfl, rfl, by decide +kernel, rfl, by decide +kernel, by decide +kernel⟩
def t_is_good_slide (K : PySem.W.Frag) : TS :=
    (tSeq (tAsg (tCB rLenS (tCons (tVar 0) tNil)) (gName 3))
    (tSeq (tIfS (tB (tCB (rAny K) (tCons (tLc (iRng2 (tCons (tCB rMax2 (tCons (tOp rAddI (tVar 1) (tC (.int 1))) (tCons (tVar 2) tNil))) (tCons (tVar 3) tNil))) (gName 4) tYes (tOp rNe (tOp rIxS (tVar 0) (tOp rSubI (tVar 4) (tVar 2))) (tOp rIxS (tVar 0) (tVar 4))) [4]) tNil))) (tRet (tC (.bl false))) tNext)
    (tRet (tOrV (tOp rGtI (tVar 2) (tVar 1)) (tOp rNe (tOp rIxS (tVar 0) (tOp rSubI (tVar 1) (tVar 2))) (tOp rIxS (tVar 0) (tVar 1)))))))
abbrev N_right_slide : List Str := ["word", "way", "place", "letter", "bad", "good", "by"]
theorem sc_right_slide : FnScope N_right_slide ps_right_slide (defScope s_right_slide) := ⟨rfl, rfl, rfl, by decide +kernel, rfl, by decide +kernel, by decide +kernel⟩
def t_right_slide (K : PySem.W.Frag) (sp_last_of : Sp) (sp_is_good_slide : Sp) : TS :=
    (tSeq (tAsg (tOp rSubI (tVar 2) (tCall sp_last_of [] E0 (tCons (tVar 0) (tCons (tVar 3) (tCons (tVar 2) tNil))))) (gName 4))
    (tSeq (tAsg (tOp (rIxL K) (tLc (iRng2 (tCons (tC (.int 1)) (tCons (tOp rAddI (tCB rLenS (tCons (tVar 0) tNil)) (tC (.int 1))) tNil))) (gName 6) (tB (tCall sp_is_good_slide [] E0 (tCons (tVar 0) (tCons (tVar 2) (tCons (tVar 6) tNil))))) (tVar 6) [6]) (tC (.int 0))) (gName 5))
    (tSeq (tIfS (tTest (tOp rEq (tVar 1) (tC (.str "bad letter")))) (tRet (tVar 4)) tNext)
    (tRet (tIf (tTest (tOp rEq (tVar 1) (tC (.str "good end")))) (tVar 5) (tCB rMax2 (tCons (tVar 4) (tCons (tVar 5) tNil))))))))
abbrev N_from_right : List Str := ["letters", "word", "way", "width", "unlike", "place", "border", "is_known", "like", "places", "states", "letter"]
theorem sc_from_right : FnScope N_from_right ps_from_right (defScope s_from_right) := ⟨rfl, rfl, rfl, by decide +kernel, rfl, by decide +kernel, by decide +kernel⟩
def t_from_right (K : PySem.W.Frag) (sp_right_slide : Sp) (sp_borders_of : Sp) (sp_compared : Sp) : TS :=
    (tSeq (tPar 3 4 (tCons (tCB rLenS (tCons (tVar 1) tNil)) (tCons tDNewT tNil)))
    (tSeq (tFor (iRng1 (tCons (tVar 3) tNil)) (gName 5) (tFor (iStr (tVar 0)) (gName 11) (sDPut (tVar 4) (tTup (tCons (tVar 5) (tCons (tVar 11) tNil))) (tTup (tCons (tC (.str "go")) (tCons (tCall sp_right_slide [] E0 (tCons (tVar 1) (tCons (tVar 2) (tCons (tVar 5) (tCons (tVar 11) tNil))))) (tCons (tC (.int 0)) tNil)))))))
    (tSeq (tAsg (tOp (rIxL K) (tCall sp_borders_of [] E0 (tCons (tVar 1) tNil)) (tVar 3)) (gName 6))
    (tSeq (tAsg (tAndV (tOp rEq (tVar 2) (tC (.str "both and known"))) (tOp rGtI (tVar 6) (tC (.int 0)))) (gName 7))
    (tSeq (tAsg (tTup (tCons (tC (.str "tell")) (tCons (tC (.int 0)) (tCons (tTup (tCons (tC (.str "go")) (tCons (tIf (tTest (tOp rEq (tVar 2) (tC (.str "bad letter")))) (tC (.int 1)) (tOp rSubI (tVar 3) (tVar 6))) (tCons (tCB rInt (tCons (tVar 7) tNil)) tNil)))) tNil)))) (gName 8))
    (tSeq (tAsg (tRevL K (tLstRg (tRg1 (tVar 3)))) (gName 9))
    (tSeq (tAsg (tLst (tCons (tCall sp_compared [] E0 (tCons (tVar 0) (tCons (tVar 1) (tCons (tVar 9) (tCons (tVar 4) (tCons (tVar 8) tNil)))))) tNil)) (gName 10))
    (tSeq (tIfS (tB (tVar 7)) (tDrop (tBM K "list" rAppend (tVar 10) (tCons (tCall sp_compared [] E0 (tCons (tVar 0) (tCons (tVar 1) (tCons (tSl (rSlL K) (tVar 9) tNoPart (tPart (tOp rSubI (tVar 3) (tVar 6)))) (tCons (tVar 4) (tCons (tVar 8) tNil)))))) tNil))) tNext)
    (tRet (tVar 10))))))))))
abbrev N_made : List Str := ["letters", "word", "way", "states"]
theorem sc_made : FnScope N_made ps_made (defScope s_made) := ⟨rfl, rfl, rfl, by decide +kernel, rfl, by decide +kernel, by decide +kernel⟩
def t_made (K : PySem.W.Frag) (sp_check_words : Sp) (sp_from_left : Sp) (sp_by_one_letter : Sp) (sp_from_right : Sp) (sp_Searcher_init : Sp) : TS :=
    (tSeq (tDrop (tCall sp_check_words [] E0 (tCons (tVar 0) (tCons (tLst (tCons (tVar 1) tNil)) tNil))))
    (tSeq (tIfS (tOr (tNot (tB (tCB (rIsi K) (tCons (tVar 2) (tCons (tC (.ty "str")) tNil))))) (tTest (tOp (rIn K true) (tVar 2) (tOp (rCatT K) (tOp (rCatT K) (tOp (rCatT K) (tC (.ref (aFROM_LEFT K))) (tC (.ref (aBY_ONE_STATE K)))) (tC (.ref (aFROM_RIGHT K)))) (tTup (tCons (tC (.str "all knowledge")) tNil)))))) tNever tNext)
    (tSeq (tIfS (tTest (tOp (rIn K false) (tVar 2) (tC (.ref (aFROM_LEFT K))))) (tAsg (tCall sp_from_left [] E0 (tCons (tVar 0) (tCons (tVar 1) (tCons (tVar 2) tNil)))) (gName 3)) (tIfS (tTest (tOp (rIn K false) (tVar 2) (tC (.ref (aBY_ONE_STATE K))))) (tAsg (tCall sp_by_one_letter [] E0 (tCons (tVar 0) (tCons (tVar 1) (tCons (tVar 2) tNil)))) (gName 3)) (tIfS (tTest (tOp (rIn K false) (tVar 2) (tC (.ref (aFROM_RIGHT K))))) (tAsg (tCall sp_from_right [] E0 (tCons (tVar 0) (tCons (tVar 1) (tCons (tVar 2) tNil)))) (gName 3)) tNever)))
    (tSeq (tIfS (tTest (tOp rGtI (tCB (rLenQ K) (tCons (tVar 3) tNil)) (tC (.int 64)))) tNever tNext)
    (tRet (tMake (cSearcher K) sp_Searcher_init [] E0 (tCons (tVar 0) (tCons (tCB rLenS (tCons (tVar 1) tNil)) (tCons (tVar 3) tNil)))))))))
abbrev N_law_pen : List Str := ["_law_script"]
theorem sc_law_pen : FnScope N_law_pen ps_law_pen (defScope s_law_pen) := ⟨rfl, rfl, rfl, by decide +kernel, rfl, by decide +kernel, by decide +kernel⟩
def t_law_pen (K : PySem.W.Frag) : TS :=
    (tRet (tDisp [(tC (.str "cells"), tCB (rListL K) (tCons (tSl (rSlL K) (tVar 0) tNoPart (tPart (tC (.int 63)))) tNil)), (tC (.str "at"), tC (.int 0)), (tC (.str "rest"), tC (.int 0))]))
abbrev N_law_draw : List Str := ["_law_pen_here", "_law_many", "_law_at", "_law_cell", "_law_blend", "_law_digit"]
theorem sc_law_draw : FnScope N_law_draw ps_law_draw (defScope s_law_draw) := ⟨rfl, rfl, rfl, by decide +kernel, rfl, by decide +kernel, by decide +kernel⟩
def t_law_draw (K : PySem.W.Frag) : TS :=
    (tSeq (tIfS (tTest (tOp rGtI (tDGet (tVar 0) (tC (.str "rest"))) (tC (.int 0)))) (tSeq (tAsg (tOp rModI (tCB rInt (tCons (tDGet (tVar 0) (tC (.str "rest"))) tNil)) (tVar 1)) (gName 5))
    (tSeq (sDPut (tVar 0) (tC (.str "rest")) (tOp rDivI (tDGet (tVar 0) (tC (.str "rest"))) (tVar 1)))
    (tRet (tVar 5)))) tNext)
    (tSeq (tAsg (tDGet (tVar 0) (tC (.str "at"))) (gName 2))
    (tSeq (sDPut (tVar 0) (tC (.str "at")) (tOp rAddI (tVar 2) (tC (.int 1))))
    (tSeq (tAsg (tOp rAddI (tOp rMulI (tC (.int 53)) (tVar 2)) (tC (.int 29))) (gName 3))
    (tSeq (tIfS (tTest (tOp (rNeD K) (tDGet (tVar 0) (tC (.str "cells"))) (tLst tNil))) (tAsg (tOp (rIxL K) (tDGet (tVar 0) (tC (.str "cells"))) (tOp rModI (tCB rInt (tCons (tVar 2) tNil)) (tCB (rLenQ K) (tCons (tDGet (tVar 0) (tC (.str "cells"))) tNil)))) (gName 3)) tNext)
    (tSeq (tIfS (tAnd (tTest (tOp rLtI (tVar 2) (tCB (rLenQ K) (tCons (tDGet (tVar 0) (tC (.str "cells"))) tNil)))) (tTest (tOp rGeI (tCB rAbs (tCons (tVar 3) tNil)) (tOp rPowI (tC (.int 10)) (tC (.int 18)))))) (tSeq (sDPut (tVar 0) (tC (.str "rest")) (tOp rDivI (tOp rSubI (tCB rAbs (tCons (tVar 3) tNil)) (tOp rPowI (tC (.int 10)) (tC (.int 18)))) (tVar 1)))
    (tRet (tOp rModI (tCB rInt (tCons (tOp rSubI (tCB rAbs (tCons (tVar 3) tNil)) (tOp rPowI (tC (.int 10)) (tC (.int 18)))) tNil)) (tVar 1)))) tNext)
    (tSeq (tAsg (tOp rAddI (tOp rMulI (tOp rModI (tCB rInt (tCons (tVar 3) tNil)) (tC (.int 4294967029))) (tC (.int 48121))) (tOp rMulI (tOp rMulI (tC (.int 15053)) (tVar 2)) (tVar 2))) (gName 4))
    (tSeq (tAsg (tOp rModI (tCB rInt (tCons (tOp rAddI (tOp rAddI (tVar 4) (tOp rMulI (tC (.int 911)) (tVar 2))) (tC (.int 13))) tNil)) (tC (.int 4294966997))) (gName 4))
    (tSeq (tAsg (tOp rModI (tCB rInt (tCons (tOp rAddI (tOp rAddI (tOp rAddI (tOp rMulI (tVar 4) (tVar 4)) (tOp rMulI (tC (.int 30000307)) (tVar 4))) (tOp rMulI (tC (.int 29)) (tVar 2))) (tC (.int 7))) tNil)) (tC (.int 4294966981))) (gName 4))
    (tRet (tOp rModI (tCB rInt (tCons (tOp rDivI (tOp rModI (tCB rInt (tCons (tOp rMulI (tVar 4) (tOp rAddI (tVar 4) (tC (.int 52733)))) tNil)) (tC (.int 4294966943))) (tC (.int 128))) tNil)) (tVar 1))))))))))))
abbrev N_law_pick : List Str := ["_law_pen_here", "_law_items"]
theorem sc_law_pick : FnScope N_law_pick ps_law_pick (defScope s_law_pick) := ⟨rfl, rfl, rfl, by decide +kernel, rfl, by decide +kernel, by decide +kernel⟩
def t_law_pick (K : PySem.W.Frag) (sp_law_draw : Sp) : TS :=
    (tRet (tOp (rIx K) (tVar 1) (tCall sp_law_draw [] E0 (tCons (tVar 0) (tCons (tCB (rLenA K) (tCons (tVar 1) tNil)) tNil)))))
abbrev N_law_letters : List Str := ["_law_pen_here", "_law_many", "_law_left", "_law_gained"]
theorem sc_law_letters : FnScope N_law_letters ps_law_letters (defScope s_law_letters) := ⟨rfl, rfl, rfl, by decide +kernel, rfl, by decide +kernel, by decide +kernel⟩
def t_law_letters (K : PySem.W.Frag) (sp_law_draw : Sp) : TS :=
    (tSeq (tPar 2 3 (tCons (tCB rListS (tCons (tC (.str "abcdefghijklmnopqrstuvwxyz")) tNil)) (tCons (tC (.str "")) tNil)))
    (tSeq (tWhile (tTest (tOp rLtI (tCB rLenS (tCons (tVar 3) tNil)) (tVar 1))) (tAsg (tOp rAddS (tVar 3) (tBM K "list" rPopAt (tVar 2) (tCons (tCall sp_law_draw [] E0 (tCons (tVar 0) (tCons (tCB (rLenQ K) (tCons (tVar 2) tNil)) tNil))) tNil))) (gName 3)))
    (tRet (tVar 3))))
abbrev N_law_word : List Str := ["_law_pen_here", "_law_letters_here", "_law_size", "_law_k"]
theorem sc_law_word : FnScope N_law_word ps_law_word (defScope s_law_word) := ⟨rfl, rfl, rfl, by decide +kernel, rfl, by decide +kernel, by decide +kernel⟩
def t_law_word (K : PySem.W.Frag) (sp_law_draw : Sp) (sp_law_pick : Sp) : TS :=
    (tRet (tM1 (rJoin K) (tC (.str "")) (tLc (iRng1 (tCons (tVar 2) tNil)) (gName 3) tYes (tIf (tTest (tOp rEq (tCall sp_law_draw [] E0 (tCons (tVar 0) (tCons (tC (.int 3)) tNil))) (tC (.int 0)))) (tOp rIxS (tVar 1) (tC (.int 0))) (tCall sp_law_pick [] E0 (tCons (tVar 0) (tCons (tVar 1) tNil)))) [3])))
abbrev N_law_ways : List Str := ["_law_ways_here"]
theorem sc_law_ways : FnScope N_law_ways ps_law_ways (defScope s_law_ways) := ⟨rfl, rfl, rfl, by decide +kernel, rfl, by decide +kernel, by decide +kernel⟩
def t_law_ways (K : PySem.W.Frag) : TS :=
    (tSeq (tAsg (tLst (tCons (tC (.str "plain")) (tCons (tC (.str "borders")) (tCons (tC (.str "strict borders")) (tCons (tC (.str "by letters")) (tCons (tC (.str "last letter")) (tCons (tC (.str "letter behind")) tNil))))))) (gName 0))
    (tRet (tOp rCat (tVar 0) (tLst (tCons (tC (.str "bad letter")) (tCons (tC (.str "good end")) (tCons (tC (.str "both")) (tCons (tC (.str "both and known")) (tCons (tC (.str "all knowledge")) tNil)))))))))
abbrev N_law_bent_tree : List Str := ["_law_pen_here", "_law_tree", "_law_width", "_law_many", "_law_trees", "_law_at"]
theorem sc_law_bent_tree : FnScope N_law_bent_tree ps_law_bent_tree (defScope s_law_bent_tree) := ⟨rfl, rfl, rfl, by decide +kernel, rfl, by decide +kernel, by decide +kernel⟩
def t_law_bent_tree (K : PySem.W.Frag) (sp_law_draw : Sp) (sp_law_bent_tree : Sp) : TS :=
    (tSeq (tIfS (tTest (tOp rEq (tOp (rIxT K) (tVar 1) (tC (.int 0))) (tC (.str "go")))) (tSeq (tIfS (tTest (tOp rEq (tCall sp_law_draw [] E0 (tCons (tVar 0) (tCons (tC (.int 3)) tNil))) (tC (.int 0)))) (tRet (tTup (tCons (tC (.str "go")) (tCons (tOp (rIxT K) (tVar 1) (tC (.int 1))) (tCons (tCall sp_law_draw [] E0 (tCons (tVar 0) (tCons (tVar 3) tNil))) tNil))))) tNext)
    (tRet (tTup (tCons (tC (.str "go")) (tCons (tOp rAddI (tC (.int 1)) (tCall sp_law_draw [] E0 (tCons (tVar 0) (tCons (tOp rAddI (tVar 2) (tC (.int 1))) tNil)))) (tCons (tOp (rIxT K) (tVar 1) (tC (.int 2))) tNil)))))) tNext)
    (tSeq (tIfS (tTest (tOp rEq (tOp (rIxT K) (tVar 1) (tC (.int 0))) (tC (.str "tell")))) (tSeq (tIfS (tTest (tOp rEq (tCall sp_law_draw [] E0 (tCons (tVar 0) (tCons (tC (.int 4)) tNil))) (tC (.int 0)))) (tRet (tOp (rIxT K) (tVar 1) (tC (.int 2)))) tNext)
    (tRet (tTup (tCons (tC (.str "tell")) (tCons (tOp (rIxT K) (tVar 1) (tC (.int 1))) (tCons (tCall sp_law_bent_tree [] E0 (tCons (tVar 0) (tCons (tOp (rIxT K) (tVar 1) (tC (.int 2))) (tCons (tVar 2) (tCons (tVar 3) tNil))))) tNil)))))) tNext)
    (tSeq (tIfS (tTest (tOp rEq (tCall sp_law_draw [] E0 (tCons (tVar 0) (tCons (tC (.int 8)) tNil))) (tC (.int 0)))) (tRet (tTup (tCons (tC (.str "read")) (tCons (tCall sp_law_draw [] E0 (tCons (tVar 0) (tCons (tOp rAddI (tVar 2) (tC (.int 1))) tNil))) (tCons (tOp (rIxT K) (tVar 1) (tC (.int 2))) tNil))))) tNext)
    (tSeq (tPar 4 5 (tCons (tCB (rListL K) (tCons (tOp (rIxT K) (tVar 1) (tC (.int 2))) tNil)) (tCons (tCall sp_law_draw [] E0 (tCons (tVar 0) (tCons (tCB (rLenQ K) (tCons (tOp (rIxT K) (tVar 1) (tC (.int 2))) tNil)) tNil))) tNil)))
    (tSeq (tAsg (tCall sp_law_bent_tree [] E0 (tCons (tVar 0) (tCons (tOp (rIxL K) (tVar 4) (tVar 5)) (tCons (tVar 2) (tCons (tVar 3) tNil))))) (gSub (tVar 4) (tVar 5) rSetL))
    (tRet (tTup (tCons (tC (.str "read")) (tCons (tOp (rIxT K) (tVar 1) (tC (.int 1))) (tCons (tCB (rTupL K) (tCons (tVar 4) tNil)) tNil))))))))))
abbrev N_law_bent : List Str := ["_law_pen_here", "_law_searcher", "_law_states", "_law_at"]
theorem sc_law_bent : FnScope N_law_bent ps_law_bent (defScope s_law_bent) := ⟨rfl, rfl, rfl, by decide +kernel, rfl, by decide +kernel, by decide +kernel⟩
def t_law_bent (K : PySem.W.Frag) (sp_law_draw : Sp) (sp_law_bent_tree : Sp) (sp_Searcher_init : Sp) : TS :=
    (tSeq (tPar 2 3 (tCons (tCB (rListL K) (tCons (tFld K (tVar 1) "states") tNil)) (tCons (tCall sp_law_draw [] E0 (tCons (tVar 0) (tCons (tCB (rLenQ K) (tCons (tFld K (tVar 1) "states") tNil)) tNil))) tNil)))
    (tSeq (tAsg (tCall sp_law_bent_tree [] E0 (tCons (tVar 0) (tCons (tOp (rIxL K) (tVar 2) (tVar 3)) (tCons (tFld K (tVar 1) "width") (tCons (tCB (rLenQ K) (tCons (tVar 2) tNil)) tNil))))) (gSub (tVar 2) (tVar 3) rSetL))
    (tRet (tMake (cSearcher K) sp_Searcher_init [] E0 (tCons (tFld K (tVar 1) "letters") (tCons (tFld K (tVar 1) "width") (tCons (tVar 2) tNil)))))))
abbrev N_law_rules : List Str := ["_law_pen_here", "_law_letters_here", "_law_names", "_law_rules_here", "_law_texts", "_law_at", "_law_name", "_law_parts", "_law_text", "_law_k", "_law_part", "_law_count"]
theorem sc_law_rules : FnScope N_law_rules ps_law_rules (defScope s_law_rules) := ⟨rfl, rfl, rfl, by decide +kernel, rfl, by decide +kernel, by decide +kernel⟩
def t_law_rules (K : PySem.W.Frag) (sp_law_draw : Sp) (sp_law_word : Sp) : TS :=
    (tSeq (tPar3 2 3 4 (tCons (tLst (tCons (tC (.str "A")) (tCons (tC (.str "BC")) (tCons (tC (.str "D")) (tCons (tC (.str "EFGHIJKL")) (tCons (tC (.str "M")) (tCons (tC (.str "NO")) tNil))))))) (tCons tDNewK (tCons tDNewK tNil))))
    (tSeq (tFor (iEnum K (tCons (tVar 2) tNil)) (gTup K 2 (gCons (gName 5) (gCons (gName 6) gNil))) (tSeq (tPar 7 8 (tCons (tLst tNil) (tCons (tC (.str "")) tNil)))
    (tSeq (tFor (iRng1 (tCons (tOp rAddI (tC (.int 1)) (tCall sp_law_draw [] E0 (tCons (tVar 0) (tCons (tC (.int 3)) tNil)))) tNil)) (gName 9) (tSeq (tAsg (tCall sp_law_word [] E0 (tCons (tVar 0) (tCons (tVar 1) (tCons (tOp rAddI (tC (.int 1)) (tCall sp_law_draw [] E0 (tCons (tVar 0) (tCons (tC (.int 4)) tNil)))) tNil)))) (gName 10))
    (tSeq (tIfS (tAnd (tTest (tOp rGtI (tVar 5) (tC (.int 0)))) (tTest (tOp rEq (tCall sp_law_draw [] E0 (tCons (tVar 0) (tCons (tC (.int 2)) tNil))) (tC (.int 0))))) (tAsg (tOp (rIxL K) (tVar 2) (tCall sp_law_draw [] E0 (tCons (tVar 0) (tCons (tVar 5) tNil)))) (gName 10)) tNext)
    (tSeq (tAsg (tOp rAddI (tC (.int 1)) (tCall sp_law_draw [] E0 (tCons (tVar 0) (tCons (tC (.int 9)) tNil)))) (gName 11))
    (tSeq (tDrop (tBM K "list" rAppend (tVar 7) (tCons (tTup (tCons (tVar 10) (tCons (tVar 11) tNil))) tNil)))
    (tAsg (tOp rAddS (tVar 8) (tOp rMulS (tDGet2 (tVar 4) (tVar 10) (tVar 10)) (tVar 11))) (gName 8)))))))
    (tAsg (tTup (tCons (tVar 7) (tCons (tSl rSlS (tVar 8) tNoPart (tPart (tC (.int 4001)))) tNil))) (gTup K 2 (gCons (gSub (tVar 3) (tVar 6) rSetD) (gCons (gSub (tVar 4) (tVar 6) rSetD) gNil)))))))
    (tRet (tTup (tCons (tVar 3) (tCons (tVar 4) tNil))))))
abbrev N_law : List Str := ["_law_script", "_law_pen_here", "_law_letters_here", "_law_rules_here", "_law_texts", "_law_fit", "_law_turn", "_law_word_here", "_law_root", "_law_searcher", "_law_step", "_law_weave", "_law_text", "_law_due", "_law_told", "_law_spots", "_law_at", "_law_name", "_law_k"]
theorem sc_law : FnScope N_law ps_law (defScope s_law) := ⟨rfl, rfl, rfl, by decide +kernel, rfl, by decide +kernel, by decide +kernel⟩
def t_law (K : PySem.W.Frag) (sp_law_pen : Sp) (sp_law_letters : Sp) (sp_law_draw : Sp) (sp_law_rules : Sp) (sp_law_word : Sp) (sp_law_pick : Sp) (sp_made : Sp) (sp_law_ways : Sp) (sp_law_bent : Sp) (sp_Weave_init : Sp) (sp_trace : Sp) (sp_far : Sp) (sp_Weave_part : Sp) (sp_Far_told_at : Sp) (sp_Weave_letter : Sp) : TS :=
    (tSeq (tAsg (tCall sp_law_pen [] E0 (tCons (tVar 0) tNil)) (gName 1))
    (tSeq (tAsg (tCall sp_law_letters [] E0 (tCons (tVar 1) (tCons (tOp rAddI (tC (.int 2)) (tCall sp_law_draw [] E0 (tCons (tVar 1) (tCons (tC (.int 2)) tNil)))) tNil))) (gName 2))
    (tSeq (tAsg (tCall sp_law_rules [] E0 (tCons (tVar 1) (tCons (tVar 2) tNil))) (gTup K 2 (gCons (gName 3) (gCons (gName 4) gNil))))
    (tSeq (tLock (tAsg (tLc (iKeys (tVar 3)) (gName 17) (tTest (tOp rLeI (tCB rLenS (tCons (tDGet (tVar 4) (tVar 17)) tNil)) (tC (.int 2000)))) (tVar 17) [17]) (gName 5)))
    (tSeq (tFor (iRng1 (tCons (tC (.int 3)) tNil)) (gName 6) (tSeq (tPar 7 8 (tCons (tCall sp_law_word [] E0 (tCons (tVar 1) (tCons (tVar 2) (tCons (tOp rAddI (tC (.int 1)) (tCall sp_law_draw [] E0 (tCons (tVar 1) (tCons (tC (.int 5)) tNil)))) tNil)))) (tCons (tCall sp_law_pick [] E0 (tCons (tVar 1) (tCons (tVar 5) tNil))) tNil)))
    (tSeq (tAsg (tCall sp_made [] E0 (tCons (tVar 2) (tCons (tVar 7) (tCons (tCall sp_law_pick [] E0 (tCons (tVar 1) (tCons (tSl (rSlL K) (tCall sp_law_ways [] E0 tNil) tNoPart (tPart (tUn rNegI (tC (.int 1))))) tNil))) tNil)))) (gName 9))
    (tSeq (tFor (iRng1 (tCons (tCall sp_law_draw [] E0 (tCons (tVar 1) (tCons (tC (.int 3)) tNil))) tNil)) (gName 10) (tAsg (tCall sp_law_bent [] E0 (tCons (tVar 1) (tCons (tVar 9) tNil))) (gName 9)))
    (tSeq (tPar 11 12 (tCons (tMake (cWeave K) sp_Weave_init [] E0 (tCons (tVar 2) (tCons (tVar 3) (tCons (tVar 8) tNil)))) (tCons (tDGet (tVar 4) (tVar 8)) tNil)))
    (tSeq (tAsg (tTup (tCons (tCall sp_trace [] E0 (tCons (tVar 9) (tCons (tVar 12) tNil))) (tCons (tCall sp_far [] E0 (tCons (tVar 9) (tCons (tVar 11) tNil))) tNil))) (gTup K 2 (gCons (gName 13) (gCons (gName 14) gNil))))
    (tSeq (tIfS (tOr (tTest (tOp rNe (tFld K (tVar 11) "size") (tCB rLenS (tCons (tVar 12) tNil)))) (tTest (tOp rNe (tMeth (cWeave K) "part" sp_Weave_part [] E0 (tVar 11) (tCons (tC (.int 0)) (tCons (tCB rLenS (tCons (tVar 12) tNil)) tNil))) (tVar 12)))) (tRet (tC (.bl false))) tNext)
    (tSeq (tIfS (tTest (tOp (rNeD K) (tTup (tCons (tFld K (tVar 14) "cost") (tCons (tFld K (tVar 14) "windows") (tCons (tFld K (tVar 14) "told") tNil)))) (tTup (tCons (tFld K (tVar 13) "cost") (tCons (tCB (rLenQ K) (tCons (tFld K (tVar 13) "windows") tNil)) (tCons (tCB (rLenQ K) (tCons (tFld K (tVar 13) "told") tNil)) tNil)))))) (tRet (tC (.bl false))) tNext)
    (tSeq (tAsg (tLc (iRng1 (tCons (tFld K (tVar 14) "told") tNil)) (gName 18) (tOr (tTest (tOp rLtI (tVar 18) (tC (.int 20)))) (tOr (tTest (tOp rGtI (tVar 18) (tOp rSubI (tFld K (tVar 14) "told") (tC (.int 5))))) (tTest (tOp rEq (tOp rModI (tCB rInt (tCons (tVar 18) tNil)) (tC (.int 97))) (tC (.int 5)))))) (tVar 18) [18]) (gName 15))
    (tSeq (tIfS (tTest (tOp (rNeD K) (tLc (iList K (tVar 15)) (gName 18) tYes (tMeth (cFar K) "told_at" sp_Far_told_at [] E0 (tVar 14) (tCons (tVar 18) tNil)) [18]) (tLc (iList K (tVar 15)) (gName 18) tYes (tOp (rIxT K) (tFld K (tVar 13) "told") (tVar 18)) [18]))) (tRet (tC (.bl false))) tNext)
    (tSeq (tAsg (tCall sp_law_draw [] E0 (tCons (tVar 1) (tCons (tCB rLenS (tCons (tVar 12) tNil)) tNil))) (gName 16))
    (tIfS (tOr (tTest (tOp rNe (tMeth (cWeave K) "letter" sp_Weave_letter [] E0 (tVar 11) (tCons (tVar 16) tNil)) (tOp rIxS (tVar 12) (tVar 16)))) (tTest (tOp rNe (tMeth (cWeave K) "part" sp_Weave_part [] E0 (tVar 11) (tCons (tVar 16) (tCons (tOp rSubI (tCB rLenS (tCons (tVar 12) tNil)) (tVar 16)) tNil))) (tSl rSlS (tVar 12) (tPart (tVar 16)) tNoPart)))) (tRet (tC (.bl false))) tNext))))))))))))
    (tRet (tC (.bl true))))))))
abbrev N_WindowTurn_init : List Str := ["self", "searcher", "state", "view", "tree"]
theorem sc_WindowTurn_init : FnScope N_WindowTurn_init ps_WindowTurn_init (defScope s_WindowTurn_init) := ⟨rfl, rfl, rfl, by decide +kernel, rfl, by decide +kernel, by decide +kernel⟩
def t_WindowTurn_init (K : PySem.W.Frag) (sp_WindowTurn_does : Sp) : TS :=
    (tSeq (sFld K (tVar 0) (tLst tNil) "reads")
    (tSeq (sFld K (tVar 0) (tLst tNil) "numbers")
    (tSeq (sFld K (tVar 0) (tC .non) "slide")
    (tSeq (sFld K (tVar 0) (tC .non) "state")
    (tSeq (tAsg (tOp (rIxT K) (tFld K (tVar 1) "states") (tVar 2)) (gName 4))
    (tWhile (tB (tNotN (tVar 4))) (tAsg (tMeth (cWindowTurn K) "does" sp_WindowTurn_does [] E0 (tVar 0) (tCons (tVar 1) (tCons (tVar 4) (tCons (tVar 3) tNil)))) (gName 4))))))))
abbrev N_WindowTurn_does : List Str := ["self", "searcher", "tree", "view", "letter"]
theorem sc_WindowTurn_does : FnScope N_WindowTurn_does ps_WindowTurn_does (defScope s_WindowTurn_does) := ⟨rfl, rfl, rfl, by decide +kernel, rfl, by decide +kernel, by decide +kernel⟩
def t_WindowTurn_does (K : PySem.W.Frag) : TS :=
    (tSeq (tIfS (tTest (tOp rEq (tOp (rIxT K) (tVar 2) (tC (.int 0))) (tC (.str "go")))) (tSeq (tAsg (tTup (tCons (tOp (rIxT K) (tVar 2) (tC (.int 1))) (tCons (tOp (rIxT K) (tVar 2) (tC (.int 2))) tNil))) (gTup K 2 (gCons (gAttr K (tVar 0) "slide") (gCons (gAttr K (tVar 0) "state") gNil))))
    (tRet (tC .non))) tNext)
    (tSeq (tIfS (tTest (tOp rEq (tOp (rIxT K) (tVar 2) (tC (.int 0))) (tC (.str "tell")))) (tSeq (tDrop (tBM K "list" rAppend (tFld K (tVar 0) "numbers") (tCons (tOp (rIxT K) (tVar 2) (tC (.int 1))) tNil)))
    (tRet (tOp (rIxT K) (tVar 2) (tC (.int 2))))) tNext)
    (tSeq (tIfS (tTest (tOp rEq (tOp (rIxT K) (tVar 2) (tC (.int 1))) (tCB rLenS (tCons (tVar 3) tNil)))) (tRet (tC .non)) tNext)
    (tSeq (tAsg (tOp rIxS (tVar 3) (tOp (rIxT K) (tVar 2) (tC (.int 1)))) (gName 4))
    (tSeq (tDrop (tBM K "list" rAppend (tFld K (tVar 0) "reads") (tCons (tTup (tCons (tOp (rIxT K) (tVar 2) (tC (.int 1))) (tCons (tVar 4) tNil))) tNil)))
    (tRet (tOp (rIxT K) (tOp (rIxT K) (tVar 2) (tC (.int 2))) (tM1 rSIdx (tFld K (tVar 1) "letters") (tVar 4)))))))))
abbrev N_Trace_init : List Str := ["self", "windows", "told", "place", "state", "reads"]
theorem sc_Trace_init : FnScope N_Trace_init ps_Trace_init (defScope s_Trace_init) := ⟨rfl, rfl, rfl, by decide +kernel, rfl, by decide +kernel, by decide +kernel⟩
def t_Trace_init (K : PySem.W.Frag) : TS :=
    (tSeq (sFld K (tVar 0) (tCB (rTupL K) (tCons (tVar 1) tNil)) "windows")
    (tSeq (sFld K (tVar 0) (tCB (rTupL K) (tCons (tVar 2) tNil)) "told")
    (sFld K (tVar 0) (tCB (rSum K) (tCons (tLc (iTup K (tFld K (tVar 0) "windows")) (gTup K 3 (gCons (gName 3) (gCons (gName 4) (gCons (gName 5) gNil)))) tYes (tCB (rLenQ K) (tCons (tVar 5) tNil)) [3, 4, 5]) tNil)) "cost")))
abbrev N_Node_init : List Str := ["self", "letters", "left", "right", "size", "ends"]
theorem sc_Node_init : FnScope N_Node_init ps_Node_init (defScope s_Node_init) := ⟨rfl, rfl, rfl, by decide +kernel, rfl, by decide +kernel, by decide +kernel⟩
def t_Node_init (K : PySem.W.Frag) : TS :=
    (tSeq (sFld K (tVar 0) (tVar 1) "letters")
    (tSeq (sFld K (tVar 0) (tVar 2) "left")
    (tSeq (sFld K (tVar 0) (tVar 3) "right")
    (tSeq (sFld K (tVar 0) (tVar 4) "size")
    (sFld K (tVar 0) (tVar 5) "ends")))))
abbrev N_Nodes_init : List Str := ["self", "most"]
theorem sc_Nodes_init : FnScope N_Nodes_init ps_Nodes_init (defScope s_Nodes_init) := ⟨rfl, rfl, rfl, by decide +kernel, rfl, by decide +kernel, by decide +kernel⟩
def t_Nodes_init (K : PySem.W.Frag) : TS :=
    (tSeq (sFld K (tVar 0) (tVar 1) "most")
    (sFld K (tVar 0) (tLst tNil) "rows"))
abbrev N_Nodes_leaf : List Str := ["self", "letters"]
theorem sc_Nodes_leaf : FnScope N_Nodes_leaf ps_Nodes_leaf (defScope s_Nodes_leaf) := ⟨rfl, rfl, rfl, by decide +kernel, rfl, by decide +kernel, by decide +kernel⟩
def t_Nodes_leaf (K : PySem.W.Frag) (sp_Node_init : Sp) : TS :=
    (tSeq (tDrop (tBM K "list" rAppend (tFld K (tVar 0) "rows") (tCons (tMake (cNode K) sp_Node_init [] E0 (tCons (tVar 1) (tCons (tC .non) (tCons (tC .non) (tCons (tCB rLenS (tCons (tVar 1) tNil)) (tCons (tTup (tCons (tSl rSlS (tVar 1) tNoPart (tPart (tFld K (tVar 0) "most"))) (tCons (tSl rSlS (tVar 1) (tPart (tUn rNegI (tFld K (tVar 0) "most"))) tNoPart) tNil))) tNil)))))) tNil)))
    (tRet (tOp rSubI (tCB (rLenQ K) (tCons (tFld K (tVar 0) "rows") tNil)) (tC (.int 1)))))
abbrev N_Nodes_pair : List Str := ["self", "left", "right", "one", "other", "first", "last"]
theorem sc_Nodes_pair : FnScope N_Nodes_pair ps_Nodes_pair (defScope s_Nodes_pair) := ⟨rfl, rfl, rfl, by decide +kernel, rfl, by decide +kernel, by decide +kernel⟩
def t_Nodes_pair (K : PySem.W.Frag) (sp_Node_init : Sp) : TS :=
    (tSeq (tPar 3 4 (tCons (tOp (rIxL K) (tFld K (tVar 0) "rows") (tVar 1)) (tCons (tOp (rIxL K) (tFld K (tVar 0) "rows") (tVar 2)) tNil)))
    (tSeq (tAsg (tSl rSlS (tOp rAddS (tOp (rIxT K) (tFld K (tVar 3) "ends") (tC (.int 0))) (tOp (rIxT K) (tFld K (tVar 4) "ends") (tC (.int 0)))) tNoPart (tPart (tFld K (tVar 0) "most"))) (gName 5))
    (tSeq (tAsg (tSl rSlS (tOp rAddS (tOp (rIxT K) (tFld K (tVar 3) "ends") (tC (.int 1))) (tOp (rIxT K) (tFld K (tVar 4) "ends") (tC (.int 1)))) (tPart (tUn rNegI (tFld K (tVar 0) "most"))) tNoPart) (gName 6))
    (tSeq (tDrop (tBM K "list" rAppend (tFld K (tVar 0) "rows") (tCons (tMake (cNode K) sp_Node_init [] E0 (tCons (tC .non) (tCons (tVar 1) (tCons (tVar 2) (tCons (tOp rAddI (tFld K (tVar 3) "size") (tFld K (tVar 4) "size")) (tCons (tTup (tCons (tVar 5) (tCons (tVar 6) tNil))) tNil)))))) tNil)))
    (tRet (tOp rSubI (tCB (rLenQ K) (tCons (tFld K (tVar 0) "rows") tNil)) (tC (.int 1))))))))
abbrev N_Nodes_often : List Str := ["self", "number", "count", "found", "left"]
theorem sc_Nodes_often : FnScope N_Nodes_often ps_Nodes_often (defScope s_Nodes_often) := ⟨rfl, rfl, rfl, by decide +kernel, rfl, by decide +kernel, by decide +kernel⟩
def t_Nodes_often (K : PySem.W.Frag) (sp_Nodes_pair : Sp) : TS :=
    (tSeq (tPar 3 4 (tCons (tC .non) (tCons (tVar 2) tNil)))
    (tSeq (tWhile (tTest (tOp rGtI (tVar 4) (tC (.int 0)))) (tSeq (tIfS (tTest (tOp rEq (tOp rModI (tCB rInt (tCons (tVar 4) tNil)) (tC (.int 2))) (tC (.int 1)))) (tAsg (tIf (tB (tIsN (tVar 3))) (tVar 1) (tMeth (cNodes K) "pair" sp_Nodes_pair [] E0 (tVar 0) (tCons (tVar 3) (tCons (tVar 1) tNil)))) (gName 3)) tNext)
    (tSeq (tAsg (tOp rDivI (tVar 4) (tC (.int 2))) (gName 4))
    (tIfS (tTest (tOp rGtI (tVar 4) (tC (.int 0)))) (tAsg (tMeth (cNodes K) "pair" sp_Nodes_pair [] E0 (tVar 0) (tCons (tVar 1) (tCons (tVar 1) tNil))) (gName 1)) tNext))))
    (tRet (tVar 3))))
abbrev N_Weave_init : List Str := ["self", "letters", "rules", "root", "rings", "name"]
theorem sc_Weave_init : FnScope N_Weave_init ps_Weave_init (defScope s_Weave_init) := ⟨rfl, rfl, rfl, by decide +kernel, rfl, by decide +kernel, by decide +kernel⟩
def t_Weave_init (K : PySem.W.Frag) (sp_check_letters : Sp) (sp_check_rules : Sp) (sp_names_in : Sp) (sp_Nodes_init : Sp) (sp_Weave_woven : Sp) : TS :=
    (tSeq (tDrop (tCall sp_check_letters [] E0 (tCons (tVar 1) tNil)))
    (tSeq (tDrop (tCall sp_check_rules [] E0 (tCons (tVar 1) (tCons (tVar 2) tNil))))
    (tSeq (tAsg (tLc (iList K (tCB rSortDK (tCons (tVar 2) tNil))) (gName 5) (tTest (tOp (rIn K false) (tVar 5) (tCall sp_names_in [] E0 (tCons (tVar 2) (tCons (tVar 5) tNil))))) (tVar 5) [5]) (gName 4))
    (tSeq (tIfS (tTru K (tVar 4)) tNever tNext)
    (tSeq (tIfS (tOr (tNot (tB (tCB (rIsi K) (tCons (tVar 3) (tCons (tC (.ty "str")) tNil))))) (tB (tDNotIn (tVar 3) (tVar 2)))) tNever tNext)
    (tSeq (sFld K (tVar 0) (tVar 1) "letters")
    (tSeq (sFld K (tVar 0) (tMake (cNodes K) sp_Nodes_init [] E0 (tCons (tC (.int 8)) tNil)) "own_nodes")
    (tSeq (sFld K (tVar 0) (tMeth (cWeave K) "woven" sp_Weave_woven [] E0 (tVar 0) (tCons (tVar 2) (tCons (tVar 3) tNil))) "own_root")
    (sFld K (tVar 0) (tFld K (tOp (rIxL K) (tFld K (tFld K (tVar 0) "own_nodes") "rows") (tFld K (tVar 0) "own_root")) "size") "size")))))))))
abbrev N_Weave_woven : List Str := ["self", "rules", "root", "numbers", "nodes", "needed", "name", "whole", "part", "count", "one"]
theorem sc_Weave_woven : FnScope N_Weave_woven ps_Weave_woven (defScope s_Weave_woven) := ⟨rfl, rfl, rfl, by decide +kernel, rfl, by decide +kernel, by decide +kernel⟩
def t_Weave_woven (K : PySem.W.Frag) (sp_names_in : Sp) (sp_ordered : Sp) (sp_is_name : Sp) (sp_Nodes_leaf : Sp) (sp_Nodes_often : Sp) (sp_Nodes_pair : Sp) : TS :=
    (tSeq (tAsg (tTup (tCons tDNewK (tCons (tFld K (tVar 0) "own_nodes") (tCons (tOp rCat (tCall sp_names_in [] E0 (tCons (tVar 1) (tCons (tVar 2) tNil))) (tLst (tCons (tVar 2) tNil))) tNil)))) (gTup K 3 (gCons (gName 3) (gCons (gName 4) (gCons (gName 5) gNil)))))
    (tSeq (tFor (iList K (tLc (iList K (tCall sp_ordered [] E0 (tCons (tVar 1) tNil))) (gName 10) (tTest (tOp (rIn K false) (tVar 10) (tVar 5))) (tVar 10) [10])) (gName 6) (tSeq (tAsg (tC .non) (gName 7))
    (tSeq (tFor (iList K (tDGet (tVar 1) (tVar 6))) (gTup K 2 (gCons (gName 8) (gCons (gName 9) gNil))) (tSeq (tAsg (tIf (tB (tCall sp_is_name [] E0 (tCons (tVar 8) tNil))) (tDGet (tVar 3) (tVar 8)) (tMeth (cNodes K) "leaf" sp_Nodes_leaf [] E0 (tVar 4) (tCons (tVar 8) tNil))) (gName 10))
    (tSeq (tAsg (tMeth (cNodes K) "often" sp_Nodes_often [] E0 (tVar 4) (tCons (tVar 10) (tCons (tVar 9) tNil))) (gName 10))
    (tAsg (tIf (tB (tIsN (tVar 7))) (tVar 10) (tMeth (cNodes K) "pair" sp_Nodes_pair [] E0 (tVar 4) (tCons (tVar 7) (tCons (tVar 10) tNil)))) (gName 7)))))
    (sDPut (tVar 3) (tVar 6) (tVar 7)))))
    (tRet (tDGet (tVar 3) (tVar 2)))))
abbrev N_Weave_letter : List Str := ["self", "number", "at", "node", "left"]
theorem sc_Weave_letter : FnScope N_Weave_letter ps_Weave_letter (defScope s_Weave_letter) := ⟨rfl, rfl, rfl, by decide +kernel, rfl, by decide +kernel, by decide +kernel⟩
def t_Weave_letter (K : PySem.W.Frag) : TS :=
    (tSeq (tIfS (tOr (tNot (tB (tCB (rIsi K) (tCons (tVar 1) (tCons (tC (.ty "int")) tNil))))) (tOr (tB (tCB (rIsi K) (tCons (tVar 1) (tCons (tC (.ty "bool")) tNil)))) (tNot (tTest (tChain rLeI rLtI (tC (.int 0)) (tVar 1) (tFld K (tVar 0) "size")))))) tNever tNext)
    (tSeq (tPar 2 3 (tCons (tVar 1) (tCons (tOp (rIxL K) (tFld K (tFld K (tVar 0) "own_nodes") "rows") (tFld K (tVar 0) "own_root")) tNil)))
    (tSeq (tWhile (tB (tIsN (tFld K (tVar 3) "letters"))) (tSeq (tAsg (tOp (rIxL K) (tFld K (tFld K (tVar 0) "own_nodes") "rows") (tFld K (tVar 3) "left")) (gName 4))
    (tIfS (tTest (tOp rLtI (tVar 2) (tFld K (tVar 4) "size"))) (tAsg (tVar 4) (gName 3)) (tSeq (tAsg (tOp rSubI (tVar 2) (tFld K (tVar 4) "size")) (gName 2))
    (tAsg (tOp (rIxL K) (tFld K (tFld K (tVar 0) "own_nodes") "rows") (tFld K (tVar 3) "right")) (gName 3))))))
    (tRet (tOp rIxS (tFld K (tVar 3) "letters") (tVar 2))))))
abbrev N_Weave_part : List Str := ["self", "first", "size", "at"]
theorem sc_Weave_part : FnScope N_Weave_part ps_Weave_part (defScope s_Weave_part) := ⟨rfl, rfl, rfl, by decide +kernel, rfl, by decide +kernel, by decide +kernel⟩
def t_Weave_part (K : PySem.W.Frag) (sp_Weave_letter : Sp) : TS :=
    (tSeq (tIfS (tTest (tOp rGtI (tVar 2) (tC (.int 2000)))) tNever tNext)
    (tSeq (tIfS (tOr (tNot (tB (tCB (rIsi K) (tCons (tVar 1) (tCons (tC (.ty "int")) tNil))))) (tOr (tB (tCB (rIsi K) (tCons (tVar 1) (tCons (tC (.ty "bool")) tNil)))) (tNot (tTest (tChain rLeI rLeI (tC (.int 0)) (tVar 1) (tOp rSubI (tFld K (tVar 0) "size") (tVar 2))))))) tNever tNext)
    (tRet (tM1 (rJoin K) (tC (.str "")) (tLc (iRng1 (tCons (tVar 2) tNil)) (gName 3) tYes (tMeth (cWeave K) "letter" sp_Weave_letter [] E0 (tVar 0) (tCons (tOp rAddI (tVar 1) (tVar 3)) tNil)) [3])))))
abbrev N_Sums_init : List Str := ["self", "cost", "windows", "told"]
theorem sc_Sums_init : FnScope N_Sums_init ps_Sums_init (defScope s_Sums_init) := ⟨rfl, rfl, rfl, by decide +kernel, rfl, by decide +kernel, by decide +kernel⟩
def t_Sums_init (K : PySem.W.Frag) : TS :=
    (tSeq (sFld K (tVar 0) (tVar 1) "cost")
    (tSeq (sFld K (tVar 0) (tVar 2) "windows")
    (sFld K (tVar 0) (tVar 3) "told")))
abbrev N_Sums_plus : List Str := ["self", "other"]
theorem sc_Sums_plus : FnScope N_Sums_plus ps_Sums_plus (defScope s_Sums_plus) := ⟨rfl, rfl, rfl, by decide +kernel, rfl, by decide +kernel, by decide +kernel⟩
def t_Sums_plus (K : PySem.W.Frag) (sp_Sums_init : Sp) : TS :=
    (tRet (tMake (cSums K) sp_Sums_init [] E0 (tCons (tOp rAddI (tFld K (tVar 0) "cost") (tFld K (tVar 1) "cost")) (tCons (tOp rAddI (tFld K (tVar 0) "windows") (tFld K (tVar 1) "windows")) (tCons (tOp rAddI (tFld K (tVar 0) "told") (tFld K (tVar 1) "told")) tNil)))))
abbrev N_Walk_init : List Str := ["self", "searcher", "nodes"]
theorem sc_Walk_init : FnScope N_Walk_init ps_Walk_init (defScope s_Walk_init) := ⟨rfl, rfl, rfl, by decide +kernel, rfl, by decide +kernel, by decide +kernel⟩
def t_Walk_init (K : PySem.W.Frag) : TS :=
    (tSeq (sFld K (tVar 0) (tVar 1) "searcher")
    (tSeq (sFld K (tVar 0) (tFld K (tVar 2) "rows") "rows")
    (tSeq (sFld K (tVar 0) tDNewT "known")
    (sFld K (tVar 0) tDNewT "seams"))))
abbrev N_Walk_turns : List Str := ["self", "views", "place", "state", "first", "most", "width", "done", "begin", "turn"]
theorem sc_Walk_turns : FnScope N_Walk_turns ps_Walk_turns (defScope s_Walk_turns) := ⟨rfl, rfl, rfl, by decide +kernel, rfl, by decide +kernel, by decide +kernel⟩
def t_Walk_turns (K : PySem.W.Frag) (sp_WindowTurn_init : Sp) : TS :=
    (tSeq (tPar 6 7 (tCons (tFld K (tFld K (tVar 0) "searcher") "width") (tCons (tLst tNil) tNil)))
    (tSeq (tWhile (tAnd (tTest (tOp rLtI (tVar 2) (tOp rAddI (tVar 4) (tCB rLenS (tCons (tVar 1) tNil))))) (tTest (tOp rLtI (tOp rAddI (tVar 2) (tVar 6)) (tVar 5)))) (tSeq (tAsg (tOp rSubI (tVar 2) (tVar 4)) (gName 8))
    (tSeq (tAsg (tMake (cWindowTurn K) sp_WindowTurn_init [] E0 (tCons (tFld K (tVar 0) "searcher") (tCons (tVar 3) (tCons (tSl rSlS (tVar 1) (tPart (tVar 8)) (tPart (tOp rAddI (tOp rAddI (tVar 8) (tVar 6)) (tC (.int 1))))) tNil)))) (gName 9))
    (tSeq (tDrop (tBM K "list" rAppend (tVar 7) (tCons (tTup (tCons (tVar 2) (tCons (tCB (rLenQ K) (tCons (tFld K (tVar 9) "reads") tNil)) (tCons (tFld K (tVar 9) "numbers") tNil)))) tNil)))
    (tPar 2 3 (tCons (tOp rAddI (tVar 2) (tFld K (tVar 9) "slide")) (tCons (tFld K (tVar 9) "state") tNil)))))))
    (tRet (tTup (tCons (tVar 2) (tCons (tVar 3) (tCons (tVar 7) tNil)))))))
abbrev N_Walk_summed : List Str := ["self", "done", "told", "place", "cost", "numbers"]
theorem sc_Walk_summed : FnScope N_Walk_summed ps_Walk_summed (defScope s_Walk_summed) := ⟨rfl, rfl, rfl, by decide +kernel, rfl, by decide +kernel, by decide +kernel⟩
def t_Walk_summed (K : PySem.W.Frag) (sp_Sums_init : Sp) : TS :=
    (tSeq (tAsg (tCB (rSum K) (tCons (tLc (iList K (tVar 1)) (gTup K 3 (gCons (gName 3) (gCons (gName 4) (gCons (gName 5) gNil)))) tYes (tCB (rLenQ K) (tCons (tVar 5) tNil)) [3, 4, 5]) tNil)) (gName 2))
    (tRet (tMake (cSums K) sp_Sums_init [] E0 (tCons (tCB (rSum K) (tCons (tLc (iList K (tVar 1)) (gTup K 3 (gCons (gName 3) (gCons (gName 4) (gCons (gName 5) gNil)))) tYes (tVar 4) [3, 4, 5]) tNil)) (tCons (tCB (rLenQ K) (tCons (tVar 1) tNil)) (tCons (tVar 2) tNil))))))
abbrev N_Walk_solved : List Str := ["self", "number", "place", "state", "waiting", "key", "lacks"]
theorem sc_Walk_solved : FnScope N_Walk_solved ps_Walk_solved (defScope s_Walk_solved) := ⟨rfl, rfl, rfl, by decide +kernel, rfl, by decide +kernel, by decide +kernel⟩
def t_Walk_solved (K : PySem.W.Frag) (sp_Walk_lacking : Sp) : TS :=
    (tSeq (tAsg (tLst (tCons (tTup (tCons (tVar 1) (tCons (tVar 2) (tCons (tVar 3) tNil)))) tNil)) (gName 4))
    (tSeq (tWhile (tTru K (tVar 4)) (tSeq (tAsg (tOp (rIxL K) (tVar 4) (tUn rNegI (tC (.int 1)))) (gName 5))
    (tSeq (tAsg (tIf (tB (tDIn (tVar 5) (tFld K (tVar 0) "known"))) (tC .non) (tMeth (cWalk K) "lacking" sp_Walk_lacking [] E0 (tVar 0) (tCons (tVar 5) tNil))) (gName 6))
    (tIfS (tB (tIsN (tVar 6))) (tDrop (tBM0 K "list" rPop (tVar 4))) (tDrop (tBM K "list" rAppend (tVar 4) (tCons (tVar 6) tNil)))))))
    (tRet (tDGet (tFld K (tVar 0) "known") (tTup (tCons (tVar 1) (tCons (tVar 2) (tCons (tVar 3) tNil))))))))
abbrev N_Walk_lacking : List Str := ["self", "key", "node", "place", "state", "sums", "left", "done", "first", "second", "behind", "more"]
theorem sc_Walk_lacking : FnScope N_Walk_lacking ps_Walk_lacking (defScope s_Walk_lacking) := ⟨rfl, rfl, rfl, by decide +kernel, rfl, by decide +kernel, by decide +kernel⟩
def t_Walk_lacking (K : PySem.W.Frag) (sp_Walk_turns : Sp) (sp_Walk_summed : Sp) (sp_Sums_init : Sp) (sp_Walk_crossed : Sp) (sp_Sums_plus : Sp) : TS :=
    (tSeq (tPar3 2 3 4 (tCons (tOp (rIxL K) (tFld K (tVar 0) "rows") (tOp (rIxT K) (tVar 1) (tC (.int 0)))) (tCons (tOp (rIxT K) (tVar 1) (tC (.int 1))) (tCons (tOp (rIxT K) (tVar 1) (tC (.int 2))) tNil))))
    (tSeq (tIfS (tB (tNotN (tFld K (tVar 2) "letters"))) (tSeq (tAsg (tMeth (cWalk K) "turns" sp_Walk_turns [] E0 (tVar 0) (tCons (tSl rSlS (tFld K (tVar 2) "letters") (tPart (tVar 3)) tNoPart) (tCons (tVar 3) (tCons (tVar 4) (tCons (tVar 3) (tCons (tFld K (tVar 2) "size") tNil)))))) (gTup K 3 (gCons (gName 3) (gCons (gName 4) (gCons (gName 7) gNil)))))
    (tSeq (sDPut (tFld K (tVar 0) "known") (tVar 1) (tTup (tCons (tVar 3) (tCons (tVar 4) (tCons (tMeth (cWalk K) "summed" sp_Walk_summed [] E0 (tVar 0) (tCons (tVar 7) tNil)) tNil)))))
    (tRet (tC .non)))) tNext)
    (tSeq (tAsg (tMake (cSums K) sp_Sums_init [] E0 (tCons (tC (.int 0)) (tCons (tC (.int 0)) (tCons (tC (.int 0)) tNil)))) (gName 5))
    (tSeq (tAsg (tOp (rIxL K) (tFld K (tVar 0) "rows") (tFld K (tVar 2) "left")) (gName 6))
    (tSeq (tIfS (tTest (tOp rLtI (tVar 3) (tFld K (tVar 6) "size"))) (tSeq (tAsg (tTup (tCons (tFld K (tVar 2) "left") (tCons (tVar 3) (tCons (tVar 4) tNil)))) (gName 8))
    (tSeq (tIfS (tB (tDNotIn (tVar 8) (tFld K (tVar 0) "known"))) (tRet (tVar 8)) tNext)
    (tSeq (tAsg (tDGet (tFld K (tVar 0) "known") (tVar 8)) (gTup K 3 (gCons (gName 3) (gCons (gName 4) (gCons (gName 5) gNil)))))
    (tSeq (tAsg (tMeth (cWalk K) "crossed" sp_Walk_crossed [] E0 (tVar 0) (tCons (tVar 2) (tCons (tVar 3) (tCons (tVar 4) tNil)))) (gTup K 3 (gCons (gName 3) (gCons (gName 4) (gCons (gName 7) gNil)))))
    (tSeq (sDPut (tFld K (tVar 0) "seams") (tVar 1) (tTup (tCons (tVar 3) (tCons (tVar 4) (tCons (tVar 7) tNil)))))
    (tAsg (tMeth (cSums K) "plus" sp_Sums_plus [] E0 (tVar 5) (tCons (tMeth (cWalk K) "summed" sp_Walk_summed [] E0 (tVar 0) (tCons (tVar 7) tNil)) tNil)) (gName 5))))))) tNext)
    (tSeq (tIfS (tTest (tOp rGeI (tVar 3) (tFld K (tVar 6) "size"))) (tSeq (tAsg (tTup (tCons (tFld K (tVar 2) "right") (tCons (tOp rSubI (tVar 3) (tFld K (tVar 6) "size")) (tCons (tVar 4) tNil)))) (gName 9))
    (tSeq (tIfS (tB (tDNotIn (tVar 9) (tFld K (tVar 0) "known"))) (tRet (tVar 9)) tNext)
    (tSeq (tAsg (tDGet (tFld K (tVar 0) "known") (tVar 9)) (gTup K 3 (gCons (gName 10) (gCons (gName 4) (gCons (gName 11) gNil)))))
    (tPar 3 5 (tCons (tOp rAddI (tFld K (tVar 6) "size") (tVar 10)) (tCons (tMeth (cSums K) "plus" sp_Sums_plus [] E0 (tVar 5) (tCons (tVar 11) tNil)) tNil)))))) tNext)
    (tSeq (sDPut (tFld K (tVar 0) "known") (tVar 1) (tTup (tCons (tVar 3) (tCons (tVar 4) (tCons (tVar 5) tNil)))))
    (tRet (tC .non)))))))))
abbrev N_Walk_crossed : List Str := ["self", "node", "place", "state", "left", "done", "more"]
theorem sc_Walk_crossed : FnScope N_Walk_crossed ps_Walk_crossed (defScope s_Walk_crossed) := ⟨rfl, rfl, rfl, by decide +kernel, rfl, by decide +kernel, by decide +kernel⟩
def t_Walk_crossed (K : PySem.W.Frag) (sp_Walk_one_seam : Sp) : TS :=
    (tSeq (tPar 4 5 (tCons (tOp (rIxL K) (tFld K (tVar 0) "rows") (tFld K (tVar 1) "left")) (tCons (tLst tNil) tNil)))
    (tSeq (tWhile (tAnd (tTest (tOp rLtI (tVar 2) (tFld K (tVar 4) "size"))) (tTest (tOp rLtI (tOp rAddI (tVar 2) (tFld K (tFld K (tVar 0) "searcher") "width")) (tFld K (tVar 1) "size")))) (tSeq (tAsg (tMeth (cWalk K) "one_seam" sp_Walk_one_seam [] E0 (tVar 0) (tCons (tVar 1) (tCons (tVar 2) (tCons (tVar 3) tNil)))) (gTup K 3 (gCons (gName 2) (gCons (gName 3) (gCons (gName 6) gNil)))))
    (tAsg (tOp rCat (tVar 5) (tVar 6)) (gName 5))))
    (tRet (tTup (tCons (tVar 2) (tCons (tVar 3) (tCons (tVar 5) tNil)))))))
abbrev N_Walk_one_seam : List Str := ["self", "node", "place", "state", "left", "right", "width", "tail", "view", "turn"]
theorem sc_Walk_one_seam : FnScope N_Walk_one_seam ps_Walk_one_seam (defScope s_Walk_one_seam) := ⟨rfl, rfl, rfl, by decide +kernel, rfl, by decide +kernel, by decide +kernel⟩
def t_Walk_one_seam (K : PySem.W.Frag) (sp_WindowTurn_init : Sp) : TS :=
    (tSeq (tPar3 4 5 6 (tCons (tOp (rIxL K) (tFld K (tVar 0) "rows") (tFld K (tVar 1) "left")) (tCons (tOp (rIxL K) (tFld K (tVar 0) "rows") (tFld K (tVar 1) "right")) (tCons (tFld K (tFld K (tVar 0) "searcher") "width") tNil))))
    (tSeq (tAsg (tSl rSlS (tOp (rIxT K) (tFld K (tVar 4) "ends") (tC (.int 1))) (tPart (tUn rNegI (tOp rSubI (tFld K (tVar 4) "size") (tVar 2)))) tNoPart) (gName 7))
    (tSeq (tAsg (tSl rSlS (tOp rAddS (tVar 7) (tOp (rIxT K) (tFld K (tVar 5) "ends") (tC (.int 0)))) tNoPart (tPart (tOp rAddI (tVar 6) (tC (.int 1))))) (gName 8))
    (tSeq (tAsg (tMake (cWindowTurn K) sp_WindowTurn_init [] E0 (tCons (tFld K (tVar 0) "searcher") (tCons (tVar 3) (tCons (tVar 8) tNil)))) (gName 9))
    (tRet (tTup (tCons (tOp rAddI (tVar 2) (tFld K (tVar 9) "slide")) (tCons (tFld K (tVar 9) "state") (tCons (tLst (tCons (tTup (tCons (tVar 2) (tCons (tCB (rLenQ K) (tCons (tFld K (tVar 9) "reads") tNil)) (tCons (tFld K (tVar 9) "numbers") tNil)))) tNil)) tNil)))))))))
abbrev N_Walk_told_in : List Str := ["self", "key", "k", "base", "node", "place", "state", "told", "pairs", "left", "done", "begin", "cost", "numbers", "first", "sums", "number"]
theorem sc_Walk_told_in : FnScope N_Walk_told_in ps_Walk_told_in (defScope s_Walk_told_in) := ⟨rfl, rfl, rfl, by decide +kernel, rfl, by decide +kernel, by decide +kernel⟩
def t_Walk_told_in (K : PySem.W.Frag) (sp_Walk_turns : Sp) : TS :=
    (tSeq (tAsg (tC (.int 0)) (gName 3))
    (tSeq (tWhile (tB (tIsN (tFld K (tOp (rIxL K) (tFld K (tVar 0) "rows") (tOp (rIxT K) (tVar 1) (tC (.int 0)))) "letters"))) (tSeq (tPar3 4 5 6 (tCons (tOp (rIxL K) (tFld K (tVar 0) "rows") (tOp (rIxT K) (tVar 1) (tC (.int 0)))) (tCons (tOp (rIxT K) (tVar 1) (tC (.int 1))) (tCons (tOp (rIxT K) (tVar 1) (tC (.int 2))) tNil))))
    (tSeq (tPar 9 10 (tCons (tOp (rIxL K) (tFld K (tVar 0) "rows") (tFld K (tVar 4) "left")) (tCons (tLst tNil) tNil)))
    (tSeq (tIfS (tTest (tOp rLtI (tVar 5) (tFld K (tVar 9) "size"))) (tSeq (tAsg (tTup (tCons (tFld K (tVar 4) "left") (tCons (tVar 5) (tCons (tVar 6) tNil)))) (gName 14))
    (tSeq (tAsg (tDGet (tFld K (tVar 0) "known") (tVar 14)) (gTup K 3 (gCons (gName 5) (gCons (gName 6) (gCons (gName 15) gNil)))))
    (tSeq (tIfS (tTest (tOp rLtI (tVar 2) (tFld K (tVar 15) "told"))) (tSeq (tAsg (tVar 14) (gName 1))
    tCont) tNext)
    (tSeq (tAsg (tOp rSubI (tVar 2) (tFld K (tVar 15) "told")) (gName 2))
    (tAsg (tDGet (tFld K (tVar 0) "seams") (tVar 1)) (gTup K 3 (gCons (gName 5) (gCons (gName 6) (gCons (gName 10) gNil))))))))) tNext)
    (tSeq (tFor (iList K (tVar 10)) (gTup K 3 (gCons (gName 11) (gCons (gName 12) (gCons (gName 13) gNil)))) (tSeq (tIfS (tTest (tOp rLtI (tVar 2) (tCB (rLenQ K) (tCons (tVar 13) tNil)))) (tRet (tTup (tCons (tOp rAddI (tVar 3) (tVar 11)) (tCons (tOp (rIxL K) (tVar 13) (tVar 2)) tNil)))) tNext)
    (tAsg (tOp rSubI (tVar 2) (tCB (rLenQ K) (tCons (tVar 13) tNil))) (gName 2))))
    (tAsg (tTup (tCons (tTup (tCons (tFld K (tVar 4) "right") (tCons (tOp rSubI (tVar 5) (tFld K (tVar 9) "size")) (tCons (tVar 6) tNil)))) (tCons (tOp rAddI (tVar 3) (tFld K (tVar 9) "size")) tNil))) (gTup K 2 (gCons (gName 1) (gCons (gName 3) gNil)))))))))
    (tSeq (tPar3 4 5 6 (tCons (tOp (rIxL K) (tFld K (tVar 0) "rows") (tOp (rIxT K) (tVar 1) (tC (.int 0)))) (tCons (tOp (rIxT K) (tVar 1) (tC (.int 1))) (tCons (tOp (rIxT K) (tVar 1) (tC (.int 2))) tNil))))
    (tSeq (tAsg (tOp (rIxT K) (tMeth (cWalk K) "turns" sp_Walk_turns [] E0 (tVar 0) (tCons (tSl rSlS (tFld K (tVar 4) "letters") (tPart (tVar 5)) tNoPart) (tCons (tVar 5) (tCons (tVar 6) (tCons (tVar 5) (tCons (tFld K (tVar 4) "size") tNil)))))) (tC (.int 2))) (gName 7))
    (tSeq (tAsg (tLc2 (iList K (tVar 7)) (gTup K 3 (gCons (gName 11) (gCons (gName 12) (gCons (gName 13) gNil)))) tYes (iList K (tVar 13)) (gName 16) tYes (tTup (tCons (tOp rAddI (tVar 3) (tVar 11)) (tCons (tVar 16) tNil))) [11, 12, 13, 16] [16]) (gName 8))
    (tRet (tOp (rIxL K) (tVar 8) (tVar 2))))))))
abbrev N_Far_init : List Str := ["self", "walk", "root", "last", "sums", "place", "cost", "numbers", "number"]
theorem sc_Far_init : FnScope N_Far_init ps_Far_init (defScope s_Far_init) := ⟨rfl, rfl, rfl, by decide +kernel, rfl, by decide +kernel, by decide +kernel⟩
def t_Far_init (K : PySem.W.Frag) (sp_Sums_plus : Sp) (sp_Walk_summed : Sp) : TS :=
    (tSeq (tAsg (tMeth (cSums K) "plus" sp_Sums_plus [] E0 (tOp (rIxT K) (tDGet (tFld K (tVar 1) "known") (tTup (tCons (tVar 2) (tCons (tC (.int 0)) (tCons (tC (.int 0)) tNil))))) (tC (.int 2))) (tCons (tMeth (cWalk K) "summed" sp_Walk_summed [] E0 (tVar 1) (tCons (tVar 3) tNil)) tNil)) (gName 4))
    (tSeq (sFld K (tVar 0) (tFld K (tVar 4) "cost") "cost")
    (tSeq (sFld K (tVar 0) (tFld K (tVar 4) "windows") "windows")
    (tSeq (sFld K (tVar 0) (tFld K (tVar 4) "told") "told")
    (tSeq (sFld K (tVar 0) (tVar 1) "own_walk")
    (tSeq (sFld K (tVar 0) (tVar 2) "own_root")
    (sFld K (tVar 0) (tLc2 (iList K (tVar 3)) (gTup K 3 (gCons (gName 5) (gCons (gName 6) (gCons (gName 7) gNil)))) tYes (iList K (tVar 7)) (gName 8) tYes (tTup (tCons (tVar 5) (tCons (tVar 8) tNil))) [5, 6, 7, 8] [8]) "own_last")))))))
abbrev N_Far_told_at : List Str := ["self", "k", "early"]
theorem sc_Far_told_at : FnScope N_Far_told_at ps_Far_told_at (defScope s_Far_told_at) := ⟨rfl, rfl, rfl, by decide +kernel, rfl, by decide +kernel, by decide +kernel⟩
def t_Far_told_at (K : PySem.W.Frag) (sp_Walk_told_in : Sp) : TS :=
    (tSeq (tIfS (tOr (tNot (tB (tCB (rIsi K) (tCons (tVar 1) (tCons (tC (.ty "int")) tNil))))) (tOr (tB (tCB (rIsi K) (tCons (tVar 1) (tCons (tC (.ty "bool")) tNil)))) (tNot (tTest (tChain rLeI rLtI (tC (.int 0)) (tVar 1) (tFld K (tVar 0) "told")))))) tNever tNext)
    (tSeq (tAsg (tOp rSubI (tFld K (tVar 0) "told") (tCB (rLenQ K) (tCons (tFld K (tVar 0) "own_last") tNil))) (gName 2))
    (tSeq (tIfS (tTest (tOp rGeI (tVar 1) (tVar 2))) (tRet (tOp (rIxL K) (tFld K (tVar 0) "own_last") (tOp rSubI (tVar 1) (tVar 2)))) tNext)
    (tRet (tMeth (cWalk K) "told_in" sp_Walk_told_in [] E0 (tFld K (tVar 0) "own_walk") (tCons (tTup (tCons (tFld K (tVar 0) "own_root") (tCons (tC (.int 0)) (tCons (tC (.int 0)) tNil)))) (tCons (tVar 1) tNil)))))))
abbrev N_Searcher_init : List Str := ["self", "letters", "width", "states", "total", "state", "tree", "is_wrong", "number"]
theorem sc_Searcher_init : FnScope N_Searcher_init ps_Searcher_init (defScope s_Searcher_init) := ⟨rfl, rfl, rfl, by decide +kernel, rfl, by decide +kernel, by decide +kernel⟩
def t_Searcher_init (K : PySem.W.Frag) (sp_check_letters : Sp) (sp_is_number : Sp) (sp_checked : Sp) (sp_kept : Sp) : TS :=
    (tSeq (tDrop (tCall sp_check_letters [] E0 (tCons (tVar 1) tNil)))
    (tSeq (tIfS (tNot (tB (tCall sp_is_number [] E0 (tCons (tVar 2) (tCons (tC (.int 1)) (tCons (tC (.int 8)) tNil)))))) tNever tNext)
    (tSeq (tIfS (tNot (tTest (tChain rLeI rLeI (tC (.int 1)) (tCB (rLenQ K) (tCons (tVar 3) tNil)) (tC (.int 64))))) tNever tNext)
    (tSeq (tAsg (tC (.int 0)) (gName 4))
    (tSeq (tFor (iEnum K (tCons (tVar 3) tNil)) (gTup K 2 (gCons (gName 5) (gCons (gName 6) gNil))) (tSeq (tAsg (tCall sp_checked [] E0 (tCons (tVar 6) (tCons (tCB rLenS (tCons (tVar 1) tNil)) (tCons (tVar 2) (tCons (tCB (rLenQ K) (tCons (tVar 3) tNil)) (tCons (tC (.int 1)) (tCons (tC (.int 0)) tNil))))))) (gTup K 2 (gCons (gName 7) (gCons (gName 8) gNil))))
    (tSeq (tIfS (tB (tVar 7)) tNever tNext)
    (tAsg (tOp rAddI (tVar 4) (tVar 8)) (gName 4)))))
    (tSeq (tIfS (tTest (tOp rGtI (tVar 4) (tC (.int 3000)))) tNever tNext)
    (tSeq (sFld K (tVar 0) (tVar 1) "letters")
    (tSeq (sFld K (tVar 0) (tVar 2) "width")
    (tSeq (sFld K (tVar 0) (tCB (rTupL K) (tCons (tLc (iList K (tVar 3)) (gName 6) tYes (tCall sp_kept [] E0 (tCons (tVar 6) tNil)) [6]) tNil)) "states")
    (sFld K (tVar 0) (tVar 4) "nodes"))))))))))
end Wk
namespace Wk
open PySem L2

abbrev Ex := Evl.Ex
abbrev SlS := L2.St
theorem ex_get {H H' : Hp} {a : Addr} {o : HO} (e : Ex H H') (h : H a = some o) : H' a = some o := e a o h
theorem ex_tr {H H1 H2 : Hp} (b : Ex H1 H2) (a : Ex H H1) : Ex H H2 := Evl.Ex.trans a b
theorem ex_t {K : PySem.W.Frag} {H H' : Hp} {a : Addr} {xs : List V} (e : Ex H H') (h : SqT K H a xs) : SqT K H' a xs := Evl.ex_t e h
theorem ex_l {K : PySem.W.Frag} {H H' : Hp} {a : Addr} {xs : List V} (e : Ex H H') (h : SqL K H a xs) : SqL K H' a xs := Evl.ex_l e h
theorem nn_back {H H' : Hp} {p : Addr} (e : Ex H H') (h : H' p = none) : H p = none := Evl.fresh_back e h
theorem sz1000 {n : Nat} (h : n ≤ 100000) : n ≤ sizeLine := Evl.sz_of h
theorem lt1000 {n : Nat} (h : n < 100000) : n < sizeLine := Evl.sz_lt h

section
variable {K : PySem.W.Frag} {σ : SlS} {H : Hp} {Q : VK} {QA : List V → Hp → Prop} {QB : Bool → Hp → Prop} {ta tb tc te tl : TE} {t u : TT} {x y v : V} {r : R2} {i j : Int} {a p : Addr} {k b : Bool} {xs ys : List V}

/-! ### expressions -/
theorem w_var {n : Nat} (h : σ[n]? = some (some v)) (q : Q v H) : tVar n σ H Q := ⟨v, h, q⟩
theorem w_c (q : Q v H) : tC v σ H Q := q
theorem w_op (q : ta σ H fun x H1 => tb σ H1 fun y H2 => r x y H2 Q) : tOp r ta tb σ H Q := q
theorem w_un {f : V → Hp → VK → Prop} (q : ta σ H fun x H1 => f x H1 Q) : tUn f ta σ H Q := q
theorem w_nil (q : QA [] H) : tNil σ H QA := q
theorem w_cons {tr : TA} (q : ta σ H fun x H1 => tr σ H1 fun xs H2 => QA (x :: xs) H2) : tCons ta tr σ H QA := q
/-- a truth value comes -/
def BlV (x : V) (H : Hp) (Q : Bool → Hp → Prop) : Prop := ∃ c, x = .bl c ∧ Q c H
theorem w_blv (q : QB k H) : BlV (.bl k) H QB := ⟨k, rfl, q⟩
theorem w_test (q : te σ H fun x H1 => BlV x H1 QB) : tTest te σ H QB := q
theorem w_tB (q : te σ H fun x H1 => BlV x H1 QB) : tB te σ H QB := q
theorem w_not (q : t σ H fun c H1 => QB (!c) H1) : tNot t σ H QB := q
/-- by the answer -/
def IfB (c : Bool) (P1 P2 : Prop) : Prop := if c = true then P1 else P2
theorem if_t {c : Bool} {P1 P2 : Prop} (h : c = true) (q : P1) : IfB c P1 P2 := by unfold IfB; rw [if_pos h]; exact q
theorem if_f {c : Bool} {P1 P2 : Prop} (h : c = false) (q : P2) : IfB c P1 P2 := by unfold IfB; rw [h, if_neg (by decide)]; exact q
theorem if_c {c : Bool} {P1 P2 : Prop} (h1 : c = true → P1) (h2 : c = false → P2) : IfB c P1 P2 := by
  cases c with
  | true => exact if_t rfl (h1 rfl)
  | false => exact if_f rfl (h2 rfl)
theorem w_and (q : t σ H fun c H1 => IfB c (u σ H1 QB) (QB false H1)) : tAnd t u σ H QB := q
theorem w_or (q : t σ H fun c H1 => IfB c (QB true H1) (u σ H1 QB)) : tOr t u σ H QB := q
theorem w_if (q : t σ H fun c H1 => IfB c (ta σ H1 Q) (tb σ H1 Q)) : tIf t ta tb σ H Q := q
theorem w_andV (q : ta σ H fun x H1 => BlV x H1 fun c H2 => IfB c (tb σ H2 Q) (Q (.bl false) H2)) : tAndV ta tb σ H Q := by
  refine Eq.mp ?_ q
  rfl
theorem w_orV (q : ta σ H fun x H1 => BlV x H1 fun c H2 => IfB c (Q (.bl true) H2) (tb σ H2 Q)) : tOrV ta tb σ H Q := q
theorem w_notV (q : ta σ H fun x H1 => BlV x H1 fun c H2 => Q (.bl (!c)) H2) : tNotV ta σ H Q := q
def NonV (f : Bool → Bool) (x : V) (H : Hp) (Q : VK) : Prop := Q (.bl (f (decide (x = .non)))) H
theorem w_isN (q : ta σ H fun x H1 => NonV (fun b => b) x H1 Q) : tIsN ta σ H Q := q
theorem w_notN (q : ta σ H fun x H1 => NonV (fun b => !b) x H1 Q) : tNotN ta σ H Q := q
theorem nonv_non {f : Bool → Bool} (q : Q (.bl (f true)) H) : NonV f .non H Q := q
theorem nonv_int {f : Bool → Bool} (q : Q (.bl (f false)) H) : NonV f (.int i) H Q := q
theorem nonv_ref {f : Bool → Bool} (q : Q (.bl (f false)) H) : NonV f (.ref a) H Q := q
theorem nonv_str {f : Bool → Bool} {z : Str} (q : Q (.bl (f false)) H) : NonV f (.str z) H Q := q
theorem w_chain {r r' : R2} (q : ta σ H fun x H1 => tb σ H1 fun y H2 => r x y H2 fun z H3 => BlV z H3 fun k H4 => IfB k (tc σ H4 fun w' H5 => r' y w' H5 Q) (Q (.bl false) H4)) : tChain r r' ta tb tc σ H Q := q
theorem w_tru (q : ta σ H fun x H1 => ∃ k, TruV K x H1 k ∧ QB k H1) : tTru K ta σ H QB := q

/-! ### operators -/
theorem w_addI (q : Q (.int (i + j)) H) : rAddI (.int i) (.int j) H Q := ⟨i, j, rfl, rfl, q⟩
theorem w_subI (q : Q (.int (i - j)) H) : rSubI (.int i) (.int j) H Q := ⟨i, j, rfl, rfl, q⟩
theorem w_mulI (hc : CMul i j) (q : Q (.int (i * j)) H) : rMulI (.int i) (.int j) H Q := ⟨i, j, rfl, rfl, hc, q⟩
theorem w_modI (hc : 0 < j) (q : Q (.int (i % j)) H) : rModI (.int i) (.int j) H Q := ⟨i, j, rfl, rfl, hc, q⟩
theorem w_divI (hc : CDiv i j) (q : Q (.int (i / j)) H) : rDivI (.int i) (.int j) H Q := ⟨i, j, rfl, rfl, hc, q⟩
theorem w_powI (hc : CPow i j) (q : Q (.int (i ^ j.toNat)) H) : rPowI (.int i) (.int j) H Q := ⟨i, j, rfl, rfl, hc, q⟩
theorem w_ltI (q : Q (.bl (decide (i < j))) H) : rLtI (.int i) (.int j) H Q := ⟨i, j, rfl, rfl, q⟩
theorem w_leI (q : Q (.bl (decide (i ≤ j))) H) : rLeI (.int i) (.int j) H Q := ⟨i, j, rfl, rfl, q⟩
theorem w_gtI (q : Q (.bl (decide (j < i))) H) : rGtI (.int i) (.int j) H Q := ⟨i, j, rfl, rfl, q⟩
theorem w_geI (q : Q (.bl (decide (j ≤ i))) H) : rGeI (.int i) (.int j) H Q := ⟨i, j, rfl, rfl, q⟩
theorem w_negI (q : Q (.int (-i)) H) : rNegI (.int i) H Q := ⟨i, rfl, q⟩
theorem w_addS {l m : List Nat} (hc : l.length + m.length ≤ 10000000) (q : Q (.str (S (l ++ m))) H) : rAddS (.str (S l)) (.str (S m)) H Q :=
  ⟨_, _, rfl, rfl, by rw [S_len, S_len]; have : (sizeLine : Nat) = 16777216 := sizeLine_eq; omega, by rw [S_app]; exact q⟩
theorem w_mulS {l : List Nat} {n : Nat} (h1 : 1 ≤ n) (h2 : n ≤ 1000) (hl : l.length ≤ 10000) (q : Q (.str (S (repS l n))) H) : rMulS (.str (S l)) (.int (n : Int)) H Q := ⟨l, n, rfl, rfl, h1, h2, hl, q⟩
theorem w_eqI (q : Q (.bl (decide (i = j))) H) : rEq (.int i) (.int j) H Q := ⟨rfl, by
  have e : decide (V.int i = V.int j) = decide (i = j) := decide_eq_decide.mpr ⟨fun h => V.int.inj h, fun h => by rw [h]⟩
  rw [e]; exact q⟩
theorem w_neI (q : Q (.bl (!decide (i = j))) H) : rNe (.int i) (.int j) H Q := ⟨rfl, by
  have e : decide (V.int i = V.int j) = decide (i = j) := decide_eq_decide.mpr ⟨fun h => V.int.inj h, fun h => by rw [h]⟩
  rw [e]; exact q⟩
theorem w_eqS {m n : Str} (q : Q (.bl (decide (m = n))) H) : rEq (.str m) (.str n) H Q := ⟨rfl, by
  have e : decide (V.str m = V.str n) = decide (m = n) := decide_eq_decide.mpr ⟨fun h => V.str.inj h, fun h => by rw [h]⟩
  rw [e]; exact q⟩
theorem w_neS {m n : Str} (q : Q (.bl (!decide (m = n))) H) : rNe (.str m) (.str n) H Q := ⟨rfl, by
  have e : decide (V.str m = V.str n) = decide (m = n) := decide_eq_decide.mpr ⟨fun h => V.str.inj h, fun h => by rw [h]⟩
  rw [e]; exact q⟩
theorem w_inS {c : Nat} {z : Str} (q : Q (.bl (decide (c ∈ z.cps.toList))) H) : rInS (.str (S [c])) (.str z) H Q := ⟨c, z, rfl, rfl, q⟩
theorem w_notInS {c : Nat} {z : Str} (q : Q (.bl (!decide (c ∈ z.cps.toList))) H) : rNotInS (.str (S [c])) (.str z) H Q := ⟨c, z, rfl, rfl, q⟩
theorem w_ixL {xs : List V} {n : Nat} (h : SqL K H p xs) (ha : xs[n]? = some v) (q : Q v H) : rIxL K (.ref p) (.int (n : Int)) H Q := ⟨p, xs, n, v, rfl, rfl, h, atI_nat ha, q⟩
theorem w_ixT {xs : List V} {n : Nat} (h : SqT K H p xs) (ha : xs[n]? = some v) (q : Q v H) : rIxT K (.ref p) (.int (n : Int)) H Q := ⟨p, xs, n, v, rfl, rfl, h, atI_nat ha, q⟩
theorem w_ixT0 {xs : List V} (h : SqT K H p xs) (ha : xs[0]? = some v) (q : Q v H) : rIxT K (.ref p) (.int 0) H Q := w_ixT (n := 0) h ha q
theorem w_ixT1 {xs : List V} (h : SqT K H p xs) (ha : xs[1]? = some v) (q : Q v H) : rIxT K (.ref p) (.int 1) H Q := w_ixT (n := 1) h ha q
theorem w_ixT2 {xs : List V} (h : SqT K H p xs) (ha : xs[2]? = some v) (q : Q v H) : rIxT K (.ref p) (.int 2) H Q := w_ixT (n := 2) h ha q
theorem w_ixL0 {xs : List V} (h : SqL K H p xs) (ha : xs[0]? = some v) (q : Q v H) : rIxL K (.ref p) (.int 0) H Q := w_ixL (n := 0) h ha q
theorem w_ixLI {xs : List V} {i : Int} {n : Nat} (hn : i = (n : Int)) (h : SqL K H p xs) (ha : xs[n]? = some v) (q : Q v H) : rIxL K (.ref p) (.int i) H Q := by rw [hn]; exact w_ixL h ha q
theorem w_ixTI {xs : List V} {i : Int} {n : Nat} (hn : i = (n : Int)) (h : SqT K H p xs) (ha : xs[n]? = some v) (q : Q v H) : rIxT K (.ref p) (.int i) H Q := by rw [hn]; exact w_ixT h ha q
theorem w_ixSI {l : List Nat} {i : Int} {n c : Nat} (hn : i = (n : Int)) (hl : l.length ≤ 100000) (ha : l[n]? = some c) (q : Q (.str (S [c])) H) : rIxS (.str (S l)) (.int i) H Q := by
  subst hn
  exact ⟨S l, n, c, rfl, rfl, by rw [S_len]; exact sz1000 hl, by simpa using atI_nat ha, q⟩
/-! ### calls of the built-in -/
theorem w_cb {f : RL} {ts : TA} (q : ts σ H fun vs H1 => f vs H1 Q) : tCB f ts σ H Q := q
theorem w_lenS {l : List Nat} (hl : l.length ≤ 10000000) (q : Q (.int (l.length : Int)) H) : rLenS [.str (S l)] H Q := ⟨_, rfl, by rw [S_len]; have : (sizeLine : Nat) = 16777216 := sizeLine_eq; omega, by rw [S_len]; exact q⟩
theorem w_lenL (h : SqL K H p ys) (q : Q (.int (ys.length : Int)) H) : rLenQ K [.ref p] H Q := ⟨p, ys, rfl, .inl h, q⟩
theorem w_lenT (h : SqT K H p ys) (q : Q (.int (ys.length : Int)) H) : rLenQ K [.ref p] H Q := ⟨p, ys, rfl, .inr h, q⟩
theorem w_lenDK {kvs : List (Key × V)} (h : H a = some (.dK kvs)) (q : Q (.int (kvs.length : Int)) H) : rLenDK [.ref a] H Q := ⟨a, kvs, rfl, h, q⟩
theorem w_intI (q : Q (.int i) H) : rInt [.int i] H Q := .inl ⟨i, rfl, q⟩
theorem w_intB (q : Q (.int (if k then 1 else 0)) H) : rInt [.bl k] H Q := .inr ⟨k, rfl, q⟩
theorem w_abs (q : Q (.int (if i < 0 then -i else i)) H) : rAbs [.int i] H Q := ⟨i, rfl, q⟩
theorem w_max2 (q : Q (.int (if j > i then j else i)) H) : rMax2 [.int i, .int j] H Q := ⟨i, j, rfl, q⟩
theorem w_all {bs : List Bool} (h : SqL K H p (bs.map V.bl)) (q : Q (.bl (bs.all id)) H) : rAll K [.ref p] H Q := ⟨p, bs, rfl, h, q⟩
theorem w_any {bs : List Bool} (h : SqL K H p (bs.map V.bl)) (q : Q (.bl (bs.any id)) H) : rAny K [.ref p] H Q := ⟨p, bs, rfl, h, q⟩
theorem w_sum {ns : List Int} (h : SqL K H p (ns.map V.int)) (q : Q (.int ns.sum) H) : rSum K [.ref p] H Q := ⟨p, ns, rfl, h, q⟩
theorem w_isi {n : String} {tt : Value} (ty : TyX K H x tt) (e : PySem.W.kitOne K tt (.type n) = some b) (q : Q (.bl b) H) : rIsi K [x, .ty n] H Q := ⟨x, .ty n, tt, .type n, b, rfl, .ty n, ty, e, q⟩
theorem w_isi_str {z : Str} (q : Q (.bl true) H) : rIsi K [.str z, .ty "str"] H Q := w_isi (.base (.str z)) (kit_ty (by decide +kernel)) q
theorem w_isi_int (q : Q (.bl true) H) : rIsi K [.int i, .ty "int"] H Q := w_isi (.base (.int i)) (kit_ty (by decide +kernel)) q
theorem w_isi_bool (q : Q (.bl false) H) : rIsi K [.int i, .ty "bool"] H Q := w_isi (.base (.int i)) (kit_ty (by decide +kernel)) q
/-! ### new objects -/
def TupV (xs : List V) (H : Hp) (Q : VK) : Prop := xs.length ≤ sizeLine ∧ ∀ p, H p = none → Q (.ref p) (upd H p (.tup xs))
def LstV (xs : List V) (H : Hp) (Q : VK) : Prop := xs.length ≤ sizeLine ∧ ∀ p, H p = none → Q (.ref p) (upd H p (.lst xs))
theorem w_tup {ts : TA} (q : ts σ H fun xs H1 => TupV xs H1 Q) : tTup ts σ H Q := q
theorem w_lst {ts : TA} (q : ts σ H fun xs H1 => LstV xs H1 Q) : tLst ts σ H Q := q
theorem w_tupv (hl : xs.length ≤ 100000) (q : ∀ p H', H p = none → Ex H H' → H' p = some (.tup xs) → Q (.ref p) H') : TupV xs H Q := ⟨sz1000 hl, fun p hp => q p _ hp (Evl.Ex.new hp) upd_same⟩
theorem w_lstv (hl : xs.length ≤ 100000) (q : ∀ p H', H p = none → Ex H H' → H' p = some (.lst xs) → Q (.ref p) H') : LstV xs H Q := ⟨sz1000 hl, fun p hp => q p _ hp (Evl.Ex.new hp) upd_same⟩
theorem w_dnewK (q : ∀ p H', H p = none → Ex H H' → H' p = some (.dK []) → Q (.ref p) H') : tDNewK σ H Q := fun p hp => q p _ hp (Evl.Ex.new hp) upd_same
theorem w_dnewT (q : ∀ p H', H p = none → Ex H H' → H' p = some (.dT []) → Q (.ref p) H') : tDNewT σ H Q := fun p hp => q p _ hp (Evl.Ex.new hp) upd_same
theorem w_tupL (h : SqL K H p ys) (q : ∀ p H', H p = none → Ex H H' → H' p = some (.tup ys) → Q (.ref p) H') : rTupL K [.ref p] H Q := ⟨p, ys, rfl, .inl ⟨h, fun l hl => q l _ hl (Evl.Ex.new hl) upd_same⟩⟩
theorem w_tupT (h : SqT K H p ys) (q : Q (.ref p) H) : rTupL K [.ref p] H Q := ⟨p, ys, rfl, .inr ⟨h, q⟩⟩
theorem w_listT (h : SqT K H p ys) (q : ∀ p H', H p = none → Ex H H' → H' p = some (.lst ys) → Q (.ref p) H') : rListL K [.ref p] H Q := ⟨p, ys, rfl, .inr h, fun l hl => q l _ hl (Evl.Ex.new hl) upd_same⟩
theorem w_listL (h : SqL K H p ys) (q : ∀ p H', H p = none → Ex H H' → H' p = some (.lst ys) → Q (.ref p) H') : rListL K [.ref p] H Q := ⟨p, ys, rfl, .inl h, fun l hl => q l _ hl (Evl.Ex.new hl) upd_same⟩
theorem w_cat {b : Addr} {zs : List V} (h1 : H a = some (.lst ys)) (h2 : H b = some (.lst zs)) (hl : ys.length + zs.length ≤ 100000) (q : ∀ p H', H p = none → Ex H H' → H' p = some (.lst (ys ++ zs)) → Q (.ref p) H') : rCat (.ref a) (.ref b) H Q :=
  ⟨a, b, ys, zs, rfl, rfl, h1, h2, sz1000 hl, fun p hp => q p _ hp (Evl.Ex.new hp) upd_same⟩
theorem w_catT {b : Addr} {zs : List V} (h1 : SqT K H a ys) (h2 : SqT K H b zs) (n1 : ys ≠ []) (n2 : zs ≠ []) (hl : ys.length + zs.length ≤ 100000) (q : ∀ p H', H p = none → Ex H H' → H' p = some (.tup (ys ++ zs)) → Q (.ref p) H') : rCatT K (.ref a) (.ref b) H Q :=
  ⟨a, b, ys, zs, rfl, rfl, h1, h2, n1, sz1000 hl, fun e => absurd e n2, fun _ p hp => q p _ hp (Evl.Ex.new hp) upd_same⟩

/-! ### slices of texts -/
def PtV (x : V) (H : Hp) (Q : Option Int → Hp → Prop) : Prop := ∃ i, x = .int i ∧ Q (some i) H
theorem w_ptv {QO : Option Int → Hp → Prop} (q : QO (some i) H) : PtV (.int i) H QO := ⟨i, rfl, q⟩
theorem w_part {QO : Option Int → Hp → Prop} (q : te σ H fun x H1 => PtV x H1 QO) : tPart te σ H QO := q
theorem w_nopart {QO : Option Int → Hp → Prop} (q : QO none H) : tNoPart σ H QO := q
theorem w_sl {f : V → Option Int → Option Int → Hp → VK → Prop} {t1 t2 : TO} (q : te σ H fun x H1 => t1 σ H1 fun l H2 => t2 σ H2 fun u H3 => f x l u H3 Q) : tSl f te t1 t2 σ H Q := q
end
def cut (l : List Nat) (lo hi : Option Int) : List Nat := (l.drop (HT.sIx l.length 0 lo)).take (HT.sIx l.length l.length hi - HT.sIx l.length 0 lo)
theorem cutS_S (l : List Nat) (lo hi : Option Int) : cutS (S l) lo hi = S (cut l lo hi) := by
  unfold cutS cut
  simp only [S_len]
  first | rfl | skip
section
variable {K : PySem.W.Frag} {σ : SlS} {H : Hp} {Q : VK} {QA : List V → Hp → Prop} {QB : Bool → Hp → Prop} {ta tb tc te tl : TE} {t u : TT} {x y v : V} {r : R2} {i j : Int} {a p : Addr} {k b : Bool} {xs ys : List V}
theorem w_slS {l : List Nat} {lo hi : Option Int} (hl : l.length ≤ 100000) (q : Q (.str (S (cut l lo hi))) H) : rSlS (.str (S l)) lo hi H Q := ⟨S l, rfl, by rw [S_len]; exact sz1000 hl, by rw [cutS_S]; exact q⟩
theorem w_slL {lo hi : Option Int} (h : SqL K H a xs) (q : ∀ p H', H p = none → Ex H H' → H' p = some (.lst (cutV xs lo hi)) → Q (.ref p) H') : rSlL K (.ref a) lo hi H Q := ⟨a, xs, rfl, h, fun p hp => q p _ hp (Evl.Ex.new hp) upd_same⟩
end
end Wk
namespace Wk
open PySem PySem.Spec L2

def Got (P : Prop) : Prop := P
theorem got {P : Prop} (h : P) : Got P := h
/-- all but the thing at l stays -/
def Ml (l : Addr) (H H' : Hp) : Prop := ∀ b o, b ≠ l → H b = some o → H' b = some o
theorem ml_get {H H' : Hp} {l a : Addr} {o : HO} (e : Ml l H H') (n : a ≠ l) (h : H a = some o) : H' a = some o := e a o n h
theorem ml_upd {H : Hp} {l : Addr} {o : HO} : Ml l H (upd H l o) := fun b u hb e => by rw [upd_ne hb]; exact e
theorem ml_refl {H : Hp} {l : Addr} : Ml l H H := fun b o _ e => e
theorem ml_ex {H H1 H2 : Hp} {l : Addr} (m : Ml l H H1) (e : Ex H1 H2) : Ml l H H2 := fun b o n h => e b o (m b o n h)
theorem ex_ml {H H1 H2 : Hp} {l : Addr} (e : Ex H H1) (m : Ml l H1 H2) : Ml l H H2 := fun b o n h => m b o n (e b o h)
theorem ml_tr {H H1 H2 : Hp} {l : Addr} (a : Ml l H H1) (b : Ml l H1 H2) : Ml l H H2 := fun x o n h => b x o n (a x o n h)
theorem ml_exR {H H1 H2 : Hp} {l : Addr} (e : Ex H1 H2) (m : Ml l H H1) : Ml l H H2 := ml_ex m e
theorem ml_trR {H H1 H2 : Hp} {l : Addr} (b : Ml l H1 H2) (a : Ml l H H1) : Ml l H H2 := ml_tr a b
/-- what changed was new -/
theorem ml_new {H H1 H2 : Hp} {l : Addr} (h : H l = none) (e : Ex H H1) (m : Ml l H1 H2) : Ex H H2 := fun b o hb => m b o (fun z => by rw [z, h] at hb; cases hb) (e b o hb)
theorem ex_ml0 {H H' : Hp} {l : Addr} (e : Ex H H') : Ml l H H' := fun b o _ h => e b o h
theorem ne_kind {H : Hp} {a l : Addr} {o u : HO} (h1 : H a = some o) (h2 : H l = some u) (n : o ≠ u) : a ≠ l := fun z => by rw [z, h2] at h1; exact n (Option.some.inj h1).symm
theorem ne_new {H : Hp} {a l : Addr} {o : HO} (h1 : H a = some o) (h2 : H l = none) : a ≠ l := fun z => by rw [z, h2] at h1; cases h1
theorem ne_new' {H : Hp} {a l : Addr} {o : HO} (h2 : H l = none) (h1 : H a = some o) : l ≠ a := fun z => by rw [z, h1] at h2; cases h2
def hoK : HO → Nat
  | .lst _ => 0
  | .tup _ => 1
  | .dK _ => 2
  | .dT _ => 3
  | .ins _ _ _ => 4
  | .own _ => 5
  | .frz _ _ => 6
  | _ => 7
theorem ml_getK {H H' : Hp} {l a : Addr} {o u : HO} (e : Ml l H H') (h : H a = some o) (hl : H l = some u) (n : (hoK o == hoK u) = false) : H' a = some o := e a o (ne_kind h hl (fun z => by rw [z] at n; simp at n)) h
theorem ml_getF {H H' H0 : Hp} {l a : Addr} {o u : HO} (e : Ml l H H') (h0 : H0 a = none) (h1 : H0 l = some u) (h : H a = some o) : H' a = some o := e a o (ne_new' h0 h1) h
theorem ml_getG {H H' H0 : Hp} {l a : Addr} {o u : HO} (e : Ml l H H') (h0 : H0 l = none) (h1 : H0 a = some u) (h : H a = some o) : H' a = some o := e a o (ne_new h1 h0) h
/-- the tuples and the instances stay -/
def ExT (H H' : Hp) : Prop := ∀ a xs, H a = some (.tup xs) → H' a = some (.tup xs)
theorem Ex.t {H H' : Hp} (e : Ex H H') : ExT H H' := fun a xs h => e a _ h
theorem ExT.refl (H : Hp) : ExT H H := fun _ _ h => h
theorem ExT.trans {H H1 H2 : Hp} (a : ExT H H1) (b : ExT H1 H2) : ExT H H2 := fun x xs h => b x xs (a x xs h)
theorem ml_t {H H' : Hp} {l : Addr} {u : HO} (m : Ml l H H') (h : H l = some u) (n : ∀ xs, u ≠ .tup xs) : ExT H H' := fun a xs ha => m a _ (ne_kind ha h (fun z => n xs z.symm)) ha
theorem ext_sq {K : PySem.W.Frag} {H H' : Hp} {a : Addr} {xs : List V} (e : ExT H H') (h : H a = some (.tup xs)) : SqT K H' a xs := .inl (.inl (e a xs h))

section
variable {K : PySem.W.Frag} {mg : Str → Option Value} {σ σ' : SlS} {H : Hp} {Q : VK} {QA : List V → Hp → Prop} {QB : Bool → Hp → Prop} {ta tb tc te tl to ti tv td ty : TE} {t u : TT} {x y v : V} {r : R2} {i j : Int} {a p l : Addr} {k b : Bool} {xs ys : List V} {D : Ends} {s1 s2 : TS} {g : TG} {gs : TGs} {QG : SlS → Hp → Prop}
/-! ### statements -/
theorem w_next (q : D.nx σ H) : tNext D σ H := q
theorem w_seq (q : s1 { D with nx := s2 D } σ H) : tSeq s1 s2 D σ H := q
theorem w_sq (q : tSeq s1 s2 D σ H) : tSeq s1 s2 D σ H := q
/-- what follows is shown once -/
theorem w_cut (M : SlS → Hp → Prop) (k : ∀ σ' H', M σ' H' → s2 D σ' H') (q : ∀ N : SlS → Hp → Prop, (∀ σ' H', M σ' H' → N σ' H') → s1 { D with nx := N } σ H) : tSeq s1 s2 D σ H := q (s2 D) k
theorem w_drop (q : te σ H fun _ H1 => D.nx σ H1) : tDrop te D σ H := q
theorem w_ret (q : te σ H D.rt) : tRet te D σ H := q
theorem w_retN (q : D.rt .non H) : tRetN D σ H := q
theorem w_cont (q : D.ct σ H) : tCont D σ H := q
theorem w_ifS (q : t σ H fun c H1 => IfB c (s1 D σ H1) (s2 D σ H1)) : tIfS t s1 s2 D σ H := q
theorem w_asg (q : te σ H fun x H1 => g x σ H1 D.nx) : tAsg te g D σ H := q
theorem set_0 {α : Type} {c d : α} {m : List α} : (c :: m).set 0 d = d :: m := rfl
theorem set_s {α : Type} {c d : α} {m m' : List α} {n : Nat} (h : m.set n d = m') : (c :: m).set (n + 1) d = c :: m' := by rw [← h]; rfl
theorem w_gname {n : Nat} (e : σ.set n (some v) = σ') (q : QG σ' H) : gName n v σ H QG := by rw [← e] at q; exact q
theorem w_gname0 {n : Nat} (q : QG (σ.set n (some v)) H) : gName n v σ H QG := q
theorem w_gnil (q : QG σ H) : gNil [] σ H QG := ⟨rfl, q⟩
theorem w_gcons (q : g v σ H fun σ' H' => gs xs σ' H' QG) : gCons g gs (v :: xs) σ H QG := ⟨v, xs, rfl, q⟩
theorem w_gtup {n : Nat} (h : SqT K H a xs) (e : xs.length = n) (q : gs xs σ H QG) : gTup K n gs (.ref a) σ H QG := ⟨a, xs, rfl, h, e, q⟩
def ParV (σ : SlS) (n m : Nat) (P : SlS → Hp → Prop) (H : Hp) (vs : List V) : Prop := ∃ v w, vs = [v, w] ∧ P ((σ.set n (some v)).set m (some w)) H
theorem w_parv {n m : Nat} {σ1 σ2 : SlS} {P : SlS → Hp → Prop} (e1 : σ.set n (some x) = σ1) (e2 : σ1.set m (some y) = σ2) (q : P σ2 H) : ParV σ n m P H [x, y] := ⟨x, y, rfl, by rw [e1, e2]; exact q⟩
theorem w_par {n m : Nat} {ts : TA} (q : ts σ H fun vs H1 => ParV σ n m D.nx H1 vs) : tPar n m ts D σ H := q
def ParW (σ : SlS) (n m o : Nat) (P : SlS → Hp → Prop) (H : Hp) (vs : List V) : Prop := ∃ u v w, vs = [u, v, w] ∧ P (((σ.set n (some u)).set m (some v)).set o (some w)) H
theorem w_parw {n m o : Nat} {z : V} {σ1 σ2 σ3 : SlS} {P : SlS → Hp → Prop} (e1 : σ.set n (some x) = σ1) (e2 : σ1.set m (some y) = σ2) (e3 : σ2.set o (some z) = σ3) (q : P σ3 H) : ParW σ n m o P H [x, y, z] := ⟨x, y, z, rfl, by rw [e1, e2, e3]; exact q⟩
theorem w_par3 {n m o : Nat} {ts : TA} (q : ts σ H fun vs H1 => ParW σ n m o D.nx H1 vs) : tPar3 n m o ts D σ H := q
theorem w_sub {s : TSet} (q : to σ H fun o H1 => ti σ H1 fun i H2 => s o i v H2 fun H3 => QG σ H3) : gSub to ti s v σ H QG := q
theorem w_setL {n : Nat} {P : Hp → Prop} (h : H l = some (.lst xs)) (hn : n < xs.length) (q : ∀ H', Ml l H H' → H' l = some (.lst (xs.set n v)) → P H') : rSetL (.ref l) (.int (n : Int)) v H P :=
  ⟨l, xs, n, n, rfl, rfl, h, by unfold ixN; rw [if_pos (by omega), if_pos (by omega)]; simp, q _ ml_upd upd_same⟩
theorem w_setD {P : Hp → Prop} {kvs : List (Key × V)} {ke : Key} (h : H l = some (.dK kvs)) (hn : kvs.length < 100000) (q : ∀ H', Ml l H H' → H' l = some (.dK (putK kvs ke v)) → P H') : rSetD (.ref l) (kV ke) v H P :=
  ⟨l, _, rfl, DPut.k h (lt1000 hn), q _ ml_upd upd_same⟩
/-- W: the invariant, with its measure -/
def WhB (W : Nat → SlS → Hp → Prop) (m : Nat) (tb : TS) (D : Ends) (σ : SlS) (b : Bool) (H1 : Hp) : Prop := if b = true then ∃ N : St → Hp → Prop, (∀ σ' H', N σ' H' → ∃ m', m' < m ∧ W m' σ' H') ∧ tb { D with nx := N, ct := N, bk := D.nx } σ H1 else D.nx σ H1
theorem w_while {tb : TS} (W : Nat → SlS → Hp → Prop) (m0 : Nat) (h0 : W m0 σ H) (hs : ∀ m σ H, W m σ H → t σ H fun b H1 => WhB W m tb D σ b H1) : tWhile t tb D σ H := ⟨W, ⟨m0, h0⟩, hs⟩
theorem whb_c {tb : TS} {W : Nat → SlS → Hp → Prop} {m : Nat} {c : Bool} (h1 : c = true → tb { D with nx := fun σ' H' => Got (∃ m', m' < m ∧ W m' σ' H'), ct := fun σ' H' => Got (∃ m', m' < m ∧ W m' σ' H'), bk := D.nx } σ H) (h2 : c = false → D.nx σ H) : WhB W m tb D σ c H := by
  cases c with
  | true => exact ⟨_, fun σ' H' h => h, h1 rfl⟩
  | false => exact h2 rfl
/-! ### fields -/
def FldV (K : PySem.W.Frag) (f : Str) (x : V) (H : Hp) (Q : VK) : Prop := ∃ a C dx fs v, x = .ref a ∧ H a = some (.ins C dx fs) ∧ Cls K C ∧ NoAttr K C f ∧ fs.lookup f = some v ∧ Q v H
theorem w_fld {f : Str} (q : te σ H fun x H1 => FldV K f x H1 Q) : tFld K te f σ H Q := q
theorem w_fldv {f : Str} {C dx : Addr} {fs : List (Str × V)} (h : H a = some (.ins C dx fs)) (hc : Cls K C ∧ NoAttr K C f) (hl : fs.lookup f = some v) (q : Q v H) : FldV K f (.ref a) H Q := ⟨a, C, dx, fs, v, rfl, h, hc.1, hc.2, hl, q⟩
def SfV (K : PySem.W.Frag) (f : Str) (y x : V) (H : Hp) (P : Hp → Prop) : Prop := ∃ a C dx fs, x = .ref a ∧ H a = some (.ins C dx fs) ∧ Cls K C ∧ NoAttr K C f ∧ fs.length < 1000 ∧ P (upd H a (.ins C dx (putF f y fs)))
theorem w_sfld {f : Str} (q : tv σ H fun y H1 => ta σ H1 fun x H2 => SfV K f y x H2 (D.nx σ)) : sFld K ta tv f D σ H := q
theorem w_gattr {f : Str} (q : to σ H fun x H1 => SfV K f v x H1 (QG σ)) : gAttr K to f v σ H QG := q
theorem w_sfv {f : Str} {P : Hp → Prop} {C dx : Addr} {fs fs' : List (Str × V)} (h : H a = some (.ins C dx fs)) (hc : Cls K C ∧ NoAttr K C f) (hl : fs.length < 1000) (hp : putF f y fs = fs') (q : ∀ H', Ml a H H' → H' a = some (.ins C dx fs') → P H') : SfV K f y (.ref a) H P :=
  ⟨a, C, dx, fs, rfl, h, hc.1, hc.2, hl, q _ ml_upd (by rw [hp]; exact upd_same)⟩
theorem putF_nil {f : Str} {v : V} : putF f v [] = [(f, v)] := rfl
theorem putF_same {f : Str} {v x : V} {r : List (Str × V)} : putF f v ((f, x) :: r) = (f, v) :: r := if_pos rfl
theorem putF_ne {f g : Str} {v x : V} {r r' : List (Str × V)} (h : g ≠ f) (e : putF f v r = r') : putF f v ((g, x) :: r) = (g, x) :: r' := by rw [← e]; exact if_neg h
/-! ### calls -/
theorem w_call {sp : Sp} {E : XK} {ts : TA} (q : ts σ H fun vs H1 => sp vs H1 Q E) : tCall sp [] E ts σ H Q := by
  refine Eq.mp ?_ q
  unfold tCall
  simp only [List.append_nil]
def MetV (C : Addr) (m : Str) (x : V) (H : Hp) (P : Prop) : Prop := ∃ a dx fs, x = .ref a ∧ H a = some (.ins C dx fs) ∧ fs.lookup m = none ∧ P
theorem w_meth {C : Addr} {m : Str} {sp : Sp} {E : XK} {ts : TA} (q : ta σ H fun x H1 => MetV C m x H1 (ts σ H1 fun vs H2 => sp (x :: vs) H2 Q E)) : tMeth C m sp [] E ta ts σ H Q := by
  refine Eq.mp ?_ q
  unfold tMeth MetV
  simp only [List.append_nil]
theorem w_metv {C dx : Addr} {m : Str} {fs : List (Str × V)} {P : Prop} (h : H a = some (.ins C dx fs)) (hl : fs.lookup m = none) (q : P) : MetV C m (.ref a) H P := ⟨a, dx, fs, rfl, h, hl, q⟩
/-- as it is wanted when the arguments have come -/
def MkV (C : Addr) (sp : Sp) (E : XK) (Q : VK) (vs : List V) (H1 : Hp) : Prop := ∀ x dx, H1 x = none → H1 dx = none → dx ≠ x → sp (.ref x :: (vs ++ [])) (upd (upd H1 dx (.own x)) x (.ins C dx [])) (fun v H2 => v = .non ∧ Q (.ref x) H2) E
theorem w_mk {C : Addr} {sp : Sp} {E : XK} {ts : TA} (q : ts σ H fun vs H1 => MkV C sp E Q vs H1) : tMake C sp [] E ts σ H Q := q
theorem w_mkv {C : Addr} {sp : Sp} {E : XK} {vs : List V} (q : ∀ x dx H2, H x = none → Ex H H2 → H2 x = some (.ins C dx []) → sp (.ref x :: vs) H2 (fun v H3 => v = .non ∧ Q (.ref x) H3) E) : MkV C sp E Q vs H := fun x dx hx hdx hne => by
  rw [List.append_nil]
  exact q x dx _ hx (ex_tr (Evl.Ex.new (by rw [upd_ne (fun z => hne z.symm)]; exact hx)) (Evl.Ex.new hdx)) upd_same
/-! ### methods of lists and texts -/
theorem w_ixLast (h : SqL K H p (xs ++ [v])) (q : Q v H) : rIxL K (.ref p) (.int (-1)) H Q := ⟨p, xs ++ [v], -1, v, rfl, rfl, h, by
  have e : ixN (xs ++ [v]).length (-1) = some xs.length := by
    unfold ixN
    rw [if_neg (by omega), if_pos (by simp; omega)]
    simp
    omega
  unfold atI
  rw [e]
  simp, q⟩
def TyL (K : PySem.W.Frag) (x : V) (H : Hp) (P : Prop) : Prop := tyV K "list" x H ∧ P
theorem w_tyl {P : Prop} (h : SqL K H p xs) (q : P) : TyL K (.ref p) H P := ⟨.inl ⟨rfl, xs, h⟩, q⟩
theorem w_bm {f : V → List V → Hp → VK → Prop} {ts : TA} (q : to σ H fun x H1 => TyL K x H1 (ts σ H1 fun xs H2 => f x xs H2 Q)) : tBM K "list" f to ts σ H Q := q
theorem w_bm0 {f : V → List V → Hp → VK → Prop} (q : to σ H fun x H1 => TyL K x H1 (f x [] H1 Q)) : tBM0 K "list" f to σ H Q := q
theorem w_append (h : H l = some (.lst xs)) (hn : xs.length < 100000) (q : ∀ H', Ml l H H' → H' l = some (.lst (xs ++ [y])) → Q .non H') : rAppend (.ref l) [y] H Q := ⟨l, xs, y, rfl, rfl, h, lt1000 hn, q _ ml_upd upd_same⟩
theorem w_extend (h : H l = some (.lst xs)) (h2 : H p = some (.lst ys)) (hn : xs.length + ys.length ≤ 100000) (q : ∀ H', Ml l H H' → H' l = some (.lst (xs ++ ys)) → Q .non H') : rExtend (.ref l) [.ref p] H Q := ⟨l, p, xs, ys, rfl, rfl, h, h2, sz1000 hn, q _ ml_upd upd_same⟩
theorem w_pop (h : H l = some (.lst (xs ++ [y]))) (q : ∀ H', Ml l H H' → H' l = some (.lst xs) → Q y H') : rPop (.ref l) [] H Q := ⟨l, xs ++ [y], y, rfl, rfl, h, by simp, q _ ml_upd (by simpa using upd_same)⟩
theorem w_popAt {n : Nat} (h : H l = some (.lst xs)) (hy : xs[n]? = some y) (hl : xs.length ≤ 100000) (q : ∀ H', Ml l H H' → H' l = some (.lst (xs.eraseIdx n)) → Q y H') : rPopAt (.ref l) [.int (n : Int)] H Q := by
  have hn := (List.getElem?_eq_some_iff.mp hy).1
  refine ⟨l, xs, n, n, y, rfl, rfl, h, by omega, by omega, ?_, hy, q _ ml_upd upd_same⟩
  unfold seqIndex?
  simp
  omega
/-! ### dicts -/
def DgV (x y : V) (H : Hp) (Q : VK) : Prop := ∃ a v, x = .ref a ∧ DGet H a y (some v) ∧ Q v H
def DiV (f : Bool → V) (x y : V) (H : Hp) (Q : VK) : Prop := ∃ a o, x = .ref a ∧ DGet H a y o ∧ Q (f o.isSome) H
def DpV (x y v : V) (H : Hp) (P : Hp → Prop) : Prop := ∃ a H4, x = .ref a ∧ DPut H a y v H4 ∧ P H4
theorem w_dget (q : td σ H fun x H1 => ty σ H1 fun y H2 => DgV x y H2 Q) : tDGet td ty σ H Q := q
theorem w_din (q : ty σ H fun y H1 => td σ H1 fun x H2 => DiV V.bl x y H2 Q) : tDIn ty td σ H Q := q
theorem w_dnotin (q : ty σ H fun y H1 => td σ H1 fun x H2 => DiV (fun b => V.bl (!b)) x y H2 Q) : tDNotIn ty td σ H Q := q
theorem w_dgetK {kvs : List (Key × V)} {ke : Key} (h : H a = some (.dK kvs)) (hv : valV kvs ke = some v) (q : Q v H) : DgV (.ref a) (kV ke) H Q := ⟨a, v, rfl, by rw [← hv]; exact DGet.k h, q⟩
theorem w_dgetT {kvs : List (List Key × V)} {ke : List Key} (h : H a = some (.dT kvs)) (hk : H p = some (.tup (ke.map kV))) (hv : valV kvs ke = some v) (q : Q v H) : DgV (.ref a) (.ref p) H Q := ⟨a, v, rfl, by rw [← hv]; exact DGet.t h hk, q⟩
theorem w_dinK {kvs : List (Key × V)} {ke : Key} {f : Bool → V} (h : H a = some (.dK kvs)) (q : Q (f (valV kvs ke).isSome) H) : DiV f (.ref a) (kV ke) H Q := ⟨a, _, rfl, DGet.k h, q⟩
theorem w_dinT {kvs : List (List Key × V)} {ke : List Key} {f : Bool → V} (h : H a = some (.dT kvs)) (hk : H p = some (.tup (ke.map kV))) (q : Q (f (valV kvs ke).isSome) H) : DiV f (.ref a) (.ref p) H Q := ⟨a, _, rfl, DGet.t h hk, q⟩
theorem w_dput (q : tv σ H fun v H1 => td σ H1 fun x H2 => ty σ H2 fun y H3 => DpV x y v H3 (D.nx σ)) : sDPut td ty tv D σ H := q
theorem w_dputK {kvs : List (Key × V)} {ke : Key} {P : Hp → Prop} (h : H a = some (.dK kvs)) (hn : kvs.length < 100000) (q : ∀ H', Ml a H H' → H' a = some (.dK (putK kvs ke v)) → P H') : DpV (.ref a) (kV ke) v H P := ⟨a, _, rfl, DPut.k h (lt1000 hn), q _ ml_upd upd_same⟩
theorem w_dputT {kvs : List (List Key × V)} {ke : List Key} {P : Hp → Prop} (h : H a = some (.dT kvs)) (hk : H p = some (.tup (ke.map kV))) (hn : kvs.length < 16000000) (q : ∀ H', Ml a H H' → H' a = some (.dT (putK kvs ke v)) → P H') : DpV (.ref a) (.ref p) v H P := ⟨a, _, rfl, DPut.t h hk (by have : (sizeLine : Nat) = 16777216 := sizeLine_eq; omega), q _ ml_upd upd_same⟩
def D2V (x : V) (H : Hp) (P : Addr → Prop) : Prop := ∃ a, x = .ref a ∧ IsD H a ∧ P a
def D2W (a : Addr) (y z : V) (H : Hp) (Q : VK) : Prop := ∃ o, DGet H a y o ∧ Q (o.getD z) H
theorem w_dget2 {tx : TE} (q : td σ H fun x H1 => D2V x H1 fun a => ty σ H1 fun y H2 => tx σ H2 fun z H3 => D2W a y z H3 Q) : tDGet2 td ty tx σ H Q := q
theorem w_d2v {kvs : List (Key × V)} {P : Addr → Prop} (h : H a = some (.dK kvs)) (q : P a) : D2V (.ref a) H P := ⟨a, rfl, .inl ⟨kvs, .inl h⟩, q⟩
theorem w_d2w {kvs : List (Key × V)} {ke : Key} {z : V} (h : H a = some (.dK kvs)) (q : Q ((valV kvs ke).getD z) H) : D2W a (kV ke) z H Q := ⟨_, DGet.k h, q⟩
/-! ### truth -/
def TrV (K : PySem.W.Frag) (x : V) (H : Hp) (QB : Bool → Hp → Prop) : Prop := ∃ k, TruV K x H k ∧ QB k H
theorem w_tru' (q : ta σ H fun x H1 => TrV K x H1 QB) : tTru K ta σ H QB := q
theorem w_truL (h : SqL K H p xs) (q : QB (!xs.isEmpty) H) : TrV K (.ref p) H QB := ⟨_, .inl ⟨xs, h, rfl⟩, q⟩
def StM (x : V) (P : Prop) : Prop := (∃ a, x = .str a) ∧ P
theorem w_m1 {f : V → List V → Hp → VK → Prop} (q : to σ H fun x H1 => StM x (te σ H1 fun y H2 => f x [y] H2 Q)) : tM1 f to te σ H Q := q
theorem w_stm {z : Str} {P : Prop} (q : P) : StM (.str z) P := ⟨⟨z, rfl⟩, q⟩
/-! ### what is walked -/
def ForV (J : It) (g : TG) (tb : TS) (D : Ends) (σ : SlS) (H : Hp) : Prop := ∃ W : Nat → Nat → St → Hp → Prop, (∃ m, W 0 m σ H) ∧ ∀ i m σ H, W i m σ H →
  (J.stop i H ∧ D.nx σ H) ∨ (J.go i H ∧ ∃ N : St → Hp → Prop, (∀ σ' H', N σ' H' → ∃ m', m' < m ∧ W (i + 1) m' σ' H') ∧ ∀ x H', J.yld i H x H' → g x σ H' fun σ2 H2 => tb { D with nx := N, ct := N, bk := D.nx } σ2 H2)
theorem w_for {wi : TI} (q : wi σ H fun J H1 => ForV J g s1 D σ H1) : tFor wi g s1 D σ H := q
def LcV (J : It) (g : TG) (tt : TT) (te : TE) (vs : List Nat) (σ : SlS) (H1 : Hp) (Q : VK) : Prop := ∀ D, H1 D = none → ∃ W : Nat → Nat → Hp → Prop, (∃ m, W 0 m (upd H1 D (.lst []))) ∧ ∀ i m H, W i m H →
  (J.stop i H ∧ Q (.ref D) H) ∨ (J.go i H ∧ ∃ Nx : Hp → Prop, (∀ H', Nx H' → ∃ m', m' < m ∧ W (i + 1) m' H') ∧ ∀ x H', J.yld i H x H' → g x (wipe σ vs) H' fun σ2 H2 => wipe σ2 vs = wipe σ vs ∧ tt σ2 H2 fun b H3 =>
    if b = true then te σ2 H3 fun y H4 => ∃ acc, H4 D = some (.lst acc) ∧ acc.length < sizeLine ∧ Nx (upd H4 D (.lst (acc ++ [y]))) else Nx H3)
theorem w_lc {wi : TI} {vs : List Nat} (q : wi σ H fun J H1 => LcV J g t te vs σ H1 Q) : tLc wi g t te vs σ H Q := q
theorem w_yes (q : QB true H) : tYes σ H QB := q
variable {R : It → Hp → Prop}
def LiV (K : PySem.W.Frag) (x : V) (H : Hp) (R : It → Hp → Prop) : Prop := ∃ a, x = .ref a ∧ (∃ xs, SqL K H a xs) ∧ R (Itl K a) H
theorem w_liv (h : SqL K H a xs) (q : R (Itl K a) H) : LiV K (.ref a) H R := ⟨a, rfl, ⟨xs, h⟩, q⟩
theorem w_iList (q : tl σ H fun x H1 => LiV K x H1 R) : iList K tl σ H R := q
def TiV (K : PySem.W.Frag) (x : V) (H : Hp) (R : It → Hp → Prop) : Prop := ∃ a, x = .ref a ∧ (∃ xs, SqT K H a xs) ∧ R (Itt K a) H
theorem w_tiv (h : SqT K H a xs) (q : R (Itt K a) H) : TiV K (.ref a) H R := ⟨a, rfl, ⟨xs, h⟩, q⟩
theorem w_iTup (q : tl σ H fun x H1 => TiV K x H1 R) : iTup K tl σ H R := q
def RgV1 (vs : List V) (H : Hp) (R : It → Hp → Prop) : Prop := ∃ j : Int, vs = [.int j] ∧ -(2 ^ 62) ≤ j ∧ j < 2 ^ 62 ∧ R (Itr 0 j.toNat) H
theorem w_rgv1 (h1 : -1000000 ≤ j) (h2 : j ≤ 1000000) (q : R (Itr 0 j.toNat) H) : RgV1 [.int j] H R := ⟨j, rfl, by omega, by omega, q⟩
theorem w_iRng1 {ts : TA} (q : ts σ H fun vs H1 => RgV1 vs H1 R) : iRng1 ts σ H R := q
def RgV2 (vs : List V) (H : Hp) (R : It → Hp → Prop) : Prop := ∃ i j : Int, vs = [.int i, .int j] ∧ (-(2 ^ 62) ≤ i ∧ i < 2 ^ 62 ∧ -(2 ^ 62) ≤ j ∧ j < 2 ^ 62) ∧ R (Itr i (j - i).toNat) H
theorem w_rgv2 (h1 : -1000000 ≤ i ∧ i ≤ 1000000) (h2 : -1000000 ≤ j ∧ j ≤ 1000000) (q : R (Itr i (j - i).toNat) H) : RgV2 [.int i, .int j] H R := ⟨i, j, rfl, by omega, q⟩
theorem w_iRng2 {ts : TA} (q : ts σ H fun vs H1 => RgV2 vs H1 R) : iRng2 ts σ H R := q
def StV (x : V) (H : Hp) (R : It → Hp → Prop) : Prop := ∃ z, x = .str z ∧ R (Its z) H
theorem w_stv {z : Str} (q : R (Its z) H) : StV (.str z) H R := ⟨z, rfl, q⟩
theorem w_iStr (q : te σ H fun x H1 => StV x H1 R) : iStr te σ H R := q
end
/-- the walk over the items of L, the heap as it was -/
abbrev Wl {α : Type} (J : It) (L : List α) (enc : α → V) (G : Hp → Prop) : Prop := L2.Walk J L.length G (fun i H x H' => H' = H ∧ ∃ a, L[i]? = some a ∧ x = enc a)
section
variable {K : PySem.W.Frag} {α : Type} {L : List α} {enc : α → V} {J : It} {G : Hp → Prop} {a : Addr}
theorem wl_list : Wl (Itl K a) L enc (fun H => SqL K H a (L.map enc)) := by
  have w := @walk_list K a (L.map enc)
  rw [List.length_map] at w
  refine w.mono (fun _ h => h) fun i H x H' _ _ y => ?_
  obtain ⟨e, hx⟩ := y
  rw [List.getElem?_map] at hx
  obtain ⟨c, hc, rfl⟩ := Option.map_eq_some_iff.mp hx
  exact ⟨e, c, hc, rfl⟩
theorem wl_tup : Wl (Itt K a) L enc (fun H => SqT K H a (L.map enc)) := by
  have w := @walk_tup K a (L.map enc)
  rw [List.length_map] at w
  refine w.mono (fun _ h => h) fun i H x H' _ _ y => ?_
  obtain ⟨e, hx⟩ := y
  rw [List.getElem?_map] at hx
  obtain ⟨c, hc, rfl⟩ := Option.map_eq_some_iff.mp hx
  exact ⟨e, c, hc, rfl⟩
theorem wl_id {xs : List V} : Wl (Itl K a) xs id (fun H => SqL K H a xs) := by
  have w := @wl_list K V xs id a
  simpa using w
theorem wl_idT {xs : List V} : Wl (Itt K a) xs id (fun H => SqT K H a xs) := by
  have w := @wl_tup K V xs id a
  simpa using w
theorem wl_rng {lo : Int} {n : Nat} : Wl (Itr lo n) (List.range n) (fun i => .int (lo + (i : Int))) (fun _ => True) := by
  have w := @walk_range lo n
  have e : (List.range n).length = n := List.length_range
  unfold Wl
  rw [e]
  refine w.mono (fun _ h => h) fun i H x H' hi _ y => ?_
  exact ⟨y.1, i, by rw [List.getElem?_range hi], y.2⟩
theorem wl_rng0 {n : Nat} : Wl (Itr 0 n) (List.range n) (fun i => .int (i : Int)) (fun _ => True) := by
  have w := @wl_rng 0 n
  simpa using w
theorem wl_str {l : List Nat} : Wl (Its (S l)) l (fun c => .str (S [c])) (fun _ => True) := by
  have w := @walk_str (S l)
  have e : (S l).cps.size = l.length := by simp
  rw [e] at w
  refine w.mono (fun _ h => h) fun i H x H' hi _ y => ?_
  obtain ⟨e1, c, hc, hx⟩ := y
  exact ⟨e1, c, by simpa using hc, hx⟩
theorem wl_keys {d : Addr} {o : Obj} {kvs : List (Key × V)} : Wl (Itk d o kvs) kvs (fun kv => kV kv.1) (fun H => H d = some (.frz o (.dK kvs))) := by
  refine (@walk_keys d o kvs).mono (fun _ h => h) fun i H x H' hi _ y => ?_
  obtain ⟨e1, k, v, hc, hx⟩ := y
  exact ⟨e1, (k, v), hc, hx⟩
/-- for over L -/
theorem forL (w : Wl J L enc G) {g : TG} {tb : TS} {D : Ends} {σ : SlS} {H : Hp} (P : Nat → SlS → Hp → Prop) (h0 : P 0 σ H) (hG : ∀ i σ H, i ≤ L.length → P i σ H → G H)
    (hs : ∀ i c σ H, L[i]? = some c → P i σ H → g (enc c) σ H fun σ2 H2 => tb { D with nx := fun σ H => Got (P (i + 1) σ H), ct := fun σ H => Got (P (i + 1) σ H), bk := D.nx } σ2 H2) (hd : ∀ σ H, P L.length σ H → D.nx σ H) : ForV J g tb D σ H :=
  for_it w P h0 hG (fun i x σ H H' _ p y => by
    obtain ⟨e, c, hc, hx⟩ := y
    subst e
    subst hx
    exact hs i c σ _ hc p) hd
theorem wipe_nil {σ : SlS} : wipe σ [] = σ := rfl
theorem wipe_cons {σ σ1 σ0 : SlS} {i : Nat} {vs : List Nat} (e : wipe σ vs = σ1) (h : σ1.set i none = σ0) : wipe σ (i :: vs) = σ0 := by
  rw [← h, ← e]
  rfl
/-- behind the target's store in a comprehension -/
def WpV (vs : List Nat) (σ0 σ2 : SlS) (P : Prop) : Prop := wipe σ2 vs = σ0 ∧ P
theorem w_wpv {vs : List Nat} {σ0 σ2 : SlS} {P : Prop} (h : wipe σ2 vs = σ0) (q : P) : WpV vs σ0 σ2 P := ⟨h, q⟩
/-- a comprehension over L, in general: R by the turn, what is there, and the heap -/
theorem lcG (w : Wl J L enc G) {g : TG} {tt : TT} {te : TE} {vs : List Nat} {σ σ0 : SlS} {H1 : Hp} {Q : VK} (hw : wipe σ vs = σ0) (hn : L.length ≤ 50000) (R : Nat → List V → Hp → Prop)
    (h0 : ∀ D, H1 D = none → R 0 [] (upd H1 D (.lst []))) (hR : ∀ D i acc H ys ys', H1 D = none → R i acc H → H D = some (.lst ys) → R i acc (upd H D (.lst ys'))) (hG : ∀ i acc H, R i acc H → G H)
    (hs : ∀ D i c acc H, H1 D = none → L[i]? = some c → R i acc H → H D = some (.lst acc) → ∀ (E : VK) (N : Hp → Prop), (∀ y H4, H4 D = some (.lst acc) → R (i + 1) (acc ++ [y]) H4 → E y H4) → (∀ H3, H3 D = some (.lst acc) → R (i + 1) acc H3 → N H3) →
      g (enc c) σ0 H fun σ2 H2 => WpV vs σ0 σ2 (tt σ2 H2 fun b H3 => IfB b (te σ2 H3 E) (N H3)))
    (hd : ∀ D acc H, H1 D = none → R L.length acc H → H D = some (.lst acc) → Q (.ref D) H) : LcV J g tt te vs σ H1 Q := by
  subst hw
  intro D hD
  refine lc_it w (fun i H => ∃ acc, acc.length ≤ i ∧ R i acc H ∧ H D = some (.lst acc)) ⟨[], Nat.le_refl 0, h0 D hD, upd_same⟩ (fun i H _ ⟨acc, _, r, _⟩ => hG i acc H r) (fun i x H H' hi ⟨acc, ha, r, hl⟩ y => ?_) (fun H ⟨acc, _, r, hl⟩ => hd D acc H hD r hl)
  obtain ⟨e, c, hc, hx⟩ := y
  subst e
  subst hx
  exact hs D i c acc _ hD hc r hl _ _ (fun y H4 e r4 => ⟨acc, e, lt1000 (by omega), acc ++ [y], by simp; omega, hR D _ _ _ _ _ hD r4 e, upd_same⟩) (fun H3 e r3 => ⟨acc, by omega, r3, e⟩)
/-- a comprehension whose items are told by the source's items -/
theorem lcP (w : Wl J L enc G) {g : TG} {tt : TT} {te : TE} {vs : List Nat} {σ σ0 : SlS} {H1 : Hp} {Q : VK} (hw : wipe σ vs = σ0) (hn : L.length ≤ 50000) (p : α → Bool) (F : α → V) (hG : ∀ H, Ex H1 H → G H)
    (hs : ∀ c H, c ∈ L → Ex H1 H → ∀ (E : VK) (N : Hp → Prop), (∀ y H4, p c = true → y = F c → Ex H H4 → E y H4) → (∀ H3, p c = false → Ex H H3 → N H3) →
      g (enc c) σ0 H fun σ2 H2 => WpV vs σ0 σ2 (tt σ2 H2 fun b H3 => IfB b (te σ2 H3 E) (N H3)))
    (hd : ∀ D H, H1 D = none → Ex H1 H → H D = some (.lst ((L.filter p).map F)) → Q (.ref D) H) : LcV J g tt te vs σ H1 Q := by
  refine lcG w hw hn (fun i acc H => Ex H1 H ∧ acc = ((L.take i).filter p).map F) (fun D hD => ⟨Evl.Ex.new hD, by simp⟩) (fun D i acc H ys ys' hD ⟨e, ha⟩ hl => ⟨Evl.Ex.mut e hD, ha⟩) (fun i acc H ⟨e, _⟩ => hG H e) ?_ ?_
  · intro D i c acc H hD hc ⟨e, ha⟩ hl E N hE hN
    have tk : L.take (i + 1) = L.take i ++ [c] := by rw [List.take_succ, hc]; rfl
    refine hs c H (List.mem_of_getElem? hc) e E N (fun y H4 h1 h2 h3 => hE y H4 (h3 _ _ hl) ⟨ex_tr h3 e, ?_⟩) (fun H3 h1 h3 => hN H3 (h3 _ _ hl) ⟨ex_tr h3 e, ?_⟩)
    · rw [tk, List.filter_append, List.map_append, ← ha, h2]
      simp [h1]
    · rw [tk, List.filter_append, List.map_append, ← ha]
      simp [h1]
  · intro D acc H hD ⟨e, ha⟩ hl
    rw [List.take_length] at ha
    rw [ha] at hl
    exact hd D H hD e hl
/-- every item by a relation that grows with the tuples -/
theorem lcR (w : Wl J L enc G) {g : TG} {tt : TT} {te : TE} {vs : List Nat} {σ σ0 : SlS} {H1 : Hp} {Q : VK} (hw : wipe σ vs = σ0) (hn : L.length ≤ 50000) (Rel : α → V → Hp → Prop) (hT : ∀ c y H H', ExT H H' → Rel c y H → Rel c y H') (hG : ∀ H, Ex H1 H → G H)
    (hs : ∀ c H, c ∈ L → Ex H1 H → ∀ (E : VK) (N : Hp → Prop), (∀ y H4, Rel c y H4 → Ex H H4 → E y H4) →
      g (enc c) σ0 H fun σ2 H2 => WpV vs σ0 σ2 (tt σ2 H2 fun b H3 => IfB b (te σ2 H3 E) (N H3)))
    (hd : ∀ D ys H, H1 D = none → Ex H1 H → ys.length = L.length → (∀ (i : Nat) c y, L[i]? = some c → ys[i]? = some y → Rel c y H) → H D = some (.lst ys) → Q (.ref D) H) : LcV J g tt te vs σ H1 Q := by
  refine lcG w hw hn (fun i acc H => Ex H1 H ∧ i ≤ L.length ∧ acc.length = i ∧ ∀ (j : Nat) c y, L[j]? = some c → acc[j]? = some y → Rel c y H) (fun D hD => ⟨Evl.Ex.new hD, Nat.zero_le _, rfl, fun j c y _ h => by simp at h⟩) (fun D i acc H ys ys' hD ⟨e, h1, h2, ha⟩ hl => ⟨Evl.Ex.mut e hD, h1, h2, fun j c y x1 x2 => hT c y _ _ (ml_t ml_upd hl (fun _ z => nomatch z)) (ha j c y x1 x2)⟩) (fun i acc H ⟨e, _⟩ => hG H e) ?_ ?_
  · intro D i c acc H hD hc ⟨e, h1, h2, ha⟩ hl E N hE hN
    refine hs c H (List.mem_of_getElem? hc) e E N (fun y H4 h3 h4 => hE y H4 (h4 _ _ hl) ⟨ex_tr h4 e, (List.getElem?_eq_some_iff.mp hc).1, by simp [h2], fun j c' y' x1 x2 => ?_⟩)
    by_cases hj : j < acc.length
    · rw [List.getElem?_append_left hj] at x2
      exact hT _ _ _ _ (Ex.t h4) (ha j c' y' x1 x2)
    · have hj2 := (List.getElem?_eq_some_iff.mp x2).1
      have e1 : j = i := by simp at hj2; omega
      subst e1
      rw [hc] at x1
      cases x1
      rw [List.getElem?_append_right (by omega), h2] at x2
      simp at x2
      subst x2
      exact h3
  · intro D acc H hD ⟨e, h1, h2, ha⟩ hl
    exact hd D acc H hD e h2 ha hl
end
/-! ### a comprehension of two clauses -/
def InV (J1 : It) (g1 : TG) (tt1 : TT) (te : TE) (vs1 : List Nat) (D : Addr) (Nx : Hp → Prop) (σ2 : SlS) (H4 : Hp) : Prop := ∃ W1 : Nat → Nat → Hp → Prop, (∃ m, W1 0 m H4) ∧ ∀ j k H, W1 j k H →
      (J1.stop j H ∧ Nx H) ∨ (J1.go j H ∧ ∃ Nx1 : Hp → Prop, (∀ H', Nx1 H' → ∃ k', k' < k ∧ W1 (j + 1) k' H') ∧ ∀ x H', J1.yld j H x H' → g1 x (wipe σ2 vs1) H' fun σ3 H5 => wipe σ3 vs1 = wipe σ2 vs1 ∧ tt1 σ3 H5 fun b H6 =>
        if b = true then te σ3 H6 fun y H7 => ∃ acc, H7 D = some (.lst acc) ∧ acc.length < sizeLine ∧ Nx1 (upd H7 D (.lst (acc ++ [y]))) else Nx1 H6)
def Lc2V (J : It) (g : TG) (tt : TT) (wi1 : TI) (g1 : TG) (tt1 : TT) (te : TE) (vs vs1 : List Nat) (σ : SlS) (H1 : Hp) (Q : VK) : Prop := ∀ D, H1 D = none → ∃ W : Nat → Nat → Hp → Prop, (∃ m, W 0 m (upd H1 D (.lst []))) ∧ ∀ i m H, W i m H →
  (J.stop i H ∧ Q (.ref D) H) ∨ (J.go i H ∧ ∃ Nx : Hp → Prop, (∀ H', Nx H' → ∃ m', m' < m ∧ W (i + 1) m' H') ∧ ∀ x H', J.yld i H x H' → g x (wipe σ vs) H' fun σ2 H2 => wipe σ2 vs = wipe σ vs ∧ tt σ2 H2 fun b H3 =>
    if b = true then wi1 σ2 H3 fun J1 H4 => InV J1 g1 tt1 te vs1 D Nx σ2 H4 else Nx H3)
theorem w_lc2 {wi wi1 : TI} {g g1 : TG} {tt tt1 : TT} {te : TE} {vs vs1 : List Nat} {σ : SlS} {H : Hp} {Q : VK} (q : wi σ H fun J H1 => Lc2V J g tt wi1 g1 tt1 te vs vs1 σ H1 Q) : tLc2 wi g tt wi1 g1 tt1 te vs vs1 σ H Q := q
theorem lc2R {α β γ : Type} {L : List α} {enc : α → V} {J : It} {G : Hp → Prop} (w : Wl J L enc G) {g g1 : TG} {wi1 : TI} {te : TE} {vs vs1 : List Nat} {σ σ0 : SlS} {H1 : Hp} {Q : VK} (hw : wipe σ vs = σ0) (M : α → List β) (enc1 : β → V) (f : α → β → γ) (hn : (L.flatMap fun c => (M c).map (f c)).length ≤ 50000)
    (Rel : γ → V → Hp → Prop) (hT : ∀ x y H H', ExT H H' → Rel x y H → Rel x y H') (hG : ∀ H, Ex H1 H → G H)
    (hs : ∀ c H, c ∈ L → Ex H1 H → ∀ (R : It → SlS → Hp → Prop), (∀ J1 σ2 σ1 H4 G1, Ex H H4 → Wl J1 (M c) enc1 G1 → (∀ H5, Ex H1 H5 → G1 H5) → wipe σ2 vs1 = σ1 → (∀ b H5, b ∈ M c → Ex H1 H5 → ∀ E : VK, (∀ y H7, Rel (f c b) y H7 → Ex H5 H7 → E y H7) → g1 (enc1 b) σ1 H5 fun σ3 H6 => WpV vs1 σ1 σ3 (te σ3 H6 E)) → R J1 σ2 H4) →
      g (enc c) σ0 H fun σ2 H2 => WpV vs σ0 σ2 (wi1 σ2 H2 fun J1 H4 => R J1 σ2 H4))
    (hd : ∀ D ys H, H1 D = none → Ex H1 H → ys.length = (L.flatMap fun c => (M c).map (f c)).length → (∀ (i : Nat) x y, (L.flatMap fun c => (M c).map (f c))[i]? = some x → ys[i]? = some y → Rel x y H) → H D = some (.lst ys) → Q (.ref D) H) :
    Lc2V J g tYes wi1 g1 tYes te vs vs1 σ H1 Q := by
  subst hw
  intro D hD
  let F : List α → List γ := fun L => L.flatMap fun c => (M c).map (f c)
  let St : List γ → Hp → Prop := fun xs H => Ex H1 H ∧ ∃ acc, H D = some (.lst acc) ∧ acc.length = xs.length ∧ ∀ (k : Nat) x y, xs[k]? = some x → acc[k]? = some y → Rel x y H
  have push : ∀ xs x y H acc, Ex H1 H → H D = some (.lst acc) → acc.length = xs.length → (∀ (k : Nat) x y, xs[k]? = some x → acc[k]? = some y → Rel x y H) → Rel x y H → St (xs ++ [x]) (upd H D (.lst (acc ++ [y]))) := by
    intro xs x y H acc e1 e2 e3 e4 e5
    have u : ExT H (upd H D (.lst (acc ++ [y]))) := ml_t ml_upd e2 (fun _ z => nomatch z)
    refine ⟨Evl.Ex.mut e1 hD, acc ++ [y], upd_same, by simp [e3], fun k x' y' g1 g2 => ?_⟩
    by_cases hk : k < acc.length
    · rw [List.getElem?_append_left (by omega)] at g1
      rw [List.getElem?_append_left hk] at g2
      exact hT _ _ _ _ u (e4 k x' y' g1 g2)
    · have hz := (List.getElem?_eq_some_iff.mp g2).1
      simp at hz
      rw [List.getElem?_append_right (by omega)] at g1
      rw [List.getElem?_append_right (by omega)] at g2
      rw [show k - xs.length = 0 by omega] at g1
      rw [show k - acc.length = 0 by omega] at g2
      simp at g1 g2
      subst g1
      subst g2
      exact hT _ _ _ _ u e5
  have up : ∀ xs H H', Ex H H' → St xs H → St xs H' := fun xs H H' e ⟨a, acc, b, c, d⟩ => ⟨ex_tr e a, acc, e _ _ b, c, fun k x y g1 g2 => hT _ _ _ _ (Ex.t e) (d k x y g1 g2)⟩
  refine ⟨fun i m H => m = L.length - i ∧ i ≤ L.length ∧ St (F (L.take i)) H, ⟨L.length, by simp, Nat.zero_le _, Evl.Ex.new hD, [], upd_same, by simp [F], fun k x y h => by simp [F] at h⟩, ?_⟩
  rintro i m H ⟨rfl, hi, hS⟩
  by_cases hlt : i < L.length
  · refine .inr ⟨w.goes i H hlt (hG H hS.1), St (F (L.take (i + 1))), fun H' h => ⟨L.length - (i + 1), by omega, rfl, hlt, h⟩, fun x H' y => ?_⟩
    obtain ⟨e, c, hc, hx⟩ := w.yields i H x H' hlt (hG H hS.1) y
    subst e
    subst hx
    have tk : F (L.take (i + 1)) = F (L.take i) ++ (M c).map (f c) := by
      have : L.take (i + 1) = L.take i ++ [c] := by rw [List.take_succ, hc]; rfl
      simp only [F, this, List.flatMap_append]
      simp
    have hlen : (F (L.take (i + 1))).length ≤ 50000 := by
      have : F L = F (L.take (i + 1)) ++ F (L.drop (i + 1)) := by simp only [F]; rw [← List.flatMap_append, List.take_append_drop]
      have h2 : (F L).length = (F (L.take (i + 1))).length + (F (L.drop (i + 1))).length := by rw [this, List.length_append]
      have h3 : (F L).length ≤ 50000 := hn
      omega
    refine hs c _ (List.mem_of_getElem? hc) hS.1 (fun J1 σ2 H4 => InV J1 g1 tYes te vs1 D (St (F (L.take (i + 1)))) σ2 H4) ?_
    intro J1 σ2 σ1 H4 G1 e4 w1 hG1 hw1 hel
    subst hw1
    refine ⟨fun j k H => k = (M c).length - j ∧ j ≤ (M c).length ∧ St (F (L.take i) ++ ((M c).take j).map (f c)) H, ⟨(M c).length, by simp, Nat.zero_le _, by simpa using up _ _ _ e4 hS⟩, ?_⟩
    rintro j k H5 ⟨rfl, hj, hS5⟩
    by_cases hlj : j < (M c).length
    · refine .inr ⟨w1.goes j H5 hlj (hG1 H5 hS5.1), fun H => St (F (L.take i) ++ ((M c).take (j + 1)).map (f c)) H, fun H6 h => ⟨(M c).length - (j + 1), by omega, rfl, hlj, h⟩, fun x1 H6 y1 => ?_⟩
      obtain ⟨e, b, hb, hx1⟩ := w1.yields j H5 x1 H6 hlj (hG1 H5 hS5.1) y1
      subst e
      subst hx1
      have tj : (M c).take (j + 1) = (M c).take j ++ [b] := by rw [List.take_succ, hb]; rfl
      refine hel b _ (List.mem_of_getElem? hb) hS5.1 _ fun y H7 hr e7 => ?_
      obtain ⟨a1, acc, a2, a3, a4⟩ := up _ _ _ e7 hS5
      have hl2 : acc.length ≤ 50000 := by
        rw [a3, List.length_append, List.length_map, List.length_take]
        rw [tk, List.length_append, List.length_map] at hlen
        omega
      refine ⟨acc, a2, lt1000 (by omega), ?_⟩
      rw [tj, List.map_append, ← List.append_assoc]
      exact push _ _ _ _ _ a1 a2 a3 a4 hr
    · have ej : j = (M c).length := by omega
      subst ej
      refine .inl ⟨w1.stops H5 (hG1 H5 hS5.1), ?_⟩
      rw [tk]
      simpa using hS5
  · have ei : i = L.length := by omega
    subst ei
    obtain ⟨a, acc, b, c, d⟩ := hS
    rw [List.take_length] at c d
    exact .inl ⟨w.stops H (hG H a), hd D acc H hD a c d b⟩
theorem fld_WindowTurn_reads {K : PySem.W.Frag} {mg : Str → Option Value} (T : Tx K mg) : Cls K (cWindowTurn K) ∧ NoAttr K (cWindowTurn K) "reads" := ⟨T.c_WindowTurn, T.n_WindowTurn_reads⟩
theorem fld_WindowTurn_numbers {K : PySem.W.Frag} {mg : Str → Option Value} (T : Tx K mg) : Cls K (cWindowTurn K) ∧ NoAttr K (cWindowTurn K) "numbers" := ⟨T.c_WindowTurn, T.n_WindowTurn_numbers⟩
theorem fld_WindowTurn_slide {K : PySem.W.Frag} {mg : Str → Option Value} (T : Tx K mg) : Cls K (cWindowTurn K) ∧ NoAttr K (cWindowTurn K) "slide" := ⟨T.c_WindowTurn, T.n_WindowTurn_slide⟩
theorem fld_WindowTurn_state {K : PySem.W.Frag} {mg : Str → Option Value} (T : Tx K mg) : Cls K (cWindowTurn K) ∧ NoAttr K (cWindowTurn K) "state" := ⟨T.c_WindowTurn, T.n_WindowTurn_state⟩
theorem fld_Trace_windows {K : PySem.W.Frag} {mg : Str → Option Value} (T : Tx K mg) : Cls K (cTrace K) ∧ NoAttr K (cTrace K) "windows" := ⟨T.c_Trace, T.n_Trace_windows⟩
theorem fld_Trace_told {K : PySem.W.Frag} {mg : Str → Option Value} (T : Tx K mg) : Cls K (cTrace K) ∧ NoAttr K (cTrace K) "told" := ⟨T.c_Trace, T.n_Trace_told⟩
theorem fld_Trace_cost {K : PySem.W.Frag} {mg : Str → Option Value} (T : Tx K mg) : Cls K (cTrace K) ∧ NoAttr K (cTrace K) "cost" := ⟨T.c_Trace, T.n_Trace_cost⟩
theorem fld_Node_letters {K : PySem.W.Frag} {mg : Str → Option Value} (T : Tx K mg) : Cls K (cNode K) ∧ NoAttr K (cNode K) "letters" := ⟨T.c_Node, T.n_Node_letters⟩
theorem fld_Node_left {K : PySem.W.Frag} {mg : Str → Option Value} (T : Tx K mg) : Cls K (cNode K) ∧ NoAttr K (cNode K) "left" := ⟨T.c_Node, T.n_Node_left⟩
theorem fld_Node_right {K : PySem.W.Frag} {mg : Str → Option Value} (T : Tx K mg) : Cls K (cNode K) ∧ NoAttr K (cNode K) "right" := ⟨T.c_Node, T.n_Node_right⟩
theorem fld_Node_size {K : PySem.W.Frag} {mg : Str → Option Value} (T : Tx K mg) : Cls K (cNode K) ∧ NoAttr K (cNode K) "size" := ⟨T.c_Node, T.n_Node_size⟩
theorem fld_Node_ends {K : PySem.W.Frag} {mg : Str → Option Value} (T : Tx K mg) : Cls K (cNode K) ∧ NoAttr K (cNode K) "ends" := ⟨T.c_Node, T.n_Node_ends⟩
theorem fld_Nodes_most {K : PySem.W.Frag} {mg : Str → Option Value} (T : Tx K mg) : Cls K (cNodes K) ∧ NoAttr K (cNodes K) "most" := ⟨T.c_Nodes, T.n_Nodes_most⟩
theorem fld_Nodes_rows {K : PySem.W.Frag} {mg : Str → Option Value} (T : Tx K mg) : Cls K (cNodes K) ∧ NoAttr K (cNodes K) "rows" := ⟨T.c_Nodes, T.n_Nodes_rows⟩
theorem fld_Weave_letters {K : PySem.W.Frag} {mg : Str → Option Value} (T : Tx K mg) : Cls K (cWeave K) ∧ NoAttr K (cWeave K) "letters" := ⟨T.c_Weave, T.n_Weave_letters⟩
theorem fld_Weave_own_nodes {K : PySem.W.Frag} {mg : Str → Option Value} (T : Tx K mg) : Cls K (cWeave K) ∧ NoAttr K (cWeave K) "own_nodes" := ⟨T.c_Weave, T.n_Weave_own_nodes⟩
theorem fld_Weave_own_root {K : PySem.W.Frag} {mg : Str → Option Value} (T : Tx K mg) : Cls K (cWeave K) ∧ NoAttr K (cWeave K) "own_root" := ⟨T.c_Weave, T.n_Weave_own_root⟩
theorem fld_Weave_size {K : PySem.W.Frag} {mg : Str → Option Value} (T : Tx K mg) : Cls K (cWeave K) ∧ NoAttr K (cWeave K) "size" := ⟨T.c_Weave, T.n_Weave_size⟩
theorem fld_Sums_cost {K : PySem.W.Frag} {mg : Str → Option Value} (T : Tx K mg) : Cls K (cSums K) ∧ NoAttr K (cSums K) "cost" := ⟨T.c_Sums, T.n_Sums_cost⟩
theorem fld_Sums_windows {K : PySem.W.Frag} {mg : Str → Option Value} (T : Tx K mg) : Cls K (cSums K) ∧ NoAttr K (cSums K) "windows" := ⟨T.c_Sums, T.n_Sums_windows⟩
theorem fld_Sums_told {K : PySem.W.Frag} {mg : Str → Option Value} (T : Tx K mg) : Cls K (cSums K) ∧ NoAttr K (cSums K) "told" := ⟨T.c_Sums, T.n_Sums_told⟩
theorem fld_Walk_searcher {K : PySem.W.Frag} {mg : Str → Option Value} (T : Tx K mg) : Cls K (cWalk K) ∧ NoAttr K (cWalk K) "searcher" := ⟨T.c_Walk, T.n_Walk_searcher⟩
theorem fld_Walk_rows {K : PySem.W.Frag} {mg : Str → Option Value} (T : Tx K mg) : Cls K (cWalk K) ∧ NoAttr K (cWalk K) "rows" := ⟨T.c_Walk, T.n_Walk_rows⟩
theorem fld_Walk_known {K : PySem.W.Frag} {mg : Str → Option Value} (T : Tx K mg) : Cls K (cWalk K) ∧ NoAttr K (cWalk K) "known" := ⟨T.c_Walk, T.n_Walk_known⟩
theorem fld_Walk_seams {K : PySem.W.Frag} {mg : Str → Option Value} (T : Tx K mg) : Cls K (cWalk K) ∧ NoAttr K (cWalk K) "seams" := ⟨T.c_Walk, T.n_Walk_seams⟩
theorem fld_Far_cost {K : PySem.W.Frag} {mg : Str → Option Value} (T : Tx K mg) : Cls K (cFar K) ∧ NoAttr K (cFar K) "cost" := ⟨T.c_Far, T.n_Far_cost⟩
theorem fld_Far_windows {K : PySem.W.Frag} {mg : Str → Option Value} (T : Tx K mg) : Cls K (cFar K) ∧ NoAttr K (cFar K) "windows" := ⟨T.c_Far, T.n_Far_windows⟩
theorem fld_Far_told {K : PySem.W.Frag} {mg : Str → Option Value} (T : Tx K mg) : Cls K (cFar K) ∧ NoAttr K (cFar K) "told" := ⟨T.c_Far, T.n_Far_told⟩
theorem fld_Far_own_walk {K : PySem.W.Frag} {mg : Str → Option Value} (T : Tx K mg) : Cls K (cFar K) ∧ NoAttr K (cFar K) "own_walk" := ⟨T.c_Far, T.n_Far_own_walk⟩
theorem fld_Far_own_root {K : PySem.W.Frag} {mg : Str → Option Value} (T : Tx K mg) : Cls K (cFar K) ∧ NoAttr K (cFar K) "own_root" := ⟨T.c_Far, T.n_Far_own_root⟩
theorem fld_Far_own_last {K : PySem.W.Frag} {mg : Str → Option Value} (T : Tx K mg) : Cls K (cFar K) ∧ NoAttr K (cFar K) "own_last" := ⟨T.c_Far, T.n_Far_own_last⟩
theorem fld_Searcher_letters {K : PySem.W.Frag} {mg : Str → Option Value} (T : Tx K mg) : Cls K (cSearcher K) ∧ NoAttr K (cSearcher K) "letters" := ⟨T.c_Searcher, T.n_Searcher_letters⟩
theorem fld_Searcher_width {K : PySem.W.Frag} {mg : Str → Option Value} (T : Tx K mg) : Cls K (cSearcher K) ∧ NoAttr K (cSearcher K) "width" := ⟨T.c_Searcher, T.n_Searcher_width⟩
theorem fld_Searcher_states {K : PySem.W.Frag} {mg : Str → Option Value} (T : Tx K mg) : Cls K (cSearcher K) ∧ NoAttr K (cSearcher K) "states" := ⟨T.c_Searcher, T.n_Searcher_states⟩
theorem fld_Searcher_nodes {K : PySem.W.Frag} {mg : Str → Option Value} (T : Tx K mg) : Cls K (cSearcher K) ∧ NoAttr K (cSearcher K) "nodes" := ⟨T.c_Searcher, T.n_Searcher_nodes⟩
end Wk
namespace Wk
open PySem PySem.Spec L2
local macro_rules | `(tactic| walk_at "hp") => `(tactic| first
  | with_reducible assumption
  | ((with_reducible apply ex_get); (· with_reducible assumption); walk_at "hp")
  | ((with_reducible apply ml_get); (· with_reducible assumption); (· first | with_reducible assumption | ((with_reducible apply Ne.symm); with_reducible assumption)); walk_at "hp")
  | ((with_reducible apply ml_getK); (· with_reducible assumption); (· walk_at "hp"); (· walk_at "hp"); (· rfl))
  | ((with_reducible apply ml_getF); (· with_reducible assumption); (· with_reducible assumption); (· walk_at "hp"); (· walk_at "hp"))
  | ((with_reducible apply ml_getG); (· with_reducible assumption); (· with_reducible assumption); (· walk_at "hp"); (· walk_at "hp"))
  | fail "hp")
local macro_rules | `(tactic| walk_at "sq") => `(tactic| first
  | with_reducible assumption
  | ((with_reducible apply Evl.st_of); walk_at "hp")
  | ((with_reducible apply Evl.sq_of); walk_at "hp")
  | ((with_reducible apply ex_t); (· with_reducible assumption); walk_at "sq")
  | ((with_reducible apply ex_l); (· with_reducible assumption); walk_at "sq")
  | fail "sq")
local macro_rules | `(tactic| walk_at "ex") => `(tactic| first
  | with_reducible assumption
  | exact Evl.Ex.refl _
  | ((with_reducible apply ex_tr); (· with_reducible assumption); walk_at "ex")
  | fail "ex")
local macro_rules | `(tactic| walk_at "ml") => `(tactic| first
  | with_reducible assumption
  | exact ml_refl
  | ((with_reducible apply ml_exR); (· with_reducible assumption); walk_at "ml")
  | ((with_reducible apply ml_trR); (· with_reducible assumption); walk_at "ml")
  | fail "ml")
local macro_rules | `(tactic| walk_at "fo") => `(tactic| with_reducible (first | exact fld_WindowTurn_reads (by assumption) | exact fld_WindowTurn_numbers (by assumption) | exact fld_WindowTurn_slide (by assumption) | exact fld_WindowTurn_state (by assumption) | exact fld_Trace_windows (by assumption) | exact fld_Trace_told (by assumption) | exact fld_Trace_cost (by assumption) | exact fld_Node_letters (by assumption) | exact fld_Node_left (by assumption) | exact fld_Node_right (by assumption) | exact fld_Node_size (by assumption) | exact fld_Node_ends (by assumption) | exact fld_Nodes_most (by assumption) | exact fld_Nodes_rows (by assumption) | exact fld_Weave_letters (by assumption) | exact fld_Weave_own_nodes (by assumption) | exact fld_Weave_own_root (by assumption) | exact fld_Weave_size (by assumption) | exact fld_Sums_cost (by assumption) | exact fld_Sums_windows (by assumption) | exact fld_Sums_told (by assumption) | exact fld_Walk_searcher (by assumption) | exact fld_Walk_rows (by assumption) | exact fld_Walk_known (by assumption) | exact fld_Walk_seams (by assumption) | exact fld_Far_cost (by assumption) | exact fld_Far_windows (by assumption) | exact fld_Far_told (by assumption) | exact fld_Far_own_walk (by assumption) | exact fld_Far_own_root (by assumption) | exact fld_Far_own_last (by assumption) | exact fld_Searcher_letters (by assumption) | exact fld_Searcher_width (by assumption) | exact fld_Searcher_states (by assumption) | exact fld_Searcher_nodes (by assumption)))
local macro_rules | `(tactic| walk_at "tC") => `(tactic| with_reducible refine w_c ?_)
local macro_rules | `(tactic| walk_at "tOp") => `(tactic| with_reducible refine w_op ?_)
local macro_rules | `(tactic| walk_at "tUn") => `(tactic| with_reducible refine w_un ?_)
local macro_rules | `(tactic| walk_at "tNil") => `(tactic| with_reducible refine w_nil ?_)
local macro_rules | `(tactic| walk_at "tCons") => `(tactic| with_reducible refine w_cons ?_)
local macro_rules | `(tactic| walk_at "tTest") => `(tactic| with_reducible refine w_test ?_)
local macro_rules | `(tactic| walk_at "tB") => `(tactic| with_reducible refine w_tB ?_)
local macro_rules | `(tactic| walk_at "tNot") => `(tactic| with_reducible refine w_not ?_)
local macro_rules | `(tactic| walk_at "tAnd") => `(tactic| with_reducible refine w_and ?_)
local macro_rules | `(tactic| walk_at "tOr") => `(tactic| with_reducible refine w_or ?_)
local macro_rules | `(tactic| walk_at "tIf") => `(tactic| with_reducible refine w_if ?_)
local macro_rules | `(tactic| walk_at "tAndV") => `(tactic| with_reducible refine w_andV ?_)
local macro_rules | `(tactic| walk_at "tOrV") => `(tactic| with_reducible refine w_orV ?_)
local macro_rules | `(tactic| walk_at "tNotV") => `(tactic| with_reducible refine w_notV ?_)
local macro_rules | `(tactic| walk_at "tIsN") => `(tactic| with_reducible refine w_isN ?_)
local macro_rules | `(tactic| walk_at "tNotN") => `(tactic| with_reducible refine w_notN ?_)
local macro_rules | `(tactic| walk_at "tChain") => `(tactic| with_reducible refine w_chain ?_)
local macro_rules | `(tactic| walk_at "tTru") => `(tactic| with_reducible refine w_tru' ?_)
local macro_rules | `(tactic| walk_at "BlV") => `(tactic| with_reducible refine w_blv ?_)
local macro_rules | `(tactic| walk_at "rAddI") => `(tactic| with_reducible refine w_addI ?_)
local macro_rules | `(tactic| walk_at "rSubI") => `(tactic| with_reducible refine w_subI ?_)
local macro_rules | `(tactic| walk_at "rLtI") => `(tactic| with_reducible refine w_ltI ?_)
local macro_rules | `(tactic| walk_at "rLeI") => `(tactic| with_reducible refine w_leI ?_)
local macro_rules | `(tactic| walk_at "rGtI") => `(tactic| with_reducible refine w_gtI ?_)
local macro_rules | `(tactic| walk_at "rGeI") => `(tactic| with_reducible refine w_geI ?_)
local macro_rules | `(tactic| walk_at "rNegI") => `(tactic| with_reducible refine w_negI ?_)
local macro_rules | `(tactic| walk_at "rInS") => `(tactic| with_reducible refine w_inS ?_)
local macro_rules | `(tactic| walk_at "rNotInS") => `(tactic| with_reducible refine w_notInS ?_)
local macro_rules | `(tactic| walk_at "tCB") => `(tactic| with_reducible refine w_cb ?_)
local macro_rules | `(tactic| walk_at "rAbs") => `(tactic| with_reducible refine w_abs ?_)
local macro_rules | `(tactic| walk_at "rMax2") => `(tactic| with_reducible refine w_max2 ?_)
local macro_rules | `(tactic| walk_at "tTup") => `(tactic| with_reducible refine w_tup ?_)
local macro_rules | `(tactic| walk_at "tLst") => `(tactic| with_reducible refine w_lst ?_)
local macro_rules | `(tactic| walk_at "tPart") => `(tactic| with_reducible refine w_part ?_)
local macro_rules | `(tactic| walk_at "PtV") => `(tactic| with_reducible refine w_ptv ?_)
local macro_rules | `(tactic| walk_at "tNoPart") => `(tactic| with_reducible refine w_nopart ?_)
local macro_rules | `(tactic| walk_at "tSl") => `(tactic| with_reducible refine w_sl ?_)
local macro_rules | `(tactic| walk_at "tNext") => `(tactic| with_reducible refine w_next ?_)
local macro_rules | `(tactic| walk_at "tSeq") => `(tactic| with_reducible refine w_seq ?_)
local macro_rules | `(tactic| walk_at "tDrop") => `(tactic| with_reducible refine w_drop ?_)
local macro_rules | `(tactic| walk_at "tRet") => `(tactic| with_reducible refine w_ret ?_)
local macro_rules | `(tactic| walk_at "tRetN") => `(tactic| with_reducible refine w_retN ?_)
local macro_rules | `(tactic| walk_at "tCont") => `(tactic| with_reducible refine w_cont ?_)
local macro_rules | `(tactic| walk_at "tIfS") => `(tactic| with_reducible refine w_ifS ?_)
local macro_rules | `(tactic| walk_at "tAsg") => `(tactic| with_reducible refine w_asg ?_)
local macro_rules | `(tactic| walk_at "gNil") => `(tactic| with_reducible refine w_gnil ?_)
local macro_rules | `(tactic| walk_at "gCons") => `(tactic| with_reducible refine w_gcons ?_)
local macro_rules | `(tactic| walk_at "tPar") => `(tactic| with_reducible refine w_par ?_)
local macro_rules | `(tactic| walk_at "tPar3") => `(tactic| with_reducible refine w_par3 ?_)
local macro_rules | `(tactic| walk_at "gSub") => `(tactic| with_reducible refine w_sub ?_)
local macro_rules | `(tactic| walk_at "tFld") => `(tactic| with_reducible refine w_fld ?_)
local macro_rules | `(tactic| walk_at "sFld") => `(tactic| with_reducible refine w_sfld ?_)
local macro_rules | `(tactic| walk_at "gAttr") => `(tactic| with_reducible refine w_gattr ?_)
local macro_rules | `(tactic| walk_at "tCall") => `(tactic| with_reducible refine w_call ?_)
local macro_rules | `(tactic| walk_at "tMeth") => `(tactic| with_reducible refine w_meth ?_)
local macro_rules | `(tactic| walk_at "tMake") => `(tactic| with_reducible refine w_mk ?_)
local macro_rules | `(tactic| walk_at "tBM") => `(tactic| with_reducible refine w_bm ?_)
local macro_rules | `(tactic| walk_at "tBM0") => `(tactic| with_reducible refine w_bm0 ?_)
local macro_rules | `(tactic| walk_at "tM1") => `(tactic| with_reducible refine w_m1 ?_)
local macro_rules | `(tactic| walk_at "tDGet") => `(tactic| with_reducible refine w_dget ?_)
local macro_rules | `(tactic| walk_at "sDPut") => `(tactic| with_reducible refine w_dput ?_)
local macro_rules | `(tactic| walk_at "tFor") => `(tactic| with_reducible refine w_for ?_)
local macro_rules | `(tactic| walk_at "tLc") => `(tactic| with_reducible refine w_lc ?_)
local macro_rules | `(tactic| walk_at "tYes") => `(tactic| with_reducible refine w_yes ?_)
local macro_rules | `(tactic| walk_at "iList") => `(tactic| with_reducible refine w_iList ?_)
local macro_rules | `(tactic| walk_at "iTup") => `(tactic| with_reducible refine w_iTup ?_)
local macro_rules | `(tactic| walk_at "iRng1") => `(tactic| with_reducible refine w_iRng1 ?_)
local macro_rules | `(tactic| walk_at "iRng2") => `(tactic| with_reducible refine w_iRng2 ?_)
local macro_rules | `(tactic| walk_at "StV") => `(tactic| with_reducible refine w_stv ?_)
local macro_rules | `(tactic| walk_at "iStr") => `(tactic| with_reducible refine w_iStr ?_)
local macro_rules | `(tactic| walk_at "tVar") => `(tactic| (plain_pass; first | ((with_reducible apply w_var); (· rfl))))
local macro_rules | `(tactic| walk_at "NonV") => `(tactic| (plain_pass; first | with_reducible refine nonv_non ?_ | with_reducible refine nonv_int ?_ | with_reducible refine nonv_ref ?_ | with_reducible refine nonv_str ?_))
local macro_rules | `(tactic| walk_at "rEq") => `(tactic| (plain_pass; first | with_reducible refine w_eqI ?_ | with_reducible refine w_eqS ?_))
local macro_rules | `(tactic| walk_at "rNe") => `(tactic| (plain_pass; first | with_reducible refine w_neI ?_ | with_reducible refine w_neS ?_))
local macro_rules | `(tactic| walk_at "rInt") => `(tactic| (plain_pass; first | with_reducible refine w_intI ?_ | with_reducible refine w_intB ?_))
local macro_rules | `(tactic| walk_at "rIsi") => `(tactic| (plain_pass; first | with_reducible refine w_isi_str ?_ | with_reducible refine w_isi_int ?_ | with_reducible refine w_isi_bool ?_))
local macro_rules | `(tactic| walk_at "gName") => `(tactic| (plain_pass; first | ((with_reducible apply w_gname); (· (repeat (first | with_reducible exact set_0 | with_reducible apply set_s))))))
local macro_rules | `(tactic| walk_at "rIxT") => `(tactic| (plain_pass; first | ((with_reducible apply w_ixT0); (· walk_at "sq"); (· rfl)) | ((with_reducible apply w_ixT1); (· walk_at "sq"); (· rfl)) | ((with_reducible apply w_ixT2); (· walk_at "sq"); (· rfl))))
local macro_rules | `(tactic| walk_at "rIxL") => `(tactic| (plain_pass; first | ((with_reducible apply w_ixL0); (· walk_at "sq"); (· rfl))))
local macro_rules | `(tactic| walk_at "gTup") => `(tactic| (plain_pass; first | ((with_reducible apply w_gtup); (· walk_at "sq"); (· rfl))))
local macro_rules | `(tactic| walk_at "rLenS") => `(tactic| (plain_pass; first | ((with_reducible apply w_lenS); (· (first | omega | (simp; omega))))))
local macro_rules | `(tactic| walk_at "rLenQ") => `(tactic| (plain_pass; first | ((with_reducible apply w_lenL); (· walk_at "sq")) | ((with_reducible apply w_lenT); (· walk_at "sq"))))
local macro_rules | `(tactic| walk_at "LiV") => `(tactic| (plain_pass; first | ((with_reducible apply w_liv); (· walk_at "sq"))))
local macro_rules | `(tactic| walk_at "TiV") => `(tactic| (plain_pass; first | ((with_reducible apply w_tiv); (· walk_at "sq"))))
local macro_rules | `(tactic| walk_at "rModI") => `(tactic| (plain_pass; first | ((with_reducible apply w_modI); (· omega))))
local macro_rules | `(tactic| walk_at "RgV1") => `(tactic| (plain_pass; first | ((with_reducible apply w_rgv1); (· omega); (· omega))))
local macro_rules | `(tactic| walk_at "RgV2") => `(tactic| (plain_pass; first | ((with_reducible apply w_rgv2); (· omega); (· omega))))
local macro_rules | `(tactic| walk_at "TyL") => `(tactic| (plain_pass; first | ((with_reducible apply w_tyl); (· walk_at "sq"))))
local macro_rules | `(tactic| walk_at "MetV") => `(tactic| (plain_pass; first | ((with_reducible apply w_metv); (· walk_at "hp"); (· (first | assumption | rfl)))))
local macro_rules | `(tactic| walk_at "TupV") => `(tactic| (plain_pass; first | ((with_reducible apply w_tupv); (· (first | (simp; done) | (simp; omega))))))
local macro_rules | `(tactic| walk_at "LstV") => `(tactic| (plain_pass; first | ((with_reducible apply w_lstv); (· (first | (simp; done) | (simp; omega))))))
local macro_rules | `(tactic| walk_at "FldV") => `(tactic| (plain_pass; first | ((with_reducible apply w_fldv); (· walk_at "hp"); (· walk_at "fo"); (· rfl))))
local macro_rules | `(tactic| walk_at "SfV") => `(tactic| (plain_pass; first | ((with_reducible apply w_sfv); (· walk_at "hp"); (· walk_at "fo"); (· (simp; done)); (· (repeat (first | exact putF_nil | exact putF_same | (apply putF_ne; (· decide +kernel))))))))
local macro_rules | `(tactic| walk_at "IfB") => `(tactic| (plain_pass; first | refine if_t rfl ?_ | refine if_f rfl ?_ | refine if_t (by assumption) ?_ | refine if_f (by assumption) ?_ | refine if_t (decide_eq_true (by omega)) ?_ | refine if_f (decide_eq_false (by omega)) ?_ | refine if_t (by rw [decide_eq_false (by omega)]; rfl) ?_ | refine if_f (by rw [decide_eq_true (by omega)]; rfl) ?_))
local macro_rules | `(tactic| walk_at "ws") => `(tactic| repeat ((fail_if_success (with_reducible intro _)); walk1))
local macro_rules | `(tactic| walk_at "wp") => `(tactic| first | with_reducible exact wipe_nil | ((with_reducible apply wipe_cons); (· walk_at "wp"); (· (repeat (first | with_reducible exact set_0 | with_reducible apply set_s)))) | fail "wp")
local macro_rules | `(tactic| walk_at "WpV") => `(tactic| (plain_pass; ((with_reducible apply w_wpv); (· walk_at "wp"))))
local macro_rules | `(tactic| walk_at "tDIn") => `(tactic| with_reducible refine w_din ?_)
local macro_rules | `(tactic| walk_at "tDNotIn") => `(tactic| with_reducible refine w_dnotin ?_)
local macro_rules | `(tactic| walk_at "tDGet2") => `(tactic| with_reducible refine w_dget2 ?_)
local macro_rules | `(tactic| walk_at "StM") => `(tactic| with_reducible refine w_stm ?_)
local macro_rules | `(tactic| walk_at "TrV") => `(tactic| (plain_pass; ((with_reducible apply w_truL); (· walk_at "sq"))))
local macro_rules | `(tactic| walk_at "D2V") => `(tactic| (plain_pass; ((with_reducible apply w_d2v); (· walk_at "hp"))))
local macro_rules | `(tactic| walk_at "no such") => `(tactic| fail "stop")
local macro_rules | `(tactic| walk_at "ParV") => `(tactic| (plain_pass; ((with_reducible apply w_parv); (· (repeat (first | with_reducible exact set_0 | with_reducible apply set_s))); (· (repeat (first | with_reducible exact set_0 | with_reducible apply set_s))))))
local macro_rules | `(tactic| walk_at "ParW") => `(tactic| (plain_pass; ((with_reducible apply w_parw); (· (repeat (first | with_reducible exact set_0 | with_reducible apply set_s))); (· (repeat (first | with_reducible exact set_0 | with_reducible apply set_s))); (· (repeat (first | with_reducible exact set_0 | with_reducible apply set_s))))))
local macro_rules | `(tactic| walk_at "tLc2") => `(tactic| with_reducible refine w_lc2 ?_)
/-! ### cuts -/
theorem cut_take {l : List Nat} {i : Int} {n : Nat} (h : i = (n : Int)) : cut l none (some i) = l.take n := by
  subst h
  unfold cut
  rw [HT.sIx_none, HT.sIx_nat]
  simp only [Nat.sub_zero, List.drop_zero]
  rcases Nat.le_total n l.length with h | h
  · rw [Nat.min_eq_left h]
  · rw [Nat.min_eq_right h, List.take_of_length_le (Nat.le_refl _), List.take_of_length_le h]
theorem cut_from {l : List Nat} {i : Int} {n : Nat} (h : i = (n : Int)) : cut l (some i) none = l.drop n := by
  subst h
  unfold cut
  rw [HT.sIx_none, HT.sIx_nat]
  rcases Nat.le_total n l.length with h | h
  · rw [Nat.min_eq_left h, List.take_of_length_le (by simp)]
  · rw [Nat.min_eq_right h, List.drop_of_length_le (Nat.le_refl _), List.drop_of_length_le h]; simp
theorem cut_last {l : List Nat} {i : Int} {n : Nat} (h0 : 0 < n) (h : i = -(n : Int)) : cut l (some i) none = l.drop (l.length - n) := by
  subst h
  unfold cut
  have e : HT.sIx l.length 0 (some (-(n : Int))) = l.length - n := by
    show (if (-(n : Int)) < 0 then (-(n : Int) + (l.length : Int)).toNat else min (-(n : Int)).toNat l.length) = _
    rw [if_pos (by omega)]
    omega
  rw [e, HT.sIx_none, List.take_of_length_le (by simp)]
theorem cut_mid {l : List Nat} {i j : Int} {a b : Nat} (hi : i = (a : Int)) (hj : j = (b : Int)) (hab : a ≤ b) : cut l (some i) (some j) = (l.drop a).take (b - a) := by
  subst hi
  subst hj
  unfold cut
  rw [HT.sIx_nat, HT.sIx_nat]
  rcases Nat.le_total a l.length with h | h
  · rw [Nat.min_eq_left h]
    rcases Nat.le_total b l.length with h2 | h2
    · rw [Nat.min_eq_left h2]
    · rw [Nat.min_eq_right h2, List.take_of_length_le (by simp), List.take_of_length_le (by simp; omega)]
  · rw [Nat.min_eq_right h, List.drop_of_length_le (Nat.le_refl _), List.drop_of_length_le h]; simp
section
variable {K : PySem.W.Frag} {σ : SlS} {H : Hp} {Q : VK}
theorem w_slSe {l l' : List Nat} {lo hi : Option Int} (hl : l.length ≤ 100000) (e : cut l lo hi = l') (q : Q (.str (S l')) H) : rSlS (.str (S l)) lo hi H Q := w_slS hl (by rw [e]; exact q)
end
/-! ### nodes -/
/-- the tuples and the instances stay -/
structure ExU (H H' : Hp) : Prop where
  t : ∀ a xs, H a = some (.tup xs) → H' a = some (.tup xs)
  i : ∀ a C dx fs, H a = some (.ins C dx fs) → H' a = some (.ins C dx fs)
theorem ExU.of {H H' : Hp} (e : Ex H H') : ExU H H' := ⟨fun a xs h => e a _ h, fun a C dx fs h => e a _ h⟩
theorem ExU.tr {H H1 H2 : Hp} (a : ExU H H1) (b : ExU H1 H2) : ExU H H2 := ⟨fun x xs h => b.t x xs (a.t x xs h), fun x C dx fs h => b.i x C dx fs (a.i x C dx fs h)⟩
theorem ExU.ml {H H' : Hp} {l : Addr} {xs : List V} (m : Ml l H H') (h : H l = some (.lst xs)) : ExU H H' := ⟨fun a ys ha => m a _ (ne_kind ha h (fun z => nomatch z)) ha, fun a C dx fs ha => m a _ (ne_kind ha h (fun z => nomatch z)) ha⟩
theorem ExU.mlK {H H' : Hp} {l : Addr} {kvs : List (Key × V)} (m : Ml l H H') (h : H l = some (.dK kvs)) : ExU H H' := ⟨fun a ys ha => m a _ (ne_kind ha h (fun z => nomatch z)) ha, fun a C dx fs ha => m a _ (ne_kind ha h (fun z => nomatch z)) ha⟩
theorem ExU.mlT {H H' : Hp} {l : Addr} {kvs : List (List Key × V)} (m : Ml l H H') (h : H l = some (.dT kvs)) : ExU H H' := ⟨fun a ys ha => m a _ (ne_kind ha h (fun z => nomatch z)) ha, fun a C dx fs ha => m a _ (ne_kind ha h (fun z => nomatch z)) ha⟩
abbrev oNode (K : PySem.W.Frag) (dx : Addr) (ls l r s e : V) : HO := .ins (cNode K) dx [("letters", ls), ("left", l), ("right", r), ("size", s), ("ends", e)]
abbrev oNodes (K : PySem.W.Frag) (dx : Addr) (r : Addr) : HO := .ins (cNodes K) dx [("most", .int 8), ("rows", .ref r)]
abbrev oSums (K : PySem.W.Frag) (dx : Addr) (c n t : V) : HO := .ins (cSums K) dx [("cost", c), ("windows", n), ("told", t)]
structure Nd where
  txt : List Nat
  kids : Option (Nat × Nat)
def Nd.ls (n : Nd) : V := match n.kids with | none => .str (S n.txt) | some _ => .non
def Nd.l (n : Nd) : V := match n.kids with | none => .non | some p => .int (p.1 : Int)
def Nd.r (n : Nd) : V := match n.kids with | none => .non | some p => .int (p.2 : Int)
abbrev last8 (t : List Nat) : List Nat := t.drop (t.length - 8)
def NodeAt (K : PySem.W.Frag) (H : Hp) (a : Addr) (n : Nd) : Prop := ∃ dx e, H a = some (oNode K dx n.ls n.l n.r (.int (n.txt.length : Int)) (.ref e)) ∧ H e = some (.tup [.str (S (n.txt.take 8)), .str (S (last8 n.txt))])
theorem NodeAt.up {K : PySem.W.Frag} {H H' : Hp} {a : Addr} {n : Nd} (e : ExU H H') (h : NodeAt K H a n) : NodeAt K H' a n := by
  obtain ⟨dx, x, h1, h2⟩ := h
  exact ⟨dx, x, e.i _ _ _ _ h1, e.t _ _ h2⟩
def NsOk (ns : List Nd) : Prop := ∀ (i : Nat) (n : Nd), ns[i]? = some n → match n.kids with
  | none => n.txt.length ≤ 100
  | some (l, r) => l < i ∧ r < i ∧ ∃ x y : Nd, ns[l]? = some x ∧ ns[r]? = some y ∧ n.txt = x.txt ++ y.txt
theorem NsOk.leaf {ns : List Nd} (h : NsOk ns) {t : List Nat} (hl : t.length ≤ 100) : NsOk (ns ++ [⟨t, none⟩]) := by
  intro i n hi
  by_cases hlt : i < ns.length
  · rw [List.getElem?_append_left hlt] at hi
    have := h i n hi
    revert this
    cases hk : n.kids with
    | none => exact id
    | some p =>
      rintro ⟨h1, h2, x, y, h3, h4, h5⟩
      exact ⟨h1, h2, x, y, by rw [List.getElem?_append_left (by omega)]; exact h3, by rw [List.getElem?_append_left (by omega)]; exact h4, h5⟩
  · rw [List.getElem?_append_right (by omega)] at hi
    have hz := (List.getElem?_eq_some_iff.mp hi).1
    simp at hz
    have e0 : i - ns.length = 0 := by omega
    rw [e0] at hi
    simp at hi
    subst hi
    exact hl
theorem NsOk.pair {ns : List Nd} (h : NsOk ns) {l r : Nat} {x y : Nd} (hx : ns[l]? = some x) (hy : ns[r]? = some y) : NsOk (ns ++ [⟨x.txt ++ y.txt, some (l, r)⟩]) := by
  have hl := (List.getElem?_eq_some_iff.mp hx).1
  have hr := (List.getElem?_eq_some_iff.mp hy).1
  intro i n hi
  by_cases hlt : i < ns.length
  · rw [List.getElem?_append_left hlt] at hi
    have := h i n hi
    revert this
    cases hk : n.kids with
    | none => exact id
    | some p =>
      rintro ⟨h1, h2, x, y, h3, h4, h5⟩
      exact ⟨h1, h2, x, y, by rw [List.getElem?_append_left (by omega)]; exact h3, by rw [List.getElem?_append_left (by omega)]; exact h4, h5⟩
  · rw [List.getElem?_append_right (by omega)] at hi
    have hz := (List.getElem?_eq_some_iff.mp hi).1
    simp at hz
    have e0 : i - ns.length = 0 := by omega
    have ei : i = ns.length := by omega
    rw [e0] at hi
    simp at hi
    subst hi
    subst ei
    exact ⟨hl, hr, x, y, by rw [List.getElem?_append_left hl]; exact hx, by rw [List.getElem?_append_left hr]; exact hy, rfl⟩
/-- the list at r holds the nodes ns -/
def RowsAt (K : PySem.W.Frag) (H : Hp) (r : Addr) (ns : List Nd) : Prop := NsOk ns ∧ ∃ as : List Addr, H r = some (.lst (as.map V.ref)) ∧ as.length = ns.length ∧ ∀ (i : Nat) a n, as[i]? = some a → ns[i]? = some n → NodeAt K H a n
theorem RowsAt.up {K : PySem.W.Frag} {H H' : Hp} {r : Addr} {ns : List Nd} (e : Ex H H') (h : RowsAt K H r ns) : RowsAt K H' r ns := by
  obtain ⟨h0, as, h1, h2, h3⟩ := h
  exact ⟨h0, as, e _ _ h1, h2, fun i a n x y => (h3 i a n x y).up (ExU.of e)⟩
/-- what changed is no list, no tuple, no instance -/
theorem RowsAt.ml {K : PySem.W.Frag} {H H' : Hp} {r l : Addr} {ns : List Nd} (e : Ml l H H') (u : ExU H H') (n : r ≠ l) (h : RowsAt K H r ns) : RowsAt K H' r ns := by
  obtain ⟨h0, as, h1, h2, h3⟩ := h
  exact ⟨h0, as, e _ _ n h1, h2, fun i a n x y => (h3 i a n x y).up u⟩
theorem RowsAt.get {K : PySem.W.Frag} {H : Hp} {r : Addr} {ns : List Nd} {i : Nat} {n : Nd} (h : RowsAt K H r ns) (hi : ns[i]? = some n) : ∃ xs a, H r = some (.lst xs) ∧ xs.length = ns.length ∧ xs[i]? = some (.ref a) ∧ NodeAt K H a n := by
  obtain ⟨h0, as, h1, h2, h3⟩ := h
  have hl := (List.getElem?_eq_some_iff.mp hi).1
  have e : as[i]? = some as[i] := by simp [h2, hl]
  exact ⟨_, as[i], h1, by simp [h2], by rw [List.getElem?_map, e]; rfl, h3 i _ n e hi⟩
/-- a node is put at the end -/
theorem RowsAt.put {K : PySem.W.Frag} {H H1 H' : Hp} {r a : Addr} {ns : List Nd} {n : Nd} {xs : List V} (h : RowsAt K H r ns) (hx : H r = some (.lst xs)) (e : Ex H H1) (m : Ml r H1 H') (ok : NsOk (ns ++ [n])) (hn : NodeAt K H1 a n) (hr : H' r = some (.lst (xs ++ [.ref a]))) : RowsAt K H' r (ns ++ [n]) := by
  obtain ⟨h0, as, h1, h2, h3⟩ := h
  rw [hx] at h1
  cases h1
  have u : ExU H1 H' := ExU.ml m (e _ _ hx)
  refine ⟨ok, as ++ [a], by rw [hr]; simp, by simp [h2], fun i b n' x y => ?_⟩
  by_cases hlt : i < as.length
  · rw [List.getElem?_append_left hlt] at x
    rw [List.getElem?_append_left (by omega)] at y
    exact ((h3 i b n' x y).up (ExU.of e)).up u
  · rw [List.getElem?_append_right (by omega)] at x
    rw [List.getElem?_append_right (by omega)] at y
    have hz := (List.getElem?_eq_some_iff.mp x).1
    simp at hz
    rw [show i - as.length = 0 by omega] at x
    rw [show i - ns.length = 0 by omega] at y
    simp at x y
    subst x
    subst y
    exact hn.up u
theorem RowsAt.len {K : PySem.W.Frag} {H : Hp} {r : Addr} {ns : List Nd} (h : RowsAt K H r ns) : ∃ xs, H r = some (.lst xs) ∧ xs.length = ns.length := by
  obtain ⟨h0, as, h1, h2, h3⟩ := h
  exact ⟨_, h1, by simp [h2]⟩
/-! ### trees -/
inductive Tr where
  | go (s q : Nat)
  | tell (n : Nat) (t : Tr)
  | read (p : Nat) (f : Nat → Tr)
def TrAt (k : Nat) (H : Hp) : Tr → V → Prop
  | .go s q, v => ∃ a, v = .ref a ∧ H a = some (.tup [.str "go", .int (s : Int), .int (q : Int)])
  | .tell n t, v => ∃ a w, v = .ref a ∧ H a = some (.tup [.str "tell", .int (n : Int), w]) ∧ TrAt k H t w
  | .read p f, v => ∃ a c ws, v = .ref a ∧ H a = some (.tup [.str "read", .int (p : Int), .ref c]) ∧ H c = some (.tup ws) ∧ ws.length = k ∧ ∀ i w, i < k → ws[i]? = some w → TrAt k H (f i) w
theorem TrAt.up {k : Nat} {H H' : Hp} (e : ExT H H') : ∀ {t : Tr} {v : V}, TrAt k H t v → TrAt k H' t v
  | .go s q, v, ⟨a, h1, h2⟩ => ⟨a, h1, e _ _ h2⟩
  | .tell n t, v, ⟨a, w, h1, h2, h3⟩ => ⟨a, w, h1, e _ _ h2, TrAt.up e h3⟩
  | .read p f, v, ⟨a, c, ws, h1, h2, h3, h4, h5⟩ => ⟨a, c, ws, h1, e _ _ h2, e _ _ h3, h4, fun i w hi hw => TrAt.up e (h5 i w hi hw)⟩
def OkT (k m n : Nat) : Tr → Nat → Prop
  | .go s q, d => 1 ≤ d ∧ 1 ≤ s ∧ s ≤ m + 1 ∧ q < n
  | .tell j t, d => ∃ d', d = d' + 1 ∧ j ≤ 2 ∧ OkT k m n t d'
  | .read p f, d => ∃ d', d = d' + 1 ∧ p ≤ m ∧ ∀ i, i < k → OkT k m n (f i) d'
theorem OkT.up {k m n : Nat} : ∀ {t : Tr} {d d' : Nat}, OkT k m n t d → d ≤ d' → OkT k m n t d'
  | .go s q, d, d', h, e => ⟨by have := h.1; omega, h.2⟩
  | .tell j t, d, d', ⟨d1, e1, h1, h2⟩, e => ⟨d' - 1, by omega, h1, OkT.up h2 (by omega)⟩
  | .read p f, d, d', ⟨d1, e1, h1, h2⟩, e => ⟨d' - 1, by omega, h1, fun i hi => OkT.up (h2 i hi) (by omega)⟩
theorem OkT.pos {k m n : Nat} : ∀ {t : Tr} {d : Nat}, OkT k m n t d → 1 ≤ d
  | .go s q, d, h => h.1
  | .tell j t, d, ⟨d1, e1, _⟩ => by omega
  | .read p f, d, ⟨d1, e1, _⟩ => by omega
def sz (k : Nat) : Tr → Nat
  | .go _ _ => 1
  | .tell _ t => sz k t + 1
  | .read _ f => ((List.range k).map fun i => sz k (f i)).sum + 1
/-! ### the place of a letter -/
def ixOf (ls : List Nat) (c : Nat) : Nat := match Builtin.Str.occurrences (S ls) (S [c]) 0 (S ls).length 1 with
  | [] => 0
  | i :: _ => i
theorem occ_lt (s sub : Str) (hi limit : Nat) (h1 : 1 ≤ sub.length) : ∀ (l : List Nat) (st : Array Nat × Nat), (∀ x ∈ st.fst.toList, x < hi) → ∀ x ∈ (forIn l st (StrLaws.occBody s sub hi limit)).run.fst.toList, x < hi
  | [], st, h => h
  | a :: l, st, h => by
    rw [List.forIn_cons]
    unfold StrLaws.occBody
    split
    · rename_i hc
      refine occ_lt s sub hi limit h1 l _ ?_
      intro x hx
      simp at hx
      rcases hx with hx | hx
      · exact h x (by simpa using hx)
      · omega
    · exact occ_lt s sub hi limit h1 l _ h
theorem ixOf_ok {ls : List Nat} {c : Nat} (h : c ∈ ls) : ixOf ls c < ls.length ∧ ∃ rest, Builtin.Str.occurrences (S ls) (S [c]) 0 (S ls).length 1 = ixOf ls c :: rest := by
  have h1 := StrLaws.found_one (S ls) c
  have h2 := occ_lt (S ls) (S [c]) (S ls).length 1 (by rw [S_len]; simp) (List.range' 0 ((S ls).length + 1 - 0)) (#[], 0) (by simp)
  rw [← StrLaws.occ_eq] at h2
  unfold ixOf
  cases ho : Builtin.Str.occurrences (S ls) (S [c]) 0 (S ls).length 1 with
  | nil =>
    have h3 : (!(Builtin.Str.occurrences (S ls) (S [c]) 0 (S ls).length 1).isEmpty) = decide (c ∈ ls) := by simpa using h1
    rw [ho, decide_eq_true h] at h3
    simp at h3
  | cons i rest =>
    rw [ho] at h2
    have h4 := h2 i (by simp)
    rw [S_len] at h4
    exact ⟨h4, rest, rfl⟩
section
variable {K : PySem.W.Frag} {H : Hp} {Q : VK}
theorem w_sidx {ls : List Nat} {c : Nat} (h : c ∈ ls) (q : Q (.int (ixOf ls c : Int)) H) : rSIdx (.str (S ls)) [.str (S [c])] H Q := by
  obtain ⟨_, rest, e⟩ := ixOf_ok h
  exact ⟨S ls, S [c], ixOf ls c, rest, rfl, rfl, e, q⟩
end
/-! ### what a searcher does at a window -/
structure Rn where
  cost : Nat
  tells : List Nat
  out : Option (Nat × Nat)
def run (ls view : List Nat) : Tr → Rn
  | .go s q => ⟨0, [], some (s, q)⟩
  | .tell n t => ⟨(run ls view t).cost, n :: (run ls view t).tells, (run ls view t).out⟩
  | .read p f => match view[p]? with
    | none => ⟨0, [], none⟩
    | some c => ⟨(run ls view (f (ixOf ls c))).cost + 1, (run ls view (f (ixOf ls c))).tells, (run ls view (f (ixOf ls c))).out⟩
/-- a searcher -/
structure Sr where
  ls : List Nat
  m : Nat
  ts : List Tr
structure SrOk (s : Sr) : Prop where
  k2 : 2 ≤ s.ls.length
  k4 : s.ls.length ≤ 3
  nd : s.ls.Nodup
  small : ∀ c ∈ s.ls, 97 ≤ c ∧ c ≤ 122
  m1 : 1 ≤ s.m
  m8 : s.m ≤ 5
  n1 : 1 ≤ s.ts.length
  n5 : s.ts.length ≤ 5
  ok : ∀ t ∈ s.ts, OkT s.ls.length s.m s.ts.length t 12
  sz : ∀ t ∈ s.ts, Wk.sz s.ls.length t ≤ 200
abbrev oSr (K : PySem.W.Frag) (dx : Addr) (ls w st n : V) : HO := .ins (cSearcher K) dx [("letters", ls), ("width", w), ("states", st), ("nodes", n)]
def SrAt (K : PySem.W.Frag) (H : Hp) (a : Addr) (s : Sr) : Prop := SrOk s ∧ ∃ dx p tot vs, H a = some (oSr K dx (.str (S s.ls)) (.int (s.m : Int)) (.ref p) tot) ∧ H p = some (.tup vs) ∧ vs.length = s.ts.length ∧ ∀ (i : Nat) v t, vs[i]? = some v → s.ts[i]? = some t → TrAt s.ls.length H t v
theorem SrAt.up {K : PySem.W.Frag} {H H' : Hp} {a : Addr} {s : Sr} (u : ExU H H') (h : SrAt K H a s) : SrAt K H' a s := by
  obtain ⟨h0, dx, p, tot, vs, h1, h2, h3, h4⟩ := h
  exact ⟨h0, dx, p, tot, vs, u.i _ _ _ _ h1, u.t _ _ h2, h3, fun i v t x y => (h4 i v t x y).up u.t⟩
theorem SrAt.upX {K : PySem.W.Frag} {H H' : Hp} {a : Addr} {s : Sr} (u : ExT H H') (e : ∀ o, H a = some o → H' a = some o) (h : SrAt K H a s) : SrAt K H' a s := by
  obtain ⟨h0, dx, p, tot, vs, h1, h2, h3, h4⟩ := h
  exact ⟨h0, dx, p, tot, vs, e _ h1, u _ _ h2, h3, fun i v t x y => (h4 i v t x y).up u⟩
/-- an instance without attributes may turn -/
theorem SrAt.mlx {K : PySem.W.Frag} {H H' : Hp} {a x C dx : Addr} {s : Sr} (m : Ml x H H') (hx : H x = some (.ins C dx [])) (h : SrAt K H a s) : SrAt K H' a s := by
  refine h.upX (ml_t m hx (fun _ z => nomatch z)) fun o ho => m a o (fun z => ?_) ho
  obtain ⟨h0, dx, p, tot, vs, h1, _⟩ := h
  rw [z, hx] at h1
  cases h1
theorem SrAt.get {K : PySem.W.Frag} {H : Hp} {a : Addr} {s : Sr} {i : Nat} {t : Tr} (h : SrAt K H a s) (hi : s.ts[i]? = some t) : ∃ dx p tot vs v, H a = some (oSr K dx (.str (S s.ls)) (.int (s.m : Int)) (.ref p) tot) ∧ H p = some (.tup vs) ∧ vs.length = s.ts.length ∧ vs[i]? = some v ∧ TrAt s.ls.length H t v ∧ OkT s.ls.length s.m s.ts.length t 12 := by
  obtain ⟨h0, dx, p, tot, vs, h1, h2, h3, h4⟩ := h
  have hl := (List.getElem?_eq_some_iff.mp hi).1
  have hv : vs[i]? = some (vs[i]'(by omega)) := by simp [h3, hl]
  exact ⟨dx, p, tot, vs, _, h1, h2, h3, hv, h4 i _ t hv hi, h0.ok t (List.mem_of_getElem? hi)⟩
abbrev oTurn (K : PySem.W.Frag) (dx r n : Addr) (sl st : V) : HO := .ins (cWindowTurn K) dx [("reads", .ref r), ("numbers", .ref n), ("slide", sl), ("state", st)]
def outV (o : Option (Nat × Nat)) : V × V := match o with | none => (.non, .non) | some p => (.int (p.1 : Int), .int (p.2 : Int))
/-- a turn that is done -/
def TurnAt (K : PySem.W.Frag) (H0 H : Hp) (x : Addr) (R : Rn) : Prop := ∃ dx r n rs, H0 r = none ∧ H0 n = none ∧ H x = some (oTurn K dx r n (outV R.out).1 (outV R.out).2) ∧ H r = some (.lst rs) ∧ rs.length = R.cost ∧ H n = some (.lst (R.tells.map fun (j : Nat) => V.int (j : Int)))
theorem TurnAt.up {K : PySem.W.Frag} {H0 H H' : Hp} {x : Addr} {R : Rn} (e : Ex H H') (h : TurnAt K H0 H x R) : TurnAt K H0 H' x R := by
  obtain ⟨dx, r, n, rs, h5, h6, h1, h2, h3, h4⟩ := h
  exact ⟨dx, r, n, rs, h5, h6, e _ _ h1, e _ _ h2, h3, e _ _ h4⟩
/-! ### windows, in plain -/
theorem run_ok {k m n : Nat} {ls view : List Nat} (hk : ls.length = k) (hc : ∀ c ∈ view, c ∈ ls) : ∀ {t : Tr} {d : Nat}, OkT k m n t d →
    (run ls view t).cost ≤ d ∧ (run ls view t).tells.length ≤ d ∧ (∀ s q, (run ls view t).out = some (s, q) → 1 ≤ s ∧ s ≤ m + 1 ∧ q < n) ∧ (m < view.length → (run ls view t).out ≠ none)
  | .go s q, d, h => ⟨by simp [run], by simp [run], fun s' q' e => by simp [run] at e; obtain ⟨rfl, rfl⟩ := e; exact h.2, fun _ => by simp [run]⟩
  | .tell j t, d, ⟨d', e, h1, h2⟩ => by
    obtain ⟨a, b, c, f⟩ := run_ok hk hc h2
    exact ⟨by simp [run]; omega, by simp [run]; omega, fun s q e => c s q (by simpa [run] using e), fun hl => by simpa [run] using f hl⟩
  | .read p f, d, ⟨d', e, h1, h2⟩ => by
    cases hv : view[p]? with
    | none =>
      refine ⟨by simp [run, hv], by simp [run, hv], fun s q e => by simp [run, hv] at e, fun hl => ?_⟩
      have := List.getElem?_eq_none_iff.mp hv
      omega
    | some c =>
      have hin := hc c (List.mem_of_getElem? hv)
      have hi : ixOf ls c < k := by rw [← hk]; exact (ixOf_ok hin).1
      obtain ⟨a, b, c', g⟩ := run_ok hk hc (h2 _ hi)
      refine ⟨by simp [run, hv]; omega, by simp [run, hv]; omega, fun s q e => c' s q (by simpa [run, hv] using e), fun hl => by simpa [run, hv] using g hl⟩
abbrev Wn := Nat × Nat × List Nat
def tr (s : Sr) (q : Nat) : Tr := s.ts.getD q (.go 1 0)
theorem tr_get {s : Sr} {q : Nat} (h : q < s.ts.length) : s.ts[q]? = some (tr s q) := by simp [tr, h]
def win (s : Sr) (T : List Nat) (p : Nat) : List Nat := (T.drop p).take (s.m + 1)
def stp (s : Sr) (T : List Nat) (p q : Nat) : Rn := run s.ls (win s T p) (tr s q)
/-- windows that begin below b, with the letter behind within T -/
inductive PB (s : Sr) (T : List Nat) (b : Nat) : Nat → Nat → List Wn → Nat → Nat → Prop where
  | stop {p q : Nat} (h : ¬ (p < b ∧ p + s.m < T.length)) : PB s T b p q [] p q
  | step {p q sl q1 p' q' : Nat} {ws : List Wn} (h1 : p < b) (h2 : p + s.m < T.length) (ho : (stp s T p q).out = some (sl, q1)) (r : PB s T b (p + sl) q1 ws p' q') : PB s T b p q ((p, (stp s T p q).cost, (stp s T p q).tells) :: ws) p' q'
theorem PB.det {s : Sr} {T : List Nat} {b p q : Nat} {ws ws' : List Wn} {p1 q1 p2 q2 : Nat} (h : PB s T b p q ws p1 q1) (h' : PB s T b p q ws' p2 q2) : ws = ws' ∧ p1 = p2 ∧ q1 = q2 := by
  induction h generalizing ws' p2 q2 with
  | stop h =>
    cases h' with
    | stop _ => exact ⟨rfl, rfl, rfl⟩
    | step h1 h2 _ _ => exact absurd ⟨h1, h2⟩ h
  | step h1 h2 ho r ih =>
    cases h' with
    | stop h => exact absurd ⟨h1, h2⟩ h
    | step _ _ ho' r' =>
      rw [ho] at ho'
      cases ho'
      obtain ⟨e1, e2, e3⟩ := ih r'
      exact ⟨by rw [e1], e2, e3⟩
theorem win_in {s : Sr} {T : List Nat} (hT : ∀ c ∈ T, c ∈ s.ls) (p : Nat) : ∀ c ∈ win s T p, c ∈ s.ls := fun c hc => hT c (List.mem_of_mem_drop (List.mem_of_mem_take hc))
theorem stp_ok {s : Sr} (hs : SrOk s) {T : List Nat} (hT : ∀ c ∈ T, c ∈ s.ls) {p q : Nat} (hq : q < s.ts.length) :
    (stp s T p q).cost ≤ 12 ∧ (stp s T p q).tells.length ≤ 12 ∧ (∀ a b, (stp s T p q).out = some (a, b) → 1 ≤ a ∧ a ≤ s.m + 1 ∧ b < s.ts.length) ∧ (p + s.m < T.length → (stp s T p q).out ≠ none) := by
  obtain ⟨a, b, c, d⟩ := run_ok (view := win s T p) rfl (win_in hT p) (hs.ok (tr s q) (List.mem_of_getElem? (tr_get hq)))
  exact ⟨a, b, c, fun h => d (by simp [win]; omega)⟩
theorem PB.ex {s : Sr} (hs : SrOk s) {T : List Nat} (hT : ∀ c ∈ T, c ∈ s.ls) {b : Nat} : ∀ (f p q : Nat), T.length - p ≤ f → q < s.ts.length → ∃ ws p' q', PB s T b p q ws p' q'
  | 0, p, q, hf, hq => ⟨[], p, q, .stop (by omega)⟩
  | f + 1, p, q, hf, hq => by
    by_cases h : p < b ∧ p + s.m < T.length
    · obtain ⟨_, _, c, d⟩ := stp_ok hs hT (p := p) hq
      cases ho : (stp s T p q).out with
      | none => exact absurd ho (d h.2)
      | some x =>
        obtain ⟨sl, q1⟩ := x
        obtain ⟨h1, _, h3⟩ := c _ _ ho
        obtain ⟨ws, p', q', r⟩ := PB.ex hs hT (b := b) f (p + sl) q1 (by omega) h3
        exact ⟨_, p', q', .step h.1 h.2 ho r⟩
    · exact ⟨[], p, q, .stop h⟩
theorem PB.bd {s : Sr} (hs : SrOk s) {T : List Nat} (hT : ∀ c ∈ T, c ∈ s.ls) {b p q : Nat} {ws : List Wn} {p' q' : Nat} (h : PB s T b p q ws p' q') : q < s.ts.length → p ≤ T.length → p ≤ p' ∧ p' ≤ T.length ∧ q' < s.ts.length ∧ ws.length ≤ p' - p ∧ (∀ w ∈ ws, w.1 < T.length ∧ w.2.1 ≤ 12 ∧ w.2.2.length ≤ 12) ∧ ¬ (p' < b ∧ p' + s.m < T.length) := by
  induction h with
  | stop h => intro hq hp; exact ⟨by omega, hp, hq, by simp, by simp, h⟩
  | step h1 h2 ho r ih =>
    intro hq hp
    obtain ⟨a, b', c, d⟩ := stp_ok hs hT (p := _) hq
    obtain ⟨g1, g2, g3⟩ := c _ _ ho
    obtain ⟨i1, i2, i3, i4, i5, i6⟩ := ih g3 (by omega)
    refine ⟨by omega, i2, i3, by simp; omega, ?_, i6⟩
    intro w hw
    rcases List.mem_cons.mp hw with rfl | hw
    · exact ⟨by show _ < _; omega, a, b'⟩
    · exact i5 w hw
/-- one after the other -/
theorem PB.app {s : Sr} {T : List Nat} {b b' p q : Nat} {ws ws' : List Wn} {p1 q1 p2 q2 : Nat} (hb : b ≤ b') (h : PB s T b p q ws p1 q1) (h' : PB s T b' p1 q1 ws' p2 q2) : PB s T b' p q (ws ++ ws') p2 q2 := by
  induction h with
  | stop _ => exact h'
  | step h1 h2 ho r ih => exact .step (by omega) h2 ho (ih h')
theorem win_left {s : Sr} {L R : List Nat} {p : Nat} (h : p + s.m < L.length) : win s (L ++ R) p = win s L p := by
  unfold win
  rw [List.drop_append_of_le_length (by omega), List.take_append_of_le_length (by simp; omega)]
theorem win_right {s : Sr} {L R : List Nat} {p : Nat} : win s (L ++ R) (L.length + p) = win s R p := by
  unfold win
  rw [List.drop_length_add_append]
theorem PB.left {s : Sr} {L R : List Nat} {p q : Nat} {ws : List Wn} {p' q' : Nat} (h : PB s L L.length p q ws p' q') {ws2 : List Wn} {b p2 q2 : Nat} (hb : L.length ≤ b) (h2 : PB s (L ++ R) b p' q' ws2 p2 q2) : PB s (L ++ R) b p q (ws ++ ws2) p2 q2 := by
  induction h with
  | stop _ => exact h2
  | @step p q sl q1 p' q' ws a1 a2 ho r ih =>
    have e : stp s (L ++ R) p q = stp s L p q := by unfold stp; rw [win_left a2]
    rw [← e] at ho ⊢
    exact .step (by omega) (by simp; omega) ho (ih h2)
def shiftW (n : Nat) (ws : List Wn) : List Wn := ws.map fun w => (n + w.1, w.2)
theorem PB.right {s : Sr} {L R : List Nat} {b p q : Nat} {ws : List Wn} {p' q' : Nat} (h : PB s R b p q ws p' q') : PB s (L ++ R) (L.length + b) (L.length + p) q (shiftW L.length ws) (L.length + p') q' := by
  induction h with
  | stop h => exact .stop (by simp; omega)
  | @step p q sl q1 p' q' ws a1 a2 ho r ih =>
    have e : stp s (L ++ R) (L.length + p) q = stp s R p q := by unfold stp; rw [win_right]
    rw [← e] at ho
    have := PB.step (s := s) (T := L ++ R) (b := L.length + b) (p := L.length + p) (q := q) (by omega) (by simp; omega) ho (by rw [Nat.add_assoc]; exact ih)
    rw [e] at this
    exact this
/-- all windows of T from (p, q) on -/
abbrev CP (s : Sr) (T : List Nat) (p q : Nat) (ws : List Wn) (p' q' : Nat) : Prop := PB s T T.length p q ws p' q'
/-- a pair of texts -/
theorem CP.pair {s : Sr} {L R : List Nat} {p q p1 q1 p2 q2 p3 q3 : Nat} {w1 w2 w3 : List Wn} (h1 : CP s L p q w1 p1 q1) (h2 : PB s (L ++ R) L.length p1 q1 w2 p2 q2) (h3 : CP s R (p2 - L.length) q2 w3 p3 q3) (hle : L.length ≤ p2) : CP s (L ++ R) p q (w1 ++ w2 ++ shiftW L.length w3) (L.length + p3) q3 := by
  have r3 := h3.right (L := L)
  have e : L.length + (p2 - L.length) = p2 := by omega
  rw [e] at r3
  have e2 : L.length + R.length = (L ++ R).length := by simp
  rw [e2] at r3
  rw [List.append_assoc]
  exact h1.left (by simp) (h2.app (by simp) r3)
theorem CP.pair0 {s : Sr} {L R : List Nat} {p q p1 q1 p2 q2 : Nat} {w1 w2 : List Wn} (h1 : CP s L p q w1 p1 q1) (h2 : PB s (L ++ R) L.length p1 q1 w2 p2 q2) (hlt : p2 < L.length) (hm : ¬ (p2 + s.m < (L ++ R).length)) : CP s (L ++ R) p q (w1 ++ w2) p2 q2 :=
  h1.left (by simp) (by
    have := h2.app (b' := (L ++ R).length) (by simp) (PB.stop (s := s) (T := L ++ R) (b := (L ++ R).length) (p := p2) (q := q2) (fun h => hm h.2))
    simpa using this)
theorem CP.pairR {s : Sr} {L R : List Nat} {p q p3 q3 : Nat} {w3 : List Wn} (hle : L.length ≤ p) (h3 : CP s R (p - L.length) q w3 p3 q3) : CP s (L ++ R) p q (shiftW L.length w3) (L.length + p3) q3 := by
  have r3 := h3.right (L := L)
  have e : L.length + (p - L.length) = p := by omega
  rw [e] at r3
  have e2 : L.length + R.length = (L ++ R).length := by simp
  rw [e2] at r3
  exact r3
/-- what windows tell, with the places -/
def toldOf (ws : List Wn) : List (Nat × Nat) := ws.flatMap fun w => w.2.2.map fun j => (w.1, j)
def costOf (ws : List Wn) : Nat := (ws.map fun w => w.2.1).sum
def tellsOf (ws : List Wn) : Nat := (ws.map fun w => w.2.2.length).sum
theorem costOf_app (a b : List Wn) : costOf (a ++ b) = costOf a + costOf b := by simp [costOf]
theorem tellsOf_app (a b : List Wn) : tellsOf (a ++ b) = tellsOf a + tellsOf b := by simp [tellsOf]
theorem costOf_shift (n : Nat) (a : List Wn) : costOf (shiftW n a) = costOf a := by simp [costOf, shiftW, Function.comp_def]
theorem tellsOf_shift (n : Nat) (a : List Wn) : tellsOf (shiftW n a) = tellsOf a := by simp [tellsOf, shiftW, Function.comp_def]
theorem len_shift (n : Nat) (a : List Wn) : (shiftW n a).length = a.length := by simp [shiftW]
theorem toldOf_app (a b : List Wn) : toldOf (a ++ b) = toldOf a ++ toldOf b := by simp [toldOf]
theorem toldOf_shift (n : Nat) (a : List Wn) : toldOf (shiftW n a) = (toldOf a).map fun x => (n + x.1, x.2) := by
  induction a with
  | nil => rfl
  | cons w a ih =>
    rw [show shiftW n (w :: a) = [(n + w.1, w.2)] ++ shiftW n a from rfl, toldOf_app, ih, show w :: a = [w] ++ a from rfl, toldOf_app, List.map_append]
    simp [toldOf]
theorem toldOf_len (a : List Wn) : (toldOf a).length = tellsOf a := by simp [toldOf, tellsOf, List.length_flatMap]
theorem toldOf_cons (w : Wn) (a : List Wn) : toldOf (w :: a) = (w.2.2.map fun j => (w.1, j)) ++ toldOf a := by simp [toldOf]
/-! ### without one thing -/
def Dl (H : Hp) (l : Addr) : Hp := fun a => if a = l then none else H a
theorem dl_l {H : Hp} {l : Addr} : Dl H l l = none := by simp [Dl]
theorem dl_of {H : Hp} {l a : Addr} {o : HO} (n : a ≠ l) (h : H a = some o) : Dl H l a = some o := by simp [Dl, n, h]
theorem dl_ex {H : Hp} {l : Addr} : Ex (Dl H l) H := fun a o h => by
  unfold Dl at h
  split at h
  · cases h
  · exact h
theorem dl_ml {H H' : Hp} {l : Addr} (m : Ml l H H') : Ex (Dl H l) (Dl H' l) := fun a o h => by
  by_cases n : a = l
  · rw [n, dl_l] at h; cases h
  · exact dl_of n (m a o n (dl_ex a o h))
theorem dl_exx {H H' : Hp} {l : Addr} (e : Ex H H') : Ex (Dl H l) (Dl H' l) := dl_ml (ex_ml0 e)
theorem dl_new {H H' : Hp} {l : Addr} (e : Ex H H') (h : H l = none) : Ex H (Dl H' l) := fun a o ha => dl_of (ne_new ha h) (e a o ha)
theorem dl_mlx {H H' : Hp} {l : Addr} (m : Ml l H H') : Ex (Dl H l) H' := fun a o h => dl_ex a o (dl_ml m a o h)
/-! ### windows in the heap -/
def WnAt (H : Hp) (v : V) (w : Wn) : Prop := ∃ a nl, v = .ref a ∧ H a = some (.tup [.int (w.1 : Int), .int (w.2.1 : Int), .ref nl]) ∧ H nl = some (.lst (w.2.2.map fun (j : Nat) => V.int (j : Int)))
theorem WnAt.up {H H' : Hp} {v : V} {w : Wn} (e : Ex H H') (h : WnAt H v w) : WnAt H' v w := by
  obtain ⟨a, nl, h1, h2, h3⟩ := h
  exact ⟨a, nl, h1, e _ _ h2, e _ _ h3⟩
def DoneAt (H : Hp) (a : Addr) (ws : List Wn) : Prop := ∃ L : List (V × Wn), H a = some (.lst (L.map Prod.fst)) ∧ ws = L.map Prod.snd ∧ ∀ x ∈ L, WnAt H x.1 x.2
theorem DoneAt.up {H H' : Hp} {a : Addr} {ws : List Wn} (e : Ex H H') (h : DoneAt H a ws) : DoneAt H' a ws := by
  obtain ⟨L, h1, h2, h3⟩ := h
  exact ⟨L, e _ _ h1, h2, fun x hx => (h3 x hx).up e⟩
theorem DoneAt.nil {H : Hp} {a : Addr} (h : H a = some (.lst [])) : DoneAt H a [] := ⟨[], h, rfl, fun x hx => nomatch hx⟩
abbrev oWalk (K : PySem.W.Frag) (dx a r kd sd : Addr) : HO := .ins (cWalk K) dx [("searcher", .ref a), ("rows", .ref r), ("known", .ref kd), ("seams", .ref sd)]
abbrev kk (n p q : Nat) : List Key := [.inl (n : Int), .inl (p : Int), .inl (q : Int)]
def SumsAt (K : PySem.W.Frag) (H : Hp) (a : Addr) (c n t : Nat) : Prop := ∃ dx, H a = some (oSums K dx (.int (c : Int)) (.int (n : Int)) (.int (t : Int)))
theorem SumsAt.up {K : PySem.W.Frag} {H H' : Hp} {a : Addr} {c n t : Nat} (e : ExU H H') (h : SumsAt K H a c n t) : SumsAt K H' a c n t := by
  obtain ⟨dx, h⟩ := h
  exact ⟨dx, e.i _ _ _ _ h⟩
theorem sum_cast {α : Type} (f : α → Nat) (l : List α) : (l.map fun x => ((f x : Nat) : Int)).sum = ((l.map f).sum : Nat) := by
  induction l with
  | nil => rfl
  | cons a l ih => simp [ih]
theorem filter_t {α : Type} (l : List α) : l.filter (fun _ => true) = l := by simp
theorem ne_ins0 {H : Hp} {a x C dx C' dx' : Addr} {f : Str × V} {fs : List (Str × V)} (h1 : H a = some (.ins C' dx' (f :: fs))) (h2 : H x = some (.ins C dx [])) : a ≠ x := fun z => by
  rw [z, h2] at h1
  have e := (HO.ins.inj (Option.some.inj h1)).2.2
  cases e
theorem win_len (s : Sr) (X : List Nat) (p : Nat) : (win s X p).length ≤ s.m + 1 := by unfold win; exact List.length_take_le _ _
theorem nodup_box : ∀ (n : Nat) (l : List Nat), l.Nodup → (∀ x ∈ l, x < n) → l.length ≤ n
  | 0, [], _, _ => Nat.le_refl _
  | 0, a :: l, _, hb => absurd (hb a (by simp)) (by omega)
  | n + 1, l, h, hb => by
    have ih := nodup_box n (l.erase n) (h.erase n) fun x hx => by
      have h1 := (h.mem_erase_iff).mp hx
      have h2 := hb x h1.2
      have h3 := h1.1
      omega
    by_cases hm : n ∈ l
    · rw [List.length_erase_of_mem hm] at ih
      omega
    · rw [List.erase_of_not_mem hm] at ih
      omega
/-! ### keys of a walk -/
abbrev Ky := Nat × Nat × Nat
abbrev kkt (c : Ky) : List Key := kk c.1 c.2.1 c.2.2
theorem kkt_inj {c d : Ky} (h : kkt c = kkt d) : c = d := by
  obtain ⟨a, b, e⟩ := c
  obtain ⟨a', b', e'⟩ := d
  simp [kkt, kk] at h
  obtain ⟨h1, h2, h3⟩ := h
  have := Int.ofNat.inj h1
  have := Int.ofNat.inj h2
  have := Int.ofNat.inj h3
  simp_all
structure VKy (s : Sr) (ns : List Nd) (c : Ky) (nd : Nd) : Prop where
  hn : ns[c.1]? = some nd
  hp : c.2.1 ≤ nd.txt.length
  hl : nd.txt.length ≤ 2000
  hq : c.2.2 < s.ts.length
  hin : ∀ x ∈ nd.txt, x ∈ s.ls
/-- the key at the left, at the right of a pair -/
inductive Kid (s : Sr) (ns : List Nd) : Ky → Ky → Prop where
  | fst {i p q l r : Nat} {nd x : Nd} (hn : ns[i]? = some nd) (hk : nd.kids = some (l, r)) (hx : ns[l]? = some x) (hp : p < x.txt.length) : Kid s ns (i, p, q) (l, p, q)
  | snd {i p q l r p1 q1 p2 q2 : Nat} {nd x : Nd} {w1 w2 : List Wn} (hn : ns[i]? = some nd) (hk : nd.kids = some (l, r)) (hx : ns[l]? = some x) (hp : p < x.txt.length) (h1 : CP s x.txt p q w1 p1 q1) (h2 : PB s nd.txt x.txt.length p1 q1 w2 p2 q2) (h3 : x.txt.length ≤ p2) : Kid s ns (i, p, q) (r, p2 - x.txt.length, q2)
  | snd0 {i p q l r : Nat} {nd x : Nd} (hn : ns[i]? = some nd) (hk : nd.kids = some (l, r)) (hx : ns[l]? = some x) (hp : x.txt.length ≤ p) : Kid s ns (i, p, q) (r, p - x.txt.length, q)
/-- no key has three keys within -/
theorem Kid.two {s : Sr} {ns : List Nd} {k a b c : Ky} (h1 : Kid s ns k a) (h2 : Kid s ns k b) (h3 : Kid s ns k c) (n : a ≠ b) : c = a ∨ c = b := by
  have key : ∀ {k a : Ky}, Kid s ns k a → ∃ nd x l r, ns[k.1]? = some nd ∧ nd.kids = some (l, r) ∧ ns[l]? = some x ∧ ((k.2.1 < x.txt.length ∧ a = (l, k.2.1, k.2.2)) ∨ (k.2.1 < x.txt.length ∧ ∃ p1 q1 p2 q2 w1 w2, CP s x.txt k.2.1 k.2.2 w1 p1 q1 ∧ PB s nd.txt x.txt.length p1 q1 w2 p2 q2 ∧ a = (r, p2 - x.txt.length, q2)) ∨ (x.txt.length ≤ k.2.1 ∧ a = (r, k.2.1 - x.txt.length, k.2.2))) := by
    intro k a h
    cases h with
    | fst hn hk hx hp => exact ⟨_, _, _, _, hn, hk, hx, .inl ⟨hp, rfl⟩⟩
    | snd hn hk hx hp h1 h2 h3 => exact ⟨_, _, _, _, hn, hk, hx, .inr (.inl ⟨hp, _, _, _, _, _, _, h1, h2, rfl⟩)⟩
    | snd0 hn hk hx hp => exact ⟨_, _, _, _, hn, hk, hx, .inr (.inr ⟨hp, rfl⟩)⟩
  obtain ⟨nd, x, l, r, a1, a2, a3, ha⟩ := key h1
  obtain ⟨nd', x', l', r', b1, b2, b3, hb⟩ := key h2
  obtain ⟨nd'', x'', l'', r'', c1, c2, c3, hc⟩ := key h3
  rw [a1] at b1 c1
  cases b1
  cases c1
  rw [a2] at b2 c2
  cases b2
  cases c2
  rw [a3] at b3 c3
  cases b3
  cases c3
  have same : ∀ {u v : Ky}, (∃ p1 q1 p2 q2 w1 w2, CP s x.txt k.2.1 k.2.2 w1 p1 q1 ∧ PB s nd.txt x.txt.length p1 q1 w2 p2 q2 ∧ u = (r, p2 - x.txt.length, q2)) → (∃ p1 q1 p2 q2 w1 w2, CP s x.txt k.2.1 k.2.2 w1 p1 q1 ∧ PB s nd.txt x.txt.length p1 q1 w2 p2 q2 ∧ v = (r, p2 - x.txt.length, q2)) → u = v := by
    rintro u v ⟨p1, q1, p2, q2, w1, w2, e1, e2, rfl⟩ ⟨p1', q1', p2', q2', w1', w2', e1', e2', rfl⟩
    obtain ⟨_, rfl, rfl⟩ := e1.det e1'
    obtain ⟨_, rfl, rfl⟩ := e2.det e2'
    rfl
  rcases ha with ⟨g1, rfl⟩ | ⟨g1, ha⟩ | ⟨g1, rfl⟩
  · rcases hb with ⟨_, rfl⟩ | ⟨_, hb⟩ | ⟨g2, _⟩
    · exact absurd rfl n
    · rcases hc with ⟨_, rfl⟩ | ⟨_, hc⟩ | ⟨g2, _⟩
      · exact .inl rfl
      · exact .inr (same hc hb)
      · omega
    · omega
  · rcases hb with ⟨_, rfl⟩ | ⟨_, hb⟩ | ⟨g2, _⟩
    · rcases hc with ⟨_, rfl⟩ | ⟨_, hc⟩ | ⟨g2, _⟩
      · exact .inr rfl
      · exact .inl (same hc ha)
      · omega
    · exact absurd (same ha hb) n
    · omega
  · rcases hb with ⟨g2, _⟩ | ⟨g2, _⟩ | ⟨_, rfl⟩
    · omega
    · omega
    · exact absurd rfl n
theorem Kid.ok {s : Sr} (hs : SrOk s) {ns : List Nd} (hns : NsOk ns) {k c : Ky} {nd : Nd} (h : Kid s ns k c) (v : VKy s ns k nd) : c.1 < k.1 ∧ ∃ nd', VKy s ns c nd' := by
  have sub : ∀ {i l r : Nat} {nd x : Nd}, ns[i]? = some nd → nd.kids = some (l, r) → ns[l]? = some x → l < i ∧ r < i ∧ ∃ y : Nd, ns[r]? = some y ∧ nd.txt = x.txt ++ y.txt := by
    intro i l r nd x h1 h2 h3
    have := hns i nd h1
    rw [h2] at this
    obtain ⟨a, b, x', y', c1, c2, c3⟩ := this
    rw [h3] at c1
    cases c1
    exact ⟨a, b, y', c2, c3⟩
  cases h with
  | @fst i p q l r nd' x hn hk hx hp =>
    obtain ⟨vn, vp, vl, vq, vin⟩ := v
    rw [hn] at vn
    cases vn
    obtain ⟨a, b, y, hy, ht⟩ := sub hn hk hx
    have hlen : nd.txt.length = x.txt.length + y.txt.length := by rw [ht]; simp
    exact ⟨a, x, hx, Nat.le_of_lt hp, by omega, vq, fun z hz => vin z (by rw [ht]; simp [hz])⟩
  | @snd i p q l r p1 q1 p2 q2 nd' x w1 w2 hn hk hx hp h1 h2 h3 =>
    obtain ⟨vn, vp, vl, vq, vin⟩ := v
    rw [hn] at vn
    cases vn
    obtain ⟨a, b, y, hy, ht⟩ := sub hn hk hx
    have hlen : nd.txt.length = x.txt.length + y.txt.length := by rw [ht]; simp
    obtain ⟨_, d2, d3, _⟩ := h1.bd hs (fun z hz => vin z (by rw [ht]; simp [hz])) vq (Nat.le_of_lt hp)
    obtain ⟨_, d2', d3', _⟩ := h2.bd hs vin d3 (by omega)
    exact ⟨b, y, hy, by show p2 - x.txt.length ≤ _; omega, by omega, d3', fun z hz => vin z (by rw [ht]; simp [hz])⟩
  | @snd0 i p q l r nd' x hn hk hx hp =>
    obtain ⟨vn, vp, vl, vq, vin⟩ := v
    rw [hn] at vn
    cases vn
    obtain ⟨a, b, y, hy, ht⟩ := sub hn hk hx
    have hlen : nd.txt.length = x.txt.length + y.txt.length := by rw [ht]; simp
    have vp' : p ≤ nd.txt.length := vp
    exact ⟨b, y, hy, by show p - x.txt.length ≤ _; omega, by omega, vq, fun z hz => vin z (by rw [ht]; simp [hz])⟩
/-! ### the work on a stack of keys ends -/
inductive Halts (s : Sr) (ns : List Nd) : Nat → (Ky → Prop) → List Ky → Prop where
  | done {m : Nat} {A : Ky → Prop} : Halts s ns m A []
  | turn {m : Nat} {A : Ky → Prop} {k : Ky} {st : List Ky} (h1 : A k → Halts s ns m A st) (h2 : ¬ A k → ∀ c, Kid s ns k c → ¬ A c → Halts s ns m A (c :: k :: st))
    (h3 : ¬ A k → ∀ A' : Ky → Prop, (∀ x, A' x ↔ A x ∨ x = k) → Halts s ns m A' st) : Halts s ns (m + 1) A (k :: st)
theorem Halts.mono {s : Sr} {ns : List Nd} {m : Nat} {A : Ky → Prop} {st : List Ky} (h : Halts s ns m A st) : ∀ {m' : Nat}, m ≤ m' → Halts s ns m' A st := by
  induction h with
  | done => exact fun _ => .done
  | turn h1 h2 h3 i1 i2 i3 =>
    intro m' hm
    obtain ⟨n, rfl⟩ : ∃ n, m' = n + 1 := ⟨m' - 1, by omega⟩
    exact .turn (fun a => i1 a (by omega)) (fun a c k n' => i2 a c k n' (by omega)) (fun a A' e => i3 a A' e (by omega))
theorem halts_key {s : Sr} (hs : SrOk s) {ns : List Nd} (hns : NsOk ns) : ∀ (n : Nat) (k : Ky) (nd : Nd), k.1 ≤ n → VKy s ns k nd → ∀ (N : Nat) (A : Ky → Prop) (st : List Ky),
    (∀ A' : Ky → Prop, (∀ x, A x → A' x) → A' k → Halts s ns N A' st) → Halts s ns (N + 4 ^ (n + 1)) A (k :: st) := by
  intro n
  induction n with
  | zero =>
    intro k nd hk v N A st h
    refine (Halts.turn (m := N) (fun a => h A (fun _ x => x) a) (fun a c hc => ?_) (fun a A' e => h A' (fun x hx => (e x).mpr (.inl hx)) ((e k).mpr (.inr rfl)))).mono (by omega)
    have := (hc.ok hs hns v).1
    omega
  | succ n ih =>
    intro k nd hk v N A st h
    have e4 : (4 : Nat) ^ (n + 1 + 1) = 4 * 4 ^ (n + 1) := by rw [Nat.pow_succ]; omega
    have e1 : 1 ≤ (4 : Nat) ^ (n + 1) := Nat.pos_of_ne_zero (fun h => by simp at h)
    refine (Halts.turn (m := N + 1 + 4 ^ (n + 1) + 1 + 4 ^ (n + 1)) (fun a => (h A (fun _ x => x) a).mono (by omega)) (fun a c hc na => ?_) (fun a A' e => (h A' (fun x hx => (e x).mpr (.inl hx)) ((e k).mpr (.inr rfl))).mono (by omega))).mono (by omega)
    obtain ⟨hlt, nd1, v1⟩ := hc.ok hs hns v
    refine ih c nd1 (by omega) v1 _ A _ fun A1 s1 a1 => ?_
    refine Halts.turn (m := N + 1 + 4 ^ (n + 1)) (fun a => (h A1 s1 a).mono (by omega)) (fun a' c' hc' na' => ?_) (fun a' A' e => (h A' (fun x hx => (e x).mpr (.inl (s1 x hx))) ((e k).mpr (.inr rfl))).mono (by omega))
    obtain ⟨hlt', nd2, v2⟩ := hc'.ok hs hns v
    refine ih c' nd2 (by omega) v2 _ A1 _ fun A2 s2 a2 => ?_
    refine Halts.turn (m := N) (fun a => h A2 (fun x hx => s2 x (s1 x hx)) a) (fun a'' c'' hc'' na'' => ?_) (fun a'' A' e => h A' (fun x hx => (e x).mpr (.inl (s2 x (s1 x hx)))) ((e k).mpr (.inr rfl)))
    have hne : c ≠ c' := fun z => na' (by rw [← z]; exact a1)
    rcases hc.two hc' hc'' hne with rfl | rfl
    · exact absurd (s2 _ a1) na''
    · exact absurd a2 na''
section
variable {K : PySem.W.Frag} {mg : Str → Option Value}
def sp_Node_init (K : PySem.W.Frag) : Sp := fun vs H Q E => ∃ x dx ls l r s e, vs = [.ref x, ls, l, r, s, e] ∧ H x = some (.ins (cNode K) dx []) ∧ ∀ H', Ml x H H' → H' x = some (oNode K dx ls l r s e) → Q .non H'
theorem rd_Node_init (T : Tx K mg) : ∀ vs H Q E, sp_Node_init K vs H Q E → t_Node_init K { nx := fun _ H' => Q .non H', rt := Q } (start N_Node_init vs) H := by
  intro vs H Q E ⟨x, dx, ls, l, r, s, e, hv, h0, q⟩
  subst hv
  show t_Node_init K { nx := fun _ H' => Q .non H', rt := Q } [some (.ref x), some ls, some l, some r, some s, some e] H
  unfold t_Node_init
  walk_at "ws"
  intro H1 m1 h1
  walk_at "ws"
  intro H2 m2 h2
  walk_at "ws"
  intro H3 m3 h3
  walk_at "ws"
  intro H4 m4 h4
  walk_at "ws"
  intro H5 m5 h5
  exact q H5 (by walk_at "ml") h5
def sp_Sums_init (K : PySem.W.Frag) : Sp := fun vs H Q E => ∃ x dx c n t, vs = [.ref x, c, n, t] ∧ H x = some (.ins (cSums K) dx []) ∧ ∀ H', Ml x H H' → H' x = some (oSums K dx c n t) → Q .non H'
theorem rd_Sums_init (T : Tx K mg) : ∀ vs H Q E, sp_Sums_init K vs H Q E → t_Sums_init K { nx := fun _ H' => Q .non H', rt := Q } (start N_Sums_init vs) H := by
  intro vs H Q E ⟨x, dx, c, n, t, hv, h0, q⟩
  subst hv
  show t_Sums_init K { nx := fun _ H' => Q .non H', rt := Q } [some (.ref x), some c, some n, some t] H
  unfold t_Sums_init
  walk_at "ws"
  intro H1 m1 h1
  walk_at "ws"
  intro H2 m2 h2
  walk_at "ws"
  intro H3 m3 h3
  exact q H3 (by walk_at "ml") h3
/-- Sums(c, n, t) -/
theorem mk_sums {H : Hp} {Q : VK} {E : XK} {c n t : V} (q : ∀ x dx H', H x = none → Ex H H' → H' x = some (oSums K dx c n t) → Q (.ref x) H') : MkV (cSums K) (sp_Sums_init K) E Q [c, n, t] H := by
  refine w_mkv fun x dx H2 hx e2 h2 => ⟨x, dx, c, n, t, rfl, h2, fun H3 m3 h3 => ⟨rfl, q x dx H3 hx (ml_new hx e2 m3) h3⟩⟩
theorem mk_node {H : Hp} {Q : VK} {E : XK} {ls l r s e : V} (q : ∀ x dx H', H x = none → Ex H H' → H' x = some (oNode K dx ls l r s e) → Q (.ref x) H') : MkV (cNode K) (sp_Node_init K) E Q [ls, l, r, s, e] H := by
  refine w_mkv fun x dx H2 hx e2 h2 => ⟨x, dx, ls, l, r, s, e, rfl, h2, fun H3 m3 h3 => ⟨rfl, q x dx H3 hx (ml_new hx e2 m3) h3⟩⟩
def sp_Sums_plus (K : PySem.W.Frag) : Sp := fun vs H Q E => ∃ x y c n t c' n' t', vs = [.ref x, .ref y] ∧ SumsAt K H x c n t ∧ SumsAt K H y c' n' t' ∧ ∀ z H', H z = none → Ex H H' → SumsAt K H' z (c + c') (n + n') (t + t') → Q (.ref z) H'
theorem rd_Sums_plus (T : Tx K mg) : ∀ vs H Q E, sp_Sums_plus K vs H Q E → t_Sums_plus K (sp_Sums_init K) { nx := fun _ H' => Q .non H', rt := Q } (start N_Sums_plus vs) H := by
  intro vs H Q E ⟨x, y, c, n, t, c', n', t', hv, ⟨dx, h0⟩, ⟨dy, h1⟩, q⟩
  subst hv
  show t_Sums_plus K (sp_Sums_init K) { nx := fun _ H' => Q .non H', rt := Q } [some (.ref x), some (.ref y)] H
  unfold t_Sums_plus
  walk_at "ws"
  refine mk_sums fun z dz H' hz e h => q z H' hz e ⟨dz, ?_⟩
  rw [h]
  simp
def sp_Nodes_init (K : PySem.W.Frag) : Sp := fun vs H Q E => ∃ x dx, vs = [.ref x, .int 8] ∧ H x = some (.ins (cNodes K) dx []) ∧ ∀ r H', H r = none → Ml x H H' → H' x = some (oNodes K dx r) → H' r = some (.lst []) → Q .non H'
theorem rd_Nodes_init (T : Tx K mg) : ∀ vs H Q E, sp_Nodes_init K vs H Q E → t_Nodes_init K { nx := fun _ H' => Q .non H', rt := Q } (start N_Nodes_init vs) H := by
  intro vs H Q E ⟨x, dx, hv, h0, q⟩
  subst hv
  show t_Nodes_init K { nx := fun _ H' => Q .non H', rt := Q } [some (.ref x), some (.int 8)] H
  unfold t_Nodes_init
  walk_at "ws"
  intro H1 m1 h1
  walk_at "ws"
  intro r H2 n2 e2 h2
  walk_at "ws"
  intro H3 m3 h3
  have hr : H r = none := by
    cases hh : H r with
    | none => rfl
    | some o =>
      by_cases z : r = x
      · subst z; rw [h1] at n2; cases n2
      · have := m1 r o z hh; rw [n2] at this; cases this
  exact q r H3 hr (by walk_at "ml") h3 (by walk_at "hp")
def NodesAt (K : PySem.W.Frag) (H : Hp) (n r : Addr) (ns : List Nd) : Prop := (∃ dx, H n = some (oNodes K dx r)) ∧ RowsAt K H r ns
def sp_Nodes_leaf (K : PySem.W.Frag) : Sp := fun vs H Q E => ∃ n r ns l, vs = [.ref n, .str (S l)] ∧ NodesAt K H n r ns ∧ l.length ≤ 100 ∧ ns.length < 50000 ∧ ∀ H', Ml r H H' → NodesAt K H' n r (ns ++ [⟨l, none⟩]) → Q (.int (ns.length : Int)) H'
theorem rd_Nodes_leaf (T : Tx K mg) : ∀ vs H Q E, sp_Nodes_leaf K vs H Q E → t_Nodes_leaf K (sp_Node_init K) { nx := fun _ H' => Q .non H', rt := Q } (start N_Nodes_leaf vs) H := by
  intro vs H Q E ⟨n, r, ns, l, hv, ⟨⟨dx, hn⟩, hR⟩, hl, hz, q⟩
  subst hv
  show t_Nodes_leaf K (sp_Node_init K) { nx := fun _ H' => Q .non H', rt := Q } [some (.ref n), some (.str (S l))] H
  obtain ⟨xs, hr, hxl⟩ := hR.len
  unfold t_Nodes_leaf
  walk_at "ws"
  refine w_slSe (by omega) (cut_take (n := 8) rfl) ?_
  walk_at "ws"
  refine w_slSe (by omega) (cut_last (n := 8) (by omega) (by omega)) ?_
  walk_at "ws"
  intro e H1 ne e1 he
  walk_at "ws"
  refine mk_node fun a da H2 na e2 ha => ?_
  walk_at "ws"
  refine w_append (xs := xs) (by walk_at "hp") (by omega) fun H3 m3 h3 => ?_
  have R3 : RowsAt K H3 r (ns ++ [⟨l, none⟩]) := hR.put hr (ex_tr e2 e1) m3 (hR.1.leaf hl) ⟨da, e, ha, by walk_at "hp"⟩ h3
  walk_at "ws"
  have hh : ((xs ++ [V.ref a]).length : Int) - 1 = (ns.length : Int) := by simp; omega
  rw [hh]
  exact q H3 (by walk_at "ml") ⟨⟨dx, by walk_at "hp"⟩, R3⟩
theorem take_app8 (a b : List Nat) : (a.take 8 ++ b.take 8).take 8 = (a ++ b).take 8 := by
  rw [List.take_append, List.take_append]
  simp only [List.take_take, List.length_take]
  congr 1
  rcases Nat.le_total 8 a.length with h | h
  · simp [Nat.min_eq_left h, show 8 - a.length = 0 by omega]
  · rw [Nat.min_eq_right h, Nat.min_eq_left (by omega)]
theorem last_app8 (a b : List Nat) : last8 (last8 a ++ last8 b) = last8 (a ++ b) := by
  unfold last8
  rw [List.drop_append, List.drop_append]
  simp only [List.length_append, List.length_drop, List.drop_drop]
  rcases Nat.le_total 8 b.length with h | h
  · rw [List.drop_of_length_le (l := a) (by omega), List.drop_of_length_le (l := a) (by omega)]
    congr 1
    congr 1
    omega
  · rcases Nat.le_total 8 a.length with h2 | h2
    · congr 1
      · congr 1; omega
      · congr 1; omega
    · congr 1
      · congr 1; omega
      · congr 1; omega
def sp_Nodes_pair (K : PySem.W.Frag) : Sp := fun vs H Q E => ∃ n r ns i j x y, vs = [.ref n, .int (i : Nat), .int (j : Nat)] ∧ NodesAt K H n r ns ∧ ns[i]? = some x ∧ ns[j]? = some y ∧ ns.length < 50000 ∧ ∀ H', Ml r H H' → NodesAt K H' n r (ns ++ [⟨x.txt ++ y.txt, some (i, j)⟩]) → Q (.int (ns.length : Int)) H'
theorem rd_Nodes_pair (T : Tx K mg) : ∀ vs H Q E, sp_Nodes_pair K vs H Q E → t_Nodes_pair K (sp_Node_init K) { nx := fun _ H' => Q .non H', rt := Q } (start N_Nodes_pair vs) H := by
  intro vs H Q E ⟨n, r, ns, i, j, x, y, hv, ⟨⟨dx, hn⟩, hR⟩, hi, hj, hz, q⟩
  subst hv
  show t_Nodes_pair K (sp_Node_init K) { nx := fun _ H' => Q .non H', rt := Q } [some (.ref n), some (.int i), some (.int j), none, none, none, none] H
  obtain ⟨xs, a, hr, hxl, hxa, hA⟩ := hR.get hi
  obtain ⟨xs', b, hr', _, hxb, hB⟩ := hR.get hj
  rw [hr] at hr'
  cases hr'
  obtain ⟨da, ea, ha, hea⟩ := id hA
  obtain ⟨db, eb, hb, heb⟩ := id hB
  unfold t_Nodes_pair
  walk_at "ws"
  refine w_ixL (by walk_at "sq") hxa ?_
  walk_at "ws"
  refine w_ixL (by walk_at "sq") hxb ?_
  walk_at "ws"
  refine w_addS (by simp; omega) ?_
  walk_at "ws"
  refine w_slSe (by simp; omega) (cut_take (n := 8) rfl) ?_
  walk_at "ws"
  refine w_addS (by simp [last8]; omega) ?_
  walk_at "ws"
  refine w_slSe (by simp [last8]; omega) (cut_last (n := 8) (by omega) (by omega)) ?_
  walk_at "ws"
  intro e H1 ne e1 he
  walk_at "ws"
  refine mk_node fun c dc H2 nc e2 hc => ?_
  walk_at "ws"
  refine w_append (xs := xs) (by walk_at "hp") (by omega) fun H3 m3 h3 => ?_
  have R3 : RowsAt K H3 r (ns ++ [⟨x.txt ++ y.txt, some (i, j)⟩]) := hR.put hr (ex_tr e2 e1) m3 (hR.1.pair hi hj) ⟨dc, e, by rw [hc]; simp [Nd.ls, Nd.l, Nd.r], by
    rw [e2 _ _ he, take_app8]
    show some (HO.tup [_, .str (S (last8 (last8 x.txt ++ last8 y.txt)))]) = _
    rw [last_app8]⟩ h3
  walk_at "ws"
  have hh : ((xs ++ [V.ref c]).length : Int) - 1 = (ns.length : Int) := by simp; omega
  rw [hh]
  exact q H3 (by walk_at "ml") ⟨⟨dx, by walk_at "hp"⟩, R3⟩
end
section
variable {K : PySem.W.Frag} {mg : Str → Option Value}
/-- all but three stays -/
def M3 (x r n : Addr) (H H' : Hp) : Prop := ∀ b o, b ≠ x → b ≠ r → b ≠ n → H b = some o → H' b = some o
/-- a turn under way: its reads, its numbers, where it goes -/
structure TuAt (K : PySem.W.Frag) (H : Hp) (x dx r n : Addr) (rs ns : List V) (sl st : V) : Prop where
  hx : H x = some (oTurn K dx r n sl st)
  hr : H r = some (.lst rs)
  hn : H n = some (.lst ns)
  ne : r ≠ n
def sp_WindowTurn_does (K : PySem.W.Frag) : Sp := fun vs H Q E => ∃ x dx r n rs ns sl st a s t tv view d, vs = [.ref x, .ref a, tv, .str (S view)] ∧ TuAt K H x dx r n rs ns sl st ∧ SrAt K H a s ∧ TrAt s.ls.length H t tv ∧ OkT s.ls.length s.m s.ts.length t d ∧
  s.m ≤ view.length ∧ (∀ c ∈ view, c ∈ s.ls) ∧ view.length ≤ 1000 ∧ rs.length ≤ 1000 ∧ ns.length ≤ 1000 ∧
  ∀ v H', M3 x r n H H' → (match t with
    | .go s' q' => v = .non ∧ TuAt K H' x dx r n rs ns (.int (s' : Int)) (.int (q' : Int))
    | .tell j t' => TrAt s.ls.length H' t' v ∧ TuAt K H' x dx r n rs (ns ++ [.int (j : Int)]) sl st
    | .read p f => match view[p]? with
      | none => v = .non ∧ TuAt K H' x dx r n rs ns sl st
      | some c => TrAt s.ls.length H' (f (ixOf s.ls c)) v ∧ ∃ y, TuAt K H' x dx r n (rs ++ [y]) ns sl st) → Q v H'
theorem M3.ex {x r n : Addr} {H H' : Hp} (e : Ex H H') : M3 x r n H H' := fun b o _ _ _ h => e b o h
theorem rd_WindowTurn_does (T : Tx K mg) : ∀ vs H Q E, sp_WindowTurn_does K vs H Q E → t_WindowTurn_does K { nx := fun _ H' => Q .non H', rt := Q } (start N_WindowTurn_does vs) H := by
  intro vs H Q E ⟨x, dx, r, n, rs, ns, sl, st, a, s, t, tv, view, d, hv, ⟨hx, hr, hn, hne⟩, hS, hT, hok, hm, hc, hl, hl2, hl3, q⟩
  subst hv
  show t_WindowTurn_does K { nx := fun _ H' => Q .non H', rt := Q } [some (.ref x), some (.ref a), some tv, some (.str (S view)), none] H
  unfold t_WindowTurn_does
  cases t with
  | go s' q' =>
    obtain ⟨ta, rfl, hta⟩ := hT
    walk_at "ws"
    intro p H1 n1 e1 h1
    walk_at "ws"
    intro H2 m2 h2
    walk_at "ws"
    intro H3 m3 h3
    walk_at "ws"
    refine q .non H3 (fun b o h1 _ _ h => m3 b o h1 (m2 b o h1 (e1 b o h))) ⟨rfl, h3, (by walk_at "hp"), (by walk_at "hp"), hne⟩
  | tell j t' =>
    obtain ⟨ta, w, rfl, hta, hw⟩ := hT
    walk_at "ws"
    refine w_append (xs := ns) hn (by omega) fun H1 m1 h1 => ?_
    have h1t := (by walk_at "hp")
    have u : ExT H H1 := ml_t m1 hn (fun _ z => nomatch z)
    walk_at "ws"
    refine q w H1 (fun b o _ _ h3 h => m1 b o h3 h) ⟨hw.up u, (by walk_at "hp"), m1 r _ hne hr, h1, hne⟩
  | read p f =>
    obtain ⟨ta, c, wl, rfl, hta, hc2, hws, hk⟩ := hT
    obtain ⟨d', hd, hpm, hch⟩ := hok
    walk_at "ws"
    refine if_c (fun hp => ?_) (fun hp => ?_)
    · have hp : p = view.length := by have := of_decide_eq_true hp; omega
      walk_at "ws"
      refine q .non H (fun b o _ _ _ h => h) ?_
      have e : view[p]? = none := by rw [hp]; simp
      simp only [e]
      exact ⟨trivial, hx, hr, hn, hne⟩
    · have hp : p ≠ view.length := by have := of_decide_eq_false hp; omega
      have hlt : p < view.length := by omega
      have e : view[p]? = some view[p] := by simp [hlt]
      have hin : view[p] ∈ s.ls := hc _ (List.getElem_mem hlt)
      have hix := (ixOf_ok hin).1
      walk_at "ws"
      refine w_ixSI (n := p) rfl (by omega) e ?_
      walk_at "ws"
      intro y H1 n1 e1 h1
      walk_at "ws"
      refine w_append (xs := rs) (by walk_at "hp") (by omega) fun H2 m2 h2 => ?_
      have u : ExU H1 H2 := ExU.ml m2 (e1 _ _ hr)
      have hS2 := (hS.up (ExU.of e1)).up u
      have hta2 := u.t _ _ (e1 _ _ hta)
      have hc3 := u.t _ _ (e1 _ _ hc2)
      obtain ⟨_, dS, pS, tot, vS, hS1, _⟩ := id hS2
      walk_at "ws"
      refine w_sidx hin ?_
      have hw : wl[ixOf s.ls view[p]]? = some (wl[ixOf s.ls view[p]]'(by omega)) := by simp [hws, hix]
      refine w_ixT (Evl.st_of hc3) hw ?_
      walk_at "ws"
      refine q _ H2 (fun b o _ h3 _ h => m2 b o h3 (e1 b o h)) ?_
      simp only [e]
      exact ⟨((hk _ _ hix hw).up (Ex.t e1)).up u.t, .ref y, m2 x _ (ne_kind (e1 _ _ hx) (e1 _ _ hr) (fun z => nomatch z)) (e1 _ _ hx), h2, m2 n _ (fun z => hne z.symm) (e1 _ _ hn), hne⟩
def sp_WindowTurn_init (K : PySem.W.Frag) : Sp := fun vs H Q E => ∃ x dx a s q t view, vs = [.ref x, .ref a, .int (q : Nat), .str (S view)] ∧ H x = some (.ins (cWindowTurn K) dx []) ∧ SrAt K H a s ∧ s.ts[q]? = some t ∧
  s.m ≤ view.length ∧ (∀ c ∈ view, c ∈ s.ls) ∧ view.length ≤ 1000 ∧ ∀ H', Ml x H H' → TurnAt K H H' x (run s.ls view t) → Q .non H'
theorem rd_WindowTurn_init (T : Tx K mg) : ∀ vs H Q E, sp_WindowTurn_init K vs H Q E → t_WindowTurn_init K (sp_WindowTurn_does K) { nx := fun _ H' => Q .non H', rt := Q } (start N_WindowTurn_init vs) H := by
  intro vs H Q E ⟨x, dx, a, s, qq, t, view, hv, hx, hS, ht, hm, hc, hl, q⟩
  subst hv
  show t_WindowTurn_init K (sp_WindowTurn_does K) { nx := fun _ H' => Q .non H', rt := Q } [some (.ref x), some (.ref a), some (.int qq), some (.str (S view)), none] H
  unfold t_WindowTurn_init
  walk_at "ws"
  intro r H1 n1 e1 h1
  walk_at "ws"
  intro H2 m2 h2
  walk_at "ws"
  intro n H3 n3 e3 h3
  walk_at "ws"
  intro H4 m4 h4
  walk_at "ws"
  intro H5 m5 h5
  walk_at "ws"
  intro H6 m6 h6
  have hr6 : H6 r = some (.lst []) := (by walk_at "hp")
  have hn6 : H6 n = some (.lst []) := (by walk_at "hp")
  have M6 : Ml x H H6 := (by walk_at "ml")
  have hS6 : SrAt K H6 a s := hS.mlx M6 hx
  obtain ⟨dS, pS, tot, vS, tv, hA, hp, hvl, hvi, hT, hok⟩ := hS6.get ht
  have hne : r ≠ n := ne_new (show H2 r = some (.lst []) from (by walk_at "hp")) n3
  have nfr : H r = none := by
    cases hh : H r with
    | none => rfl
    | some o => exact absurd n1 (by rw [hh]; exact fun z => nomatch z)
  have nfn : H n = none := by
    cases hh : H n with
    | none => rfl
    | some o =>
      by_cases z : n = x
      · subst z; rw [h2] at n3; cases n3
      · have := m2 n o z (e1 _ _ hh); rw [n3] at this; cases this
  walk_at "ws"
  refine w_ixT (Evl.st_of hp) hvi ?_
  walk_at "ws"
  refine w_while (fun m σ H' => ∃ (tv : V) (rs ns : List V) (sl st : V), σ = [some (.ref x), some (.ref a), some (.int qq), some (.str (S view)), some tv] ∧ Ml x H H' ∧ TuAt K H' x dx r n rs ns sl st ∧ rs.length + m ≤ 13 ∧ ns.length + m ≤ 13 ∧
    ((tv = .non ∧ rs.length = (run s.ls view t).cost ∧ ns = (run s.ls view t).tells.map (fun (j : Nat) => V.int (j : Int)) ∧ sl = (outV (run s.ls view t).out).1 ∧ st = (outV (run s.ls view t).out).2) ∨
      ∃ t', TrAt s.ls.length H' t' tv ∧ OkT s.ls.length s.m s.ts.length t' m ∧ sl = .non ∧ st = .non ∧ rs.length + (run s.ls view t').cost = (run s.ls view t).cost ∧ ns ++ (run s.ls view t').tells.map (fun (j : Nat) => V.int (j : Int)) = (run s.ls view t).tells.map (fun (j : Nat) => V.int (j : Int)) ∧ (run s.ls view t').out = (run s.ls view t).out)) 12
    ⟨tv, [], [], .non, .non, rfl, M6, ⟨h6, hr6, hn6, hne⟩, by simp, by simp, .inr ⟨t, hT, hok, rfl, rfl, by simp, by simp, rfl⟩⟩ ?_
  rintro m σ H7 ⟨tv', rs, ns, sl, st, rfl, M7, TA, hrs, hns, hh⟩
  walk_at "ws"
  rcases hh with ⟨rfl, h1', h2', h3', h4'⟩ | ⟨t', hT', hok', rfl, rfl, h1', h2', h3'⟩
  · walk_at "ws"
    refine whb_c (fun z => nomatch z) (fun _ => ?_)
    walk_at "ws"
    obtain ⟨a1, a2, a3, a4⟩ := TA
    refine q H7 M7 ⟨dx, r, n, rs, nfr, nfn, ?_, a2, h1', ?_⟩
    · rw [a1, h3', h4']
    · rw [a3, h2']
  · have hnn : ∃ b, tv' = .ref b := by
      cases t' with
      | go s' q' => obtain ⟨b, e, _⟩ := hT'; exact ⟨b, e⟩
      | tell j t'' => obtain ⟨b, _, e, _⟩ := hT'; exact ⟨b, e⟩
      | read p f => obtain ⟨b, _, _, e, _⟩ := hT'; exact ⟨b, e⟩
    obtain ⟨b, rfl⟩ := hnn
    walk_at "ws"
    refine whb_c (fun _ => ?_) (fun z => nomatch z)
    have a1 := TA.hx
    walk_at "ws"
    have hpos := hok'.pos
    refine ⟨x, dx, r, n, rs, ns, .non, .non, a, s, t', .ref b, view, m, rfl, TA, hS.mlx M7 hx, hT', hok', hm, hc, hl, by omega, by omega, fun v H8 m8 h8 => ?_⟩
    have M8 : Ml x H H8 := fun c o hcx hco => m8 c o hcx (fun z => by rw [z, nfr] at hco; cases hco) (fun z => by rw [z, nfn] at hco; cases hco) (M7 c o hcx hco)
    walk_at "ws"
    cases t' with
    | go s' q' =>
      obtain ⟨rfl, TB⟩ := h8
      refine got ⟨m - 1, by omega, .non, rs, ns, _, _, rfl, M8, TB, by omega, by omega, .inl ⟨rfl, ?_, ?_, ?_, ?_⟩⟩
      · simpa [run] using h1'
      · simpa [run] using h2'
      · rw [← h3']; rfl
      · rw [← h3']; rfl
    | tell j t'' =>
      obtain ⟨hv, TB⟩ := h8
      obtain ⟨d', hd, _, hok2⟩ := hok'
      refine got ⟨d', by omega, v, rs, ns ++ [.int (j : Int)], _, _, rfl, M8, TB, by omega, by simp; omega, .inr ⟨t'', hv, hok2, rfl, rfl, h1', ?_, h3'⟩⟩
      rw [← h2']
      simp [run]
    | read p f =>
      obtain ⟨d', hd, hpm, hch⟩ := hok'
      cases e : view[p]? with
      | none =>
        simp only [e] at h8
        obtain ⟨rfl, TB⟩ := h8
        simp only [run, e] at h1' h2' h3'
        refine got ⟨m - 1, by omega, .non, rs, ns, _, _, rfl, M8, TB, by omega, by omega, .inl ⟨rfl, by simpa using h1', by simpa using h2', ?_, ?_⟩⟩
        · rw [← h3']; rfl
        · rw [← h3']; rfl
      | some c =>
        simp only [e] at h8
        obtain ⟨hv, y, TB⟩ := h8
        simp only [run, e] at h1' h2' h3'
        have hin : c ∈ s.ls := hc c (List.mem_of_getElem? e)
        refine got ⟨d', by omega, v, rs ++ [y], ns, _, _, rfl, M8, TB, by simp; omega, by omega, .inr ⟨_, hv, hch _ (ixOf_ok hin).1, rfl, rfl, by simp; omega, h2', h3'⟩⟩
/-- WindowTurn(s, q, view) -/
theorem mk_turn {H : Hp} {Q : VK} {E : XK} {a : Addr} {s : Sr} {qq : Nat} {t : Tr} {view : List Nat} (hS : SrAt K H a s) (ht : s.ts[qq]? = some t) (hm : s.m ≤ view.length) (hc : ∀ c ∈ view, c ∈ s.ls) (hl : view.length ≤ 1000)
    (q : ∀ x H', H x = none → Ex H H' → TurnAt K H H' x (run s.ls view t) → Q (.ref x) H') : MkV (cWindowTurn K) (sp_WindowTurn_init K) E Q [.ref a, .int (qq : Nat), .str (S view)] H := by
  refine w_mkv fun x dx H2 hx e2 h2 => ⟨x, dx, a, s, qq, t, view, rfl, h2, hS.up (ExU.of e2), ht, hm, hc, hl, fun H3 m3 ⟨dx, r, n, rs, f1, f2, f3⟩ => ⟨rfl, q x H3 hx (ml_new hx e2 m3) ⟨dx, r, n, rs, nn_back e2 f1, nn_back e2 f2, f3⟩⟩⟩
end
section
variable {K : PySem.W.Frag} {mg : Str → Option Value}
theorem repS_two (t : List Nat) (n : Nat) : repS (t ++ t) n = repS t (2 * n) := by
  unfold repS
  induction n with
  | zero => rfl
  | succ n ih =>
    rw [show 2 * (n + 1) = 2 * n + 1 + 1 by omega, List.replicate_succ, List.replicate_succ, List.replicate_succ, List.flatten_cons, List.flatten_cons, List.flatten_cons, ih]
    simp
theorem repS_add (t : List Nat) (m n : Nat) : repS t (m + n) = repS t m ++ repS t n := by
  unfold repS
  rw [← List.replicate_append_replicate, List.flatten_append]
theorem repS_zero (t : List Nat) : repS t 0 = [] := rfl
def sp_Nodes_often (K : PySem.W.Frag) : Sp := fun vs H Q E => ∃ n r ns i c x, vs = [.ref n, .int (i : Nat), .int (c : Nat)] ∧ NodesAt K H n r ns ∧ ns[i]? = some x ∧ 1 ≤ c ∧ c ≤ 9 ∧ ns.length < 40000 ∧
  ∀ H' more j y, Ml r H H' → NodesAt K H' n r (ns ++ more) → more.length ≤ 18 → (ns ++ more)[j]? = some y → y.txt = repS x.txt c → Q (.int (j : Nat)) H'
/-- found: the text of what is found so far -/
def OfV (ns : List Nd) (v : V) (t : List Nat) : Prop := (v = .non ∧ t = []) ∨ ∃ (j : Nat) (y : Nd), v = .int (j : Int) ∧ ns[j]? = some y ∧ y.txt = t
theorem rd_Nodes_often (T : Tx K mg) : ∀ vs H Q E, sp_Nodes_often K vs H Q E → t_Nodes_often K (sp_Nodes_pair K) { nx := fun _ H' => Q .non H', rt := Q } (start N_Nodes_often vs) H := by
  intro vs H Q E ⟨n, r, ns, i, c, x, hv, hN, hi, h1, h9, hz, q⟩
  subst hv
  show t_Nodes_often K (sp_Nodes_pair K) { nx := fun _ H' => Q .non H', rt := Q } [some (.ref n), some (.int i), some (.int c), none, none] H
  unfold t_Nodes_often
  walk_at "ws"
  refine w_while (fun left σ H' => ∃ (f : V) (i' : Nat) (more : List Nd) (z : Nd) (tf : List Nat), σ = [some (.ref n), some (.int i'), some (.int c), some f, some (.int (left : Int))] ∧ Ml r H H' ∧ NodesAt K H' n r (ns ++ more) ∧ more.length + 2 * left ≤ 2 * c ∧ left ≤ 9 ∧
    (ns ++ more)[i']? = some z ∧ OfV (ns ++ more) f tf ∧ tf ++ repS z.txt left = repS x.txt c ∧ (left = 0 → f ≠ .non)) c ⟨.non, i, [], x, [], by simp, ml_refl, by simpa using hN, by simp, h9, by simpa using hi, .inl ⟨rfl, rfl⟩, by simp, fun e => by omega⟩ ?_
  rintro left σ H1 ⟨f, i', more, z, tf, rfl, m1, hN1, hm, hl9, hz1, hf, ht, hne⟩
  walk_at "ws"
  refine whb_c (fun hpos => ?_) (fun hneg => ?_)
  · have hpos : 0 < left := by have := of_decide_eq_true hpos; omega
    refine w_cut (fun σ' H2 => ∃ (f2 : V) (more2 : List Nd) (tf2 : List Nat), σ' = [some (.ref n), some (.int i'), some (.int c), some f2, some (.int (left : Int))] ∧ Ml r H H2 ∧ NodesAt K H2 n r (ns ++ more2) ∧ more2.length ≤ more.length + 1 ∧
      (ns ++ more2)[i']? = some z ∧ OfV (ns ++ more2) f2 tf2 ∧ tf2 ++ repS z.txt (2 * (left / 2)) = repS x.txt c ∧ (left / 2 = 0 → f2 ≠ .non)) ?_ ?_
    · rintro σ' H2 ⟨f2, more2, tf2, rfl, m2, hN2, hm2, hz2, hf2, ht2, hne2⟩
      walk_at "ws"
      refine w_divI ⟨by omega, by omega⟩ ?_
      have e2 : (left : Int) / 2 = ((left / 2 : Nat) : Int) := by omega
      rw [e2]
      walk_at "ws"
      refine if_c (fun hp => ?_) (fun hp => ?_)
      · have hp : 0 < left / 2 := by have := of_decide_eq_true hp; omega
        walk_at "ws"
        obtain ⟨⟨dx, hn2⟩, hR2⟩ := id hN2
        walk_at "ws"
        refine ⟨n, r, ns ++ more2, i', i', z, z, rfl, hN2, hz2, hz2, by simp; omega, fun H3 m3 hN3 => ?_⟩
        walk_at "ws"
        have hl : (ns ++ more2).length = ns.length + more2.length := List.length_append
        refine got ⟨left / 2, by omega, f2, (ns ++ more2).length, more2 ++ [⟨z.txt ++ z.txt, some (i', i')⟩], ⟨z.txt ++ z.txt, some (i', i')⟩, tf2, rfl, (by walk_at "ml"), by rw [← List.append_assoc]; exact hN3, by simp; omega, by omega, ?_, ?_, ?_, hne2⟩
        · rw [← List.append_assoc, List.getElem?_append_right (Nat.le_refl _)]; simp
        · rcases hf2 with h | ⟨j, y, h1, h2, h3⟩
          · exact .inl h
          · exact .inr ⟨j, y, h1, by rw [← List.append_assoc, List.getElem?_append_left (List.getElem?_eq_some_iff.mp h2).1]; exact h2, h3⟩
        · rw [repS_two]; exact ht2
      · have hp : left / 2 = 0 := by have := of_decide_eq_false hp; omega
        walk_at "ws"
        refine got ⟨left / 2, by omega, f2, i', more2, z, tf2, rfl, m2, hN2, by omega, by omega, hz2, hf2, ?_, hne2⟩
        rw [hp] at ht2 ⊢
        exact ht2
    · intro N hN'
      walk_at "ws"
      refine if_c (fun hp => ?_) (fun hp => ?_)
      · have hp : left % 2 = 1 := by have := of_decide_eq_true hp; omega
        have hs : repS z.txt left = z.txt ++ repS z.txt (2 * (left / 2)) := by
          have e : left = 1 + 2 * (left / 2) := by omega
          conv => lhs; rw [e]
          rw [repS_add, repS_one]
        rcases hf with ⟨rfl, rfl⟩ | ⟨j, y, rfl, hy, hyt⟩
        · walk_at "ws"
          refine hN' _ _ ⟨_, more, z.txt, rfl, m1, hN1, by omega, hz1, .inr ⟨i', z, rfl, hz1, rfl⟩, ?_, fun _ h => nomatch h⟩
          rw [← hs]; exact ht
        · walk_at "ws"
          obtain ⟨⟨dx, hn1⟩, hR1⟩ := id hN1
          walk_at "ws"
          refine ⟨n, r, ns ++ more, j, i', y, z, rfl, hN1, hy, hz1, by simp; omega, fun H3 m3 hN3 => ?_⟩
          walk_at "ws"
          have hl : (ns ++ more).length = ns.length + more.length := List.length_append
          refine hN' _ _ ⟨_, more ++ [⟨y.txt ++ z.txt, some (j, i')⟩], y.txt ++ z.txt, rfl, (by walk_at "ml"), by rw [← List.append_assoc]; exact hN3, by simp, ?_, .inr ⟨(ns ++ more).length, ⟨y.txt ++ z.txt, some (j, i')⟩, rfl, ?_, rfl⟩, ?_, fun _ h => nomatch h⟩
          · rw [← List.append_assoc, List.getElem?_append_left (List.getElem?_eq_some_iff.mp hz1).1]; exact hz1
          · rw [← List.append_assoc, List.getElem?_append_right (Nat.le_refl _)]; simp
          · rw [List.append_assoc, ← hs, hyt]; exact ht
      · have hp : left % 2 = 0 := by have := of_decide_eq_false hp; omega
        have e : 2 * (left / 2) = left := by omega
        walk_at "ws"
        exact hN' _ _ ⟨f, more, tf, rfl, m1, hN1, by omega, hz1, hf, by rw [e]; exact ht, fun h => by omega⟩
  · have h0 : left = 0 := by have := of_decide_eq_false hneg; omega
    subst h0
    walk_at "ws"
    rcases hf with ⟨hf, _⟩ | ⟨j, y, hf, hy, htx⟩
    · exact absurd hf (hne rfl)
    · subst hf
      exact q H1 more j y m1 hN1 (by omega) hy (by rw [htx, ← ht]; simp [repS])
end
section
variable {K : PySem.W.Frag} {mg : Str → Option Value}
def sp_Walk_init (K : PySem.W.Frag) : Sp := fun vs H Q E => ∃ x dx a n dn r, vs = [.ref x, .ref a, .ref n] ∧ H x = some (.ins (cWalk K) dx []) ∧ H n = some (oNodes K dn r) ∧
  ∀ kd sd H', H kd = none → H sd = none → kd ≠ sd → Ml x H H' → H' x = some (oWalk K dx a r kd sd) → H' kd = some (.dT []) → H' sd = some (.dT []) → Q .non H'
theorem rd_Walk_init (T : Tx K mg) : ∀ vs H Q E, sp_Walk_init K vs H Q E → t_Walk_init K { nx := fun _ H' => Q .non H', rt := Q } (start N_Walk_init vs) H := by
  intro vs H Q E ⟨x, dx, a, n, dn, r, hv, hx, hn, q⟩
  subst hv
  show t_Walk_init K { nx := fun _ H' => Q .non H', rt := Q } [some (.ref x), some (.ref a), some (.ref n)] H
  have hxn : n ≠ x := ne_ins0 hn hx
  unfold t_Walk_init
  walk_at "ws"
  intro H1 m1 h1
  have hn1 : H1 n = some (oNodes K dn r) := m1 n _ hxn hn
  walk_at "ws"
  intro H2 m2 h2
  walk_at "ws"
  refine w_dnewT fun kd H3 n3 e3 h3 => ?_
  walk_at "ws"
  intro H4 m4 h4
  have k4 : H4 kd = some (.dT []) := (by walk_at "hp")
  walk_at "ws"
  refine w_dnewT fun sd H5 n5 e5 h5 => ?_
  have k5 : H5 kd = some (.dT []) := (by walk_at "hp")
  walk_at "ws"
  intro H6 m6 h6
  have M2 : Ml x H H2 := (by walk_at "ml")
  have M4 : Ml x H H4 := (by walk_at "ml")
  have old : ∀ {b : Addr} {H' : Hp} {u : HO}, Ml x H H' → H' x = some u → H' b = none → H b = none := fun {b H' u} M hu hb => by
    cases hh : H b with
    | none => rfl
    | some o =>
      by_cases z : b = x
      · subst z; rw [hu] at hb; cases hb
      · have := M b o z hh; rw [hb] at this; cases this
  exact q kd sd H6 (old M2 h2 n3) (old M4 h4 n5) (ne_new k4 n5) (by walk_at "ml") h6 (by walk_at "hp") (by walk_at "hp")
/-- a walk's own fields -/
def WalkF (K : PySem.W.Frag) (H : Hp) (w : Addr) (s : Sr) (r kd sd : Addr) : Prop := ∃ dx a, H w = some (oWalk K dx a r kd sd) ∧ SrAt K H a s
theorem WalkF.up {H H' : Hp} {w r kd sd : Addr} {s : Sr} (e : ExU H H') (h : WalkF K H w s r kd sd) : WalkF K H' w s r kd sd := by
  obtain ⟨dx, a, h1, h2⟩ := h
  exact ⟨dx, a, e.i _ _ _ _ h1, h2.up e⟩
theorem dl_done {H : Hp} {l : Addr} {L : List (V × Wn)} (h : H l = some (.lst (L.map Prod.fst))) (hw : ∀ x ∈ L, WnAt (Dl H l) x.1 x.2) : DoneAt H l (L.map Prod.snd) := ⟨L, h, rfl, fun x hx => (hw x hx).up dl_ex⟩
def sp_Walk_turns (K : PySem.W.Frag) : Sp := fun vs H Q E => ∃ w s r kd sd X p q, vs = [.ref w, .str (S (X.drop p)), .int (p : Nat), .int (q : Nat), .int (p : Nat), .int ((X.length : Nat) : Int)] ∧ WalkF K H w s r kd sd ∧ p ≤ X.length ∧ X.length ≤ 2000 ∧ q < s.ts.length ∧ (∀ c ∈ X, c ∈ s.ls) ∧
  ∀ t dl ws p' q' H', Ex H H' → H' t = some (.tup [.int (p' : Nat), .int (q' : Nat), .ref dl]) → DoneAt H' dl ws → CP s X p q ws p' q' → Q (.ref t) H'
theorem rd_Walk_turns (T : Tx K mg) : ∀ vs H Q E, sp_Walk_turns K vs H Q E → t_Walk_turns K (sp_WindowTurn_init K) { nx := fun _ H' => Q .non H', rt := Q } (start N_Walk_turns vs) H := by
  intro vs H Q E ⟨w, s, r, kd, sd, X, p, qq, hv, hW, hpX, hX, hq, hin, q⟩
  subst hv
  show t_Walk_turns K (sp_WindowTurn_init K) { nx := fun _ H' => Q .non H', rt := Q } [some (.ref w), some (.str (S (X.drop p))), some (.int p), some (.int qq), some (.int p), some (.int (X.length : Nat)), none, none, none, none] H
  obtain ⟨dx, a, hw, hS⟩ := hW
  obtain ⟨hok, dS, pS, tot, vS, hSa, hSp, _⟩ := id hS
  unfold t_Walk_turns
  walk_at "ws"
  intro l H1 n1 e1 h1
  walk_at "ws"
  refine w_while (fun m σ H' => ∃ (pl st : Nat) (b8 b9 : Option V) (L : List (V × Wn)), σ = [some (.ref w), some (.str (S (X.drop p))), some (.int pl), some (.int st), some (.int p), some (.int (X.length : Nat)), some (.int s.m), some (.ref l), b8, b9] ∧ m = X.length - pl ∧ p ≤ pl ∧ pl ≤ X.length ∧ st < s.ts.length ∧ L.length + m ≤ X.length ∧
    Ex H H' ∧ H' l = some (.lst (L.map Prod.fst)) ∧ (∀ x ∈ L, WnAt (Dl H' l) x.1 x.2) ∧ ∀ ws p' q', CP s X pl st ws p' q' → CP s X p qq (L.map Prod.snd ++ ws) p' q') (X.length - p)
    ⟨p, qq, none, none, [], rfl, rfl, Nat.le_refl _, hpX, hq, by simp, e1, h1, fun x hx => (nomatch hx), fun ws p' q' h => h⟩ ?_
  rintro m σ H2 ⟨pl, st, b8, b9, L, rfl, hm, hp1, hp2, hst, hLm, e2, hl2, hL, hK⟩
  have hstop : ¬ (pl < X.length ∧ pl + s.m < X.length) → ∀ t H3, H2 t = none → Ex H2 H3 → H3 t = some (.tup [.int (pl : Nat), .int (st : Nat), .ref l]) → Q (.ref t) H3 := by
    intro hns t H3 n3 e3 h3
    refine q t l (L.map Prod.snd) pl st H3 (by walk_at "ex") h3 ((dl_done hl2 hL).up e3) ?_
    have := hK [] pl st (.stop hns)
    simpa using this
  walk_at "ws"
  refine if_c (fun hc1 => ?_) (fun hc1 => ?_)
  · have hc1 := of_decide_eq_true hc1
    walk_at "ws"
    refine whb_c (fun hc2 => ?_) (fun hc2 => ?_)
    · have hc2 := of_decide_eq_true hc2
      have hd : (X.drop p).length = X.length - p := by simp
      rw [hd] at hc1
      have hlt : pl + s.m < X.length := by omega
      walk_at "ws"
      refine w_slSe (l' := win s X pl) (by simp; omega) ?_ ?_
      · rw [cut_mid (a := pl - p) (b := pl - p + s.m + 1) (by omega) (by omega) (by omega)]
        unfold win
        rw [List.drop_drop]
        congr 2 <;> omega
      walk_at "ws"
      have hwl : s.m ≤ (win s X pl).length := by simp [win]; omega
      refine mk_turn (hS.up (ExU.of e2)) (tr_get hst) hwl (win_in hin pl) (by have := win_len s X pl; have := hok.m8; omega) fun x H3 n3 e3 hT => ?_
      obtain ⟨hc, ht, ho, hne⟩ := stp_ok hok hin (p := pl) hst
      cases hout : (stp s X pl st).out with
      | none => exact absurd hout (hne hlt)
      | some z =>
        obtain ⟨sl, st'⟩ := z
        obtain ⟨g1, g2, g3⟩ := ho _ _ hout
        have hT' : TurnAt K H2 H3 x (stp s X pl st) := hT
        obtain ⟨dt, rl, nl, rs, frl, fnl, hx, hr, hrs, hn⟩ := hT'
        rw [hout] at hx
        simp only [outV] at hx
        walk_at "ws"
        intro t H4 n4 e4 h4
        walk_at "ws"
        refine w_append (xs := L.map Prod.fst) (by walk_at "hp") (by simp; omega) fun H5 m5 h5 => ?_
        have hl3 : H3 l = some (.lst (L.map Prod.fst)) := (by walk_at "hp")
        have hl4 : H4 l = some (.lst (L.map Prod.fst)) := (by walk_at "hp")
        have xl : x ≠ l := ne_kind hx hl3 (fun z => nomatch z)
        have tl : t ≠ l := ne_kind h4 hl4 (fun z => nomatch z)
        have hnl : nl ≠ l := ne_new' fnl hl2
        have hx5 : H5 x = some (oTurn K dt rl nl (.int sl) (.int st')) := (by walk_at "hp")
        have xx : Ex (Dl H2 l) (Dl H5 l) := ex_tr (dl_ml m5) (dl_exx (ex_tr e4 e3))
        walk_at "ws"
        refine got ⟨X.length - (pl + sl), by omega, pl + sl, st', _, _, L ++ [(.ref t, (pl, (stp s X pl st).cost, (stp s X pl st).tells))], rfl, rfl, by omega, by omega, g3, by simp; omega, ?_, by simpa using h5, ?_, ?_⟩
        · exact ml_new n1 (by walk_at "ex") m5
        · intro y hy
          rcases List.mem_append.mp hy with hy | hy
          · exact (hL y hy).up xx
          · rw [List.mem_singleton.mp hy]
            exact ⟨t, nl, rfl, dl_of tl (m5 _ _ tl (by rw [h4, hrs])), dl_of hnl (m5 _ _ hnl (e4 _ _ hn))⟩
        · intro ws p' q' hcp
          rw [List.map_append, List.append_assoc]
          exact hK _ _ _ (.step (by omega) hlt hout hcp)
    · have hc2 := of_decide_eq_false hc2
      walk_at "ws"
      exact hstop (by omega)
  · have hc1 := of_decide_eq_false hc1
    walk_at "ws"
    refine whb_c (fun z => nomatch z) (fun _ => ?_)
    have hd : (X.drop p).length = X.length - p := by simp
    rw [hd] at hc1
    walk_at "ws"
    exact hstop (by omega)
def sp_Walk_summed (K : PySem.W.Frag) : Sp := fun vs H Q E => ∃ w dl ws, vs = [.ref w, .ref dl] ∧ DoneAt H dl ws ∧ ws.length ≤ 5000 ∧ ∀ z H', H z = none → Ex H H' → SumsAt K H' z (costOf ws) ws.length (tellsOf ws) → Q (.ref z) H'
theorem rd_Walk_summed (T : Tx K mg) : ∀ vs H Q E, sp_Walk_summed K vs H Q E → t_Walk_summed K (sp_Sums_init K) { nx := fun _ H' => Q .non H', rt := Q } (start N_Walk_summed vs) H := by
  intro vs H Q E ⟨w, dl, ws, hv, ⟨L, hL, hws, hW⟩, hlen, q⟩
  subst hv
  subst hws
  rw [List.length_map] at hlen
  show t_Walk_summed K (sp_Sums_init K) { nx := fun _ H' => Q .non H', rt := Q } [some (.ref w), some (.ref dl), none, none, none, none] H
  unfold t_Walk_summed
  walk_at "ws"
  refine lcP (wl_list (L := L) (enc := Prod.fst)) (by walk_at "wp") (by omega) (fun _ => true) (fun x => .int (x.2.2.2.length : Int)) (fun H' e => Evl.sq_of (e _ _ hL)) ?_ ?_
  · intro c H1 hc e1 EE N hE hN
    obtain ⟨a, nl, h1, h2, h3⟩ := (hW c hc).up e1
    rw [h1]
    walk_at "ws"
    exact hE _ _ rfl (by simp) (Evl.Ex.refl _)
  · intro D1 H1 n1 e1 h1
    walk_at "ws"
    rw [filter_t] at h1
    refine w_sum (ns := L.map fun x => ((x.2.2.2.length : Nat) : Int)) (Evl.sq_of (by rw [h1]; simp [Function.comp_def])) ?_
    walk_at "ws"
    refine lcP (wl_list (L := L) (enc := Prod.fst)) (by walk_at "wp") (by omega) (fun _ => true) (fun x => .int (x.2.2.1 : Int)) (fun H' e => Evl.sq_of (e _ _ (e1 _ _ hL))) ?_ ?_
    · intro c H2 hc e2 EE N hE hN
      obtain ⟨a, nl, h1', h2, h3⟩ := (hW c hc).up (by walk_at "ex")
      rw [h1']
      walk_at "ws"
      exact hE _ _ rfl rfl (Evl.Ex.refl _)
    · intro D2 H2 n2 e2 h2
      walk_at "ws"
      rw [filter_t] at h2
      refine w_sum (ns := L.map fun x => ((x.2.2.1 : Nat) : Int)) (Evl.sq_of (by rw [h2]; simp [Function.comp_def])) ?_
      walk_at "ws"
      refine mk_sums fun z dz H3 n3 e3 h3 => q z H3 (nn_back (by walk_at "ex") n3) (by walk_at "ex") ⟨dz, ?_⟩
      rw [h3, sum_cast, sum_cast]
      simp [costOf, tellsOf, Function.comp_def]
end
section
variable {K : PySem.W.Frag} {mg : Str → Option Value}
/-- a pair's node with its two texts -/
structure PairAt (K : PySem.W.Frag) (H : Hp) (na : Addr) (r : Addr) (ns : List Nd) (nd x y : Nd) (l r' : Nat) : Prop where
  hn : NodeAt K H na nd
  hr : RowsAt K H r ns
  hk : nd.kids = some (l, r')
  hx : ns[l]? = some x
  hy : ns[r']? = some y
  ht : nd.txt = x.txt ++ y.txt
theorem PairAt.up {H H' : Hp} {na r : Addr} {ns : List Nd} {nd x y : Nd} {l r' : Nat} (e : Ex H H') (h : PairAt K H na r ns nd x y l r') : PairAt K H' na r ns nd x y l r' := ⟨h.hn.up (ExU.of e), h.hr.up e, h.hk, h.hx, h.hy, h.ht⟩
theorem seam_view {s : Sr} (h8 : s.m ≤ 7) {L R : List Nat} {p : Nat} (hp : p < L.length) (hm : L.length ≤ p + s.m) :
    (((last8 L).drop ((last8 L).length - (L.length - p))) ++ R.take 8).take (s.m + 1) = win s (L ++ R) p := by
  have e1 : (last8 L).drop ((last8 L).length - (L.length - p)) = L.drop p := by
    simp only [last8, List.drop_drop, List.length_drop]
    congr 1
    omega
  rw [e1]
  unfold win
  rw [List.drop_append_of_le_length (by omega), List.take_append, List.take_append, List.take_take]
  congr 2
  simp only [List.length_drop]
  omega
def sp_Walk_one_seam (K : PySem.W.Frag) : Sp := fun vs H Q E => ∃ w s r kd sd na ns nd x y l r' p q, vs = [.ref w, .ref na, .int (p : Nat), .int (q : Nat)] ∧ WalkF K H w s r kd sd ∧ PairAt K H na r ns nd x y l r' ∧ p < x.txt.length ∧ x.txt.length ≤ p + s.m ∧ p + s.m < nd.txt.length ∧ q < s.ts.length ∧ (∀ c ∈ nd.txt, c ∈ s.ls) ∧
  ∀ t dl sl q' H', Ex H H' → (stp s nd.txt p q).out = some (sl, q') → H' t = some (.tup [.int ((p + sl : Nat) : Int), .int (q' : Nat), .ref dl]) → DoneAt H' dl [(p, (stp s nd.txt p q).cost, (stp s nd.txt p q).tells)] → Q (.ref t) H'
theorem rd_Walk_one_seam (T : Tx K mg) : ∀ vs H Q E, sp_Walk_one_seam K vs H Q E → t_Walk_one_seam K (sp_WindowTurn_init K) { nx := fun _ H' => Q .non H', rt := Q } (start N_Walk_one_seam vs) H := by
  intro vs H Q E ⟨w, s, r, kd, sd, na, ns, nd, x, y, l, r', p, qq, hv, hW, hP, hp, hm, hlt, hq, hin, q⟩
  subst hv
  show t_Walk_one_seam K (sp_WindowTurn_init K) { nx := fun _ H' => Q .non H', rt := Q } [some (.ref w), some (.ref na), some (.int p), some (.int qq), none, none, none, none, none, none] H
  obtain ⟨dx, a, hw, hS⟩ := hW
  obtain ⟨hok, dS, pS, tot, vS, hSa, hSp, _⟩ := id hS
  obtain ⟨dn, en, hna, hen⟩ := hP.hn
  have hl : nd.l = .int (l : Int) := by simp [Nd.l, hP.hk]
  have hr2 : nd.r = .int (r' : Int) := by simp [Nd.r, hP.hk]
  rw [hl, hr2] at hna
  obtain ⟨xs, ax, hr, hxl, hxa, ⟨dax, eax, hax, heax⟩⟩ := hP.hr.get hP.hx
  obtain ⟨xs', ay, hr', _, hya, ⟨day, eay, hay, heay⟩⟩ := hP.hr.get hP.hy
  rw [hr] at hr'
  cases hr'
  have h8 := hok.m8
  unfold t_Walk_one_seam
  walk_at "ws"
  refine w_ixL (by walk_at "sq") hxa ?_
  walk_at "ws"
  refine w_ixL (by walk_at "sq") hya ?_
  walk_at "ws"
  refine w_slSe (by simp; omega) (cut_last (n := x.txt.length - p) (by omega) (by omega)) ?_
  walk_at "ws"
  refine w_addS (by simp; omega) ?_
  walk_at "ws"
  refine w_slSe (by simp; omega) (cut_take (n := s.m + 1) (by omega)) ?_
  rw [seam_view (by omega) hp hm, ← hP.ht]
  walk_at "ws"
  refine mk_turn hS (tr_get hq) (by have : (win s nd.txt p).length = s.m + 1 := by unfold win; simp; omega
                                    omega) (win_in hin p) (by have := win_len s nd.txt p; omega) fun z H3 n3 e3 hT => ?_
  obtain ⟨hc, ht, ho, hne⟩ := stp_ok hok hin (p := p) hq
  cases hout : (stp s nd.txt p qq).out with
  | none => exact absurd hout (hne hlt)
  | some zz =>
    obtain ⟨sl, st'⟩ := zz
    have hT' : TurnAt K H H3 z (stp s nd.txt p qq) := hT
    obtain ⟨dt, rl, nl, rs, frl, fnl, hx, hrr, hrs, hn⟩ := hT'
    rw [hout] at hx
    simp only [outV] at hx
    walk_at "ws"
    intro t1 H4 n4 e4 h4
    walk_at "ws"
    intro dl H5 n5 e5 h5
    walk_at "ws"
    intro t H6 n6 e6 h6
    refine q t dl sl st' H6 (by walk_at "ex") hout (by rw [h6]; simp) ⟨[(.ref t1, (p, (stp s nd.txt p qq).cost, (stp s nd.txt p qq).tells))], (show H6 dl = some (.lst [.ref t1]) from (by walk_at "hp")), rfl, fun y hy => ?_⟩
    rw [List.mem_singleton.mp hy]
    exact ⟨t1, nl, rfl, by
      have : H6 t1 = some (.tup [.int (p : Nat), .int (rs.length : Nat), .ref nl]) := (by walk_at "hp")
      rw [this, hrs], (by walk_at "hp")⟩
def sp_Walk_crossed (K : PySem.W.Frag) : Sp := fun vs H Q E => ∃ w s r kd sd na ns nd x y l r' p q, vs = [.ref w, .ref na, .int (p : Nat), .int (q : Nat)] ∧ WalkF K H w s r kd sd ∧ PairAt K H na r ns nd x y l r' ∧ x.txt.length ≤ p + s.m ∧ p ≤ nd.txt.length ∧ nd.txt.length ≤ 2000 ∧ q < s.ts.length ∧ (∀ c ∈ nd.txt, c ∈ s.ls) ∧
  ∀ t dl ws p' q' H', Ex H H' → H' t = some (.tup [.int (p' : Nat), .int (q' : Nat), .ref dl]) → DoneAt H' dl ws → PB s nd.txt x.txt.length p q ws p' q' → Q (.ref t) H'
theorem rd_Walk_crossed (T : Tx K mg) : ∀ vs H Q E, sp_Walk_crossed K vs H Q E → t_Walk_crossed K (sp_Walk_one_seam K) { nx := fun _ H' => Q .non H', rt := Q } (start N_Walk_crossed vs) H := by
  intro vs H Q E ⟨w, s, r, kd, sd, na, ns, nd, x, y, l, r', p, qq, hv, hW, hP, hm, hp, hX, hq, hin, q⟩
  subst hv
  show t_Walk_crossed K (sp_Walk_one_seam K) { nx := fun _ H' => Q .non H', rt := Q } [some (.ref w), some (.ref na), some (.int p), some (.int qq), none, none, none] H
  obtain ⟨dx, a, hw, hS⟩ := id hW
  obtain ⟨hok, dS, pS, tot, vS, hSa, hSp, _⟩ := id hS
  obtain ⟨dn, en, hna, hen⟩ := hP.hn
  have hl : nd.l = .int (l : Int) := by simp [Nd.l, hP.hk]
  have hr2 : nd.r = .int (r' : Int) := by simp [Nd.r, hP.hk]
  rw [hl, hr2] at hna
  obtain ⟨xs, ax, hr, hxl, hxa, ⟨dax, eax, hax, heax⟩⟩ := hP.hr.get hP.hx
  unfold t_Walk_crossed
  walk_at "ws"
  refine w_ixL (by walk_at "sq") hxa ?_
  walk_at "ws"
  intro l0 H1 n1 e1 h1
  walk_at "ws"
  refine w_while (fun m σ H' => ∃ (pl st : Nat) (dl : Addr) (b6 : Option V) (ws : List Wn), σ = [some (.ref w), some (.ref na), some (.int pl), some (.int st), some (.ref ax), some (.ref dl), b6] ∧ m = nd.txt.length - pl ∧ p ≤ pl ∧ pl ≤ nd.txt.length ∧ st < s.ts.length ∧ ws.length + m ≤ nd.txt.length ∧
    Ex H H' ∧ DoneAt H' dl ws ∧ ∀ ws' p' q', PB s nd.txt x.txt.length pl st ws' p' q' → PB s nd.txt x.txt.length p qq (ws ++ ws') p' q') (nd.txt.length - p)
    ⟨p, qq, l0, none, [], rfl, rfl, Nat.le_refl _, hp, hq, by simp, e1, .nil h1, fun ws p' q' h => h⟩ ?_
  rintro m σ H2 ⟨pl, st, dl, b6, ws, rfl, hm2, hp1, hp2, hst, hLm, e2, hD, hK⟩
  have hstop : ¬ (pl < x.txt.length ∧ pl + s.m < nd.txt.length) → ∀ t H3, H2 t = none → Ex H2 H3 → H3 t = some (.tup [.int (pl : Nat), .int (st : Nat), .ref dl]) → Q (.ref t) H3 := by
    intro hns t H3 n3 e3 h3
    refine q t dl ws pl st H3 (by walk_at "ex") h3 (hD.up e3) ?_
    have := hK [] pl st (.stop hns)
    simpa using this
  walk_at "ws"
  refine if_c (fun hc1 => ?_) (fun hc1 => ?_)
  · have hc1 := of_decide_eq_true hc1
    walk_at "ws"
    refine whb_c (fun hc2 => ?_) (fun hc2 => ?_)
    · have hc2 := of_decide_eq_true hc2
      walk_at "ws"
      refine ⟨w, s, r, kd, sd, na, ns, nd, x, y, l, r', pl, st, rfl, hW.up (ExU.of e2), hP.up e2, by omega, by omega, by omega, hst, hin, fun t dl2 sl q' H3 e3 ho h3 hD2 => ?_⟩
      obtain ⟨hc, ht, ho', hne⟩ := stp_ok hok hin (p := pl) hst
      obtain ⟨g1, g2, g3⟩ := ho' _ _ ho
      obtain ⟨L1, hL1, hw1, hx1⟩ := id hD
      obtain ⟨L2, hL2, hw2, hx2⟩ := id hD2
      have hL1' : H3 dl = some (.lst (L1.map Prod.fst)) := e3 _ _ hL1
      have hlen : L1.length = ws.length := by rw [hw1]; simp
      have hlen2 : L2.length = 1 := by have := congrArg List.length hw2; simpa using this.symm
      walk_at "ws"
      refine w_cat hL1' hL2 (by simp; omega) fun dl3 H4 n4 e4 h4 => ?_
      walk_at "ws"
      refine got ⟨nd.txt.length - (pl + sl), by omega, pl + sl, q', dl3, _, ws ++ [(pl, (stp s nd.txt pl st).cost, (stp s nd.txt pl st).tells)], rfl, rfl, by omega, by omega, g3, by simp; omega, (by walk_at "ex"), ⟨L1 ++ L2, by rw [h4]; simp, by rw [List.map_append, ← hw1, ← hw2], fun z hz => ?_⟩, ?_⟩
      · rcases List.mem_append.mp hz with hz | hz
        · exact (hx1 z hz).up (by walk_at "ex")
        · exact (hx2 z hz).up e4
      · intro ws' p' q'' hcp
        rw [List.append_assoc]
        exact hK _ _ _ (.step (by omega) (by omega) ho hcp)
    · have hc2 := of_decide_eq_false hc2
      walk_at "ws"
      exact hstop (by omega)
  · have hc1 := of_decide_eq_false hc1
    walk_at "ws"
    refine whb_c (fun z => nomatch z) (fun _ => ?_)
    walk_at "ws"
    exact hstop (by omega)
end
section
variable {K : PySem.W.Frag} {mg : Str → Option Value}
/-! ### the state of a walk -/
/-- all but the dicts with tuple keys stays -/
def ExV (H H' : Hp) : Prop := ∀ a o, (hoK o == 3) = false → H a = some o → H' a = some o
theorem ExV.of {H H' : Hp} (e : Ex H H') : ExV H H' := fun a o _ h => e a o h
theorem ExV.ml {H H' : Hp} {l : Addr} {kvs : List (List Key × V)} (m : Ml l H H') (h : H l = some (.dT kvs)) : ExV H H' := fun a o n ha => m a o (ne_kind ha h (fun z => by rw [z] at n; simp [hoK] at n)) ha
theorem ExV.tr {H H1 H2 : Hp} (a : ExV H H1) (b : ExV H1 H2) : ExV H H2 := fun x o n h => b x o n (a x o n h)
theorem ExV.u {H H' : Hp} (e : ExV H H') : ExU H H' := ⟨fun a xs h => e a _ rfl h, fun a C dx fs h => e a _ rfl h⟩
theorem DoneAt.upV {H H' : Hp} {a : Addr} {ws : List Wn} (e : ExV H H') (h : DoneAt H a ws) : DoneAt H' a ws := by
  obtain ⟨L, h1, h2, h3⟩ := h
  refine ⟨L, e _ _ rfl h1, h2, fun x hx => ?_⟩
  obtain ⟨b, nl, g1, g2, g3⟩ := h3 x hx
  exact ⟨b, nl, g1, e _ _ rfl g2, e _ _ rfl g3⟩
theorem RowsAt.upV {H H' : Hp} {r : Addr} {ns : List Nd} (e : ExV H H') (h : RowsAt K H r ns) : RowsAt K H' r ns := by
  obtain ⟨h0, as, h1, h2, h3⟩ := h
  exact ⟨h0, as, e _ _ rfl h1, h2, fun i a n x y => (h3 i a n x y).up e.u⟩
/-- what is known at a key -/
def EntAt (K : PySem.W.Frag) (H : Hp) (s : Sr) (ns : List Nd) (c : Ky) (v : V) : Prop := ∃ nd ws p' q' a b, VKy s ns c nd ∧ CP s nd.txt c.2.1 c.2.2 ws p' q' ∧ v = .ref a ∧ H a = some (.tup [.int (p' : Int), .int (q' : Int), .ref b]) ∧ SumsAt K H b (costOf ws) ws.length (tellsOf ws)
theorem EntAt.up {H H' : Hp} {s : Sr} {ns : List Nd} {c : Ky} {v : V} (e : ExV H H') (h : EntAt K H s ns c v) : EntAt K H' s ns c v := by
  obtain ⟨nd, ws, p', q', a, b, h1, h2, h3, h4, h5⟩ := h
  exact ⟨nd, ws, p', q', a, b, h1, h2, h3, e _ _ rfl h4, h5.up e.u⟩
/-- what lies over a pair's seam -/
def SeaAt (H : Hp) (s : Sr) (ns : List Nd) (c : Ky) (v : V) : Prop := ∃ nd x l r w1 p1 q1 ws p2 q2 a dl, ns[c.1]? = some nd ∧ nd.kids = some (l, r) ∧ ns[l]? = some x ∧ c.2.1 < x.txt.length ∧ CP s x.txt c.2.1 c.2.2 w1 p1 q1 ∧ PB s nd.txt x.txt.length p1 q1 ws p2 q2 ∧ v = .ref a ∧ H a = some (.tup [.int (p2 : Int), .int (q2 : Int), .ref dl]) ∧ DoneAt H dl ws
theorem SeaAt.up {H H' : Hp} {s : Sr} {ns : List Nd} {c : Ky} {v : V} (e : ExV H H') (h : SeaAt H s ns c v) : SeaAt H' s ns c v := by
  obtain ⟨nd, x, l, r, w1, p1, q1, ws, p2, q2, a, dl, h1, h2, h3, h4, h5, h6, h7, h8, h9⟩ := h
  exact ⟨nd, x, l, r, w1, p1, q1, ws, p2, q2, a, dl, h1, h2, h3, h4, h5, h6, h7, e _ _ rfl h8, h9.upV e⟩
/-- few keys -/
def Box (kvs : List (List Key × V)) : Prop := ∃ L : List Ky, kvs.map (·.1) = L.map kkt ∧ L.Nodup ∧ ∀ c ∈ L, c.1 < 1000 ∧ c.2.1 ≤ 2000 ∧ c.2.2 < 5
theorem Box.len {kvs : List (List Key × V)} (h : Box kvs) : kvs.length < 16000000 := by
  obtain ⟨L, h1, h2, h3⟩ := h
  have e := congrArg List.length h1
  simp only [List.length_map] at e
  have h4 := nodup_box (1000 * 10005) (L.map fun c => c.1 * 10005 + c.2.1 * 5 + c.2.2) (by
    refine (List.pairwise_map.mpr (h2.imp_of_mem fun {a b} ha hb hab he => hab ?_))
    obtain ⟨a1, a2, a3⟩ := h3 a ha
    obtain ⟨b1, b2, b3⟩ := h3 b hb
    obtain ⟨x, y, z⟩ := a
    obtain ⟨x', y', z'⟩ := b
    simp only at a1 a2 a3 b1 b2 b3 he
    have e1 : x = x' := by omega
    have e2 : y = y' := by omega
    have e3 : z = z' := by omega
    rw [e1, e2, e3]) (fun x hx => by
    obtain ⟨c, hc, rfl⟩ := List.mem_map.mp hx
    obtain ⟨a1, a2, a3⟩ := h3 c hc
    omega)
  simp only [List.length_map] at h4
  omega
theorem Box.nil : Box [] := ⟨[], rfl, List.nodup_nil, fun c hc => nomatch hc⟩
theorem valV_mem {kvs : List (List Key × V)} {k : List Key} (h : (valV kvs k).isSome = true) : k ∈ kvs.map (·.1) := by
  unfold valV at h
  rw [Option.isSome_map] at h
  obtain ⟨x, hx⟩ := Option.isSome_iff_exists.mp h
  have h1 := List.mem_of_find?_eq_some hx
  have h2 := List.find?_some hx
  simp at h2
  rw [← h2]
  exact List.mem_map.mpr ⟨x, h1, rfl⟩
theorem valV_not {kvs : List (List Key × V)} {k : List Key} (h : valV kvs k = none) : k ∉ kvs.map (·.1) := fun hm => by
  obtain ⟨x, hx, e⟩ := List.mem_map.mp hm
  unfold valV at h
  rw [Option.map_eq_none_iff, List.find?_eq_none] at h
  exact h x hx (by simp [e])
theorem Box.put {kvs : List (List Key × V)} {c : Ky} {v : V} (h : Box kvs) (hc : c.1 < 1000 ∧ c.2.1 ≤ 2000 ∧ c.2.2 < 5) : Box (putK kvs (kkt c) v) := by
  obtain ⟨L, h1, h2, h3⟩ := h
  unfold putK
  split
  · refine ⟨L, ?_, h2, h3⟩
    rw [← h1, List.map_map]
    refine List.map_congr_left fun kv _ => ?_
    show (if kv.1 = kkt c then (kv.1, v) else kv).1 = kv.1
    split <;> rfl
  · rename_i hn
    refine ⟨L ++ [c], by rw [List.map_append, List.map_append, h1]; rfl, ?_, fun d hd => ?_⟩
    · refine List.nodup_append.mpr ⟨h2, by simp, fun a ha b hb z => ?_⟩
      rw [List.mem_singleton.mp hb] at z
      rw [z] at ha
      have hm : kkt c ∈ kvs.map (·.1) := by rw [h1]; exact List.mem_map.mpr ⟨c, ha, rfl⟩
      obtain ⟨kv, hkv, e⟩ := List.mem_map.mp hm
      exact hn (List.any_eq_true.mpr ⟨kv, hkv, by simp [e]⟩)
    · rcases List.mem_append.mp hd with hd | hd
      · exact h3 d hd
      · rw [List.mem_singleton.mp hd]; exact hc
structure WS (K : PySem.W.Frag) (H : Hp) (w : Addr) (s : Sr) (r kd sd : Addr) (ns : List Nd) (kvs svs : List (List Key × V)) : Prop where
  hw : WalkF K H w s r kd sd
  hr : RowsAt K H r ns
  hk : H kd = some (.dT kvs)
  hs : H sd = some (.dT svs)
  ne : kd ≠ sd
  nl : ns.length ≤ 1000
  b1 : Box kvs
  b2 : Box svs
  kn : ∀ c v, valV kvs (kkt c) = some v → EntAt K H s ns c v
  se : ∀ c v, valV svs (kkt c) = some v → SeaAt H s ns c v
  cl : ∀ c, (valV kvs (kkt c)).isSome = true → ∀ d, Kid s ns c d → (valV kvs (kkt d)).isSome = true
  cs : ∀ (c : Ky) (nd x : Nd) (l r : Nat), (valV kvs (kkt c)).isSome = true → ns[c.1]? = some nd → nd.kids = some (l, r) → ns[l]? = some x → c.2.1 < x.txt.length → (valV svs (kkt c)).isSome = true
theorem WS.up {H H' : Hp} {w : Addr} {s : Sr} {r kd sd : Addr} {ns : List Nd} {kvs svs : List (List Key × V)} (e : Ex H H') (h : WS K H w s r kd sd ns kvs svs) : WS K H' w s r kd sd ns kvs svs :=
  ⟨h.hw.up (ExU.of e), h.hr.up e, e _ _ h.hk, e _ _ h.hs, h.ne, h.nl, h.b1, h.b2, fun c v x => (h.kn c v x).up (.of e), fun c v x => (h.se c v x).up (.of e), h.cl, h.cs⟩
/-- all but two things stays -/
def M2 (a b : Addr) (H H' : Hp) : Prop := ∀ c o, c ≠ a → c ≠ b → H c = some o → H' c = some o
theorem kkt_map (c : Ky) : (kkt c).map kV = [.int (c.1 : Int), .int (c.2.1 : Int), .int (c.2.2 : Int)] := rfl
def sp_Walk_lacking (K : PySem.W.Frag) : Sp := fun vs H Q E => ∃ w s r kd sd ns kvs svs ka c nd, vs = [.ref w, .ref ka] ∧ H ka = some (.tup ((kkt c).map kV)) ∧ WS K H w s r kd sd ns kvs svs ∧ VKy s ns c nd ∧ valV kvs (kkt c) = none ∧
  (∀ v H' svs', M2 kd sd H H' → WS K H' w s r kd sd ns (putK kvs (kkt c) v) svs' → Q .non H') ∧
  (∀ a d H' svs', M2 kd sd H H' → WS K H' w s r kd sd ns kvs svs' → H' a = some (.tup ((kkt d).map kV)) → Kid s ns c d → valV kvs (kkt d) = none → Q (.ref a) H')
theorem WS.put {H H' : Hp} {w : Addr} {s : Sr} {r kd sd : Addr} {ns : List Nd} {kvs svs : List (List Key × V)} (h : WS K H w s r kd sd ns kvs svs) (m : Ml kd H H') {c : Ky} {nd : Nd} {v : V} (hv : VKy s ns c nd) (n5 : s.ts.length ≤ 5) (hk' : H' kd = some (.dT (putK kvs (kkt c) v))) (hent : EntAt K H s ns c v)
    (hcl : ∀ d, Kid s ns c d → (valV kvs (kkt d)).isSome = true) (hcs : ∀ (x : Nd) (l r : Nat), nd.kids = some (l, r) → ns[l]? = some x → c.2.1 < x.txt.length → (valV svs (kkt c)).isSome = true) : WS K H' w s r kd sd ns (putK kvs (kkt c) v) svs := by
  have e : ExV H H' := .ml m h.hk
  have hlt := (List.getElem?_eq_some_iff.mp hv.hn).1
  have hval : ∀ d, valV (putK kvs (kkt c) v) (kkt d) = if d = c then some v else valV kvs (kkt d) := by
    intro d
    rw [valV_put]
    by_cases z : d = c
    · rw [if_pos z, if_pos (by rw [z])]
    · rw [if_neg z, if_neg (fun q => z (kkt_inj q))]
  have hsome : ∀ d, (valV (putK kvs (kkt c) v) (kkt d)).isSome = true ↔ d = c ∨ (valV kvs (kkt d)).isSome = true := by
    intro d
    rw [hval d]
    by_cases z : d = c
    · simp [z]
    · simp [z]
  refine ⟨h.hw.up e.u, h.hr.upV e, hk', m sd _ (fun z => h.ne z.symm) h.hs, h.ne, h.nl, h.b1.put ⟨by have := h.nl; omega, by have := hv.hp; have := hv.hl; omega, by have := hv.hq; omega⟩, h.b2, fun d v' hd => ?_, fun d v' hd => (h.se d v' hd).up e, fun d hd d' hk => ?_, fun d nd' x l r hd h1 h2 h3 h4 => ?_⟩
  · rw [hval d] at hd
    by_cases z : d = c
    · rw [if_pos z] at hd
      cases hd
      rw [z]
      exact hent.up e
    · rw [if_neg z] at hd
      exact (h.kn d v' hd).up e
  · rw [hsome] at hd ⊢
    rcases hd with rfl | hd
    · exact .inr (hcl d' hk)
    · exact .inr (h.cl d hd d' hk)
  · rw [hsome] at hd
    rcases hd with rfl | hd
    · rw [hv.hn] at h1
      cases h1
      exact hcs x l r h2 h3 h4
    · exact h.cs d nd' x l r hd h1 h2 h3 h4
theorem WS.putS {H H' : Hp} {w : Addr} {s : Sr} {r kd sd : Addr} {ns : List Nd} {kvs svs : List (List Key × V)} (h : WS K H w s r kd sd ns kvs svs) (m : Ml sd H H') {c : Ky} {nd : Nd} {v : V} (hv : VKy s ns c nd) (n5 : s.ts.length ≤ 5) (hs' : H' sd = some (.dT (putK svs (kkt c) v))) (hent : SeaAt H s ns c v) : WS K H' w s r kd sd ns kvs (putK svs (kkt c) v) := by
  have e : ExV H H' := .ml m h.hs
  have hlt := (List.getElem?_eq_some_iff.mp hv.hn).1
  have hval : ∀ d, valV (putK svs (kkt c) v) (kkt d) = if d = c then some v else valV svs (kkt d) := by
    intro d
    rw [valV_put]
    by_cases z : d = c
    · rw [if_pos z, if_pos (by rw [z])]
    · rw [if_neg z, if_neg (fun q => z (kkt_inj q))]
  refine ⟨h.hw.up e.u, h.hr.upV e, m kd _ h.ne h.hk, hs', h.ne, h.nl, h.b1, h.b2.put ⟨by have := h.nl; omega, by have := hv.hp; have := hv.hl; omega, by have := hv.hq; omega⟩, fun d v' hd => (h.kn d v' hd).up e, fun d v' hd => ?_, h.cl, fun d nd' x l r hd h1 h2 h3 h4 => ?_⟩
  · rw [hval d] at hd
    by_cases z : d = c
    · rw [if_pos z] at hd
      cases hd
      rw [z]
      exact hent.up e
    · rw [if_neg z] at hd
      exact (h.se d v' hd).up e
  · rw [hval d]
    by_cases z : d = c
    · rw [if_pos z]; rfl
    · rw [if_neg z]
      exact h.cs d nd' x l r hd h1 h2 h3 h4
theorem M2.a {a b : Addr} {H H' : Hp} (m : Ml a H H') : M2 a b H H' := fun c o h1 _ h => m c o h1 h
theorem M2.b {a b : Addr} {H H' : Hp} (m : Ml b H H') : M2 a b H H' := fun c o _ h2 h => m c o h2 h
theorem M2.ex {a b : Addr} {H H' : Hp} (e : Ex H H') : M2 a b H H' := fun c o _ _ h => e c o h
theorem M2.tr {a b : Addr} {H H1 H2 : Hp} (m : M2 a b H H1) (m' : M2 a b H1 H2) : M2 a b H H2 := fun c o h1 h2 h => m' c o h1 h2 (m c o h1 h2 h)
theorem M2.tup {a b c : Addr} {H H' : Hp} {k1 k2 : List (List Key × V)} {xs : List V} (m : M2 a b H H') (h1 : H a = some (.dT k1)) (h2 : H b = some (.dT k2)) (h : H c = some (.tup xs)) : H' c = some (.tup xs) := m c _ (ne_kind h h1 (fun z => nomatch z)) (ne_kind h h2 (fun z => nomatch z)) h
theorem M2.v {a b : Addr} {H H' : Hp} {k1 k2 : List (List Key × V)} (m : M2 a b H H') (h1 : H a = some (.dT k1)) (h2 : H b = some (.dT k2)) : ExV H H' := fun c o n h => m c o (ne_kind h h1 (fun z => by rw [z] at n; simp [hoK] at n)) (ne_kind h h2 (fun z => by rw [z] at n; simp [hoK] at n)) h
end
section
variable {K : PySem.W.Frag} {mg : Str → Option Value}
theorem rd_Walk_lacking (T : Tx K mg) : ∀ vs H Q E, sp_Walk_lacking K vs H Q E → t_Walk_lacking K (sp_Walk_turns K) (sp_Walk_summed K) (sp_Sums_init K) (sp_Walk_crossed K) (sp_Sums_plus K) { nx := fun _ H' => Q .non H', rt := Q } (start N_Walk_lacking vs) H := by
  intro vs H Q E ⟨w, s, r, kd, sd, ns, kvs, svs, ka, ⟨i, p, qq⟩, nd, hv, hka, hWS, hVK, hno, qA, qB⟩
  subst hv
  show t_Walk_lacking K (sp_Walk_turns K) (sp_Walk_summed K) (sp_Sums_init K) (sp_Walk_crossed K) (sp_Sums_plus K) { nx := fun _ H' => Q .non H', rt := Q } [some (.ref w), some (.ref ka), none, none, none, none, none, none, none, none, none, none] H
  have hka' : H ka = some (.tup [.int (i : Int), .int (p : Int), .int (qq : Int)]) := hka
  obtain ⟨dx, a, hw, hS⟩ := id hWS.hw
  have hok : SrOk s := hS.1
  obtain ⟨xs, an, hr, hxl, hxa, hN⟩ := hWS.hr.get hVK.hn
  obtain ⟨dn, en, hna, hen⟩ := id hN
  have hkd := hWS.hk
  have hsd := hWS.hs
  have hpl : p ≤ nd.txt.length := hVK.hp
  have hql : qq < s.ts.length := hVK.hq
  have hl2 := hVK.hl
  unfold t_Walk_lacking
  walk_at "ws"
  refine w_ixL (by walk_at "sq") hxa ?_
  walk_at "ws"
  cases hk : nd.kids with
  | none =>
    have hls : nd.ls = .str (S nd.txt) := by simp [Nd.ls, hk]
    rw [hls] at hna ⊢
    walk_at "ws"
    refine w_slSe (by omega) (cut_from (n := p) rfl) ?_
    walk_at "ws"
    refine ⟨w, s, r, kd, sd, nd.txt, p, qq, rfl, hWS.hw, hpl, hl2, hql, hVK.hin, fun t dl ws p' q' H1 e1 ht hD hcp => ?_⟩
    have hbd := hcp.bd hok hVK.hin hql hpl
    walk_at "ws"
    refine ⟨w, dl, ws, rfl, hD, by omega, fun z H2 n2 e2 hz => ?_⟩
    walk_at "ws"
    intro b H3 n3 e3 h3
    walk_at "ws"
    refine w_dputT (ke := kkt (i, p, qq)) (kvs := kvs) (by walk_at "hp") (by walk_at "hp") hWS.b1.len fun H4 m4 h4 => ?_
    walk_at "ws"
    have E3 : Ex H H3 := (by walk_at "ex")
    have hz3 : SumsAt K H3 z (costOf ws) ws.length (tellsOf ws) := hz.up (ExU.of e3)
    refine qA (.ref b) H4 svs ((M2.ex E3).tr (.a m4)) ((hWS.up E3).put m4 hVK hok.n5 h4 ⟨nd, ws, p', q', b, z, hVK, hcp, rfl, h3, hz3⟩ (fun d hd => ?_) (fun x l r' h1 => by rw [hk] at h1; cases h1))
    cases hd with
    | fst h1 h2 => rw [hVK.hn] at h1; cases h1; rw [hk] at h2; cases h2
    | snd h1 h2 => rw [hVK.hn] at h1; cases h1; rw [hk] at h2; cases h2
    | snd0 h1 h2 => rw [hVK.hn] at h1; cases h1; rw [hk] at h2; cases h2
  | some lr =>
    obtain ⟨l, r'⟩ := lr
    have hls : nd.ls = .non := by simp [Nd.ls, hk]
    have hnl : nd.l = .int (l : Int) := by simp [Nd.l, hk]
    have hnr : nd.r = .int (r' : Int) := by simp [Nd.r, hk]
    rw [hnl, hnr] at hna
    rw [hls] at hna ⊢
    have hsub := hWS.hr.1 i nd hVK.hn
    rw [hk] at hsub
    obtain ⟨hli, hri, x, y, hx, hy, htxt⟩ := hsub
    have hP : PairAt K H an r ns nd x y l r' := ⟨hN, hWS.hr, hk, hx, hy, htxt⟩
    have hlen : nd.txt.length = x.txt.length + y.txt.length := by rw [htxt]; simp
    obtain ⟨xs2, ax, hr2, hxl2, hxax, ⟨dax, eax, hax, heax⟩⟩ := hWS.hr.get hx
    rw [hr] at hr2
    cases hr2
    have hinx : ∀ c ∈ x.txt, c ∈ s.ls := fun c hc => hVK.hin c (by rw [htxt]; simp [hc])
    walk_at "ws"
    refine mk_sums fun z0 dz0 H1 n1 e1 h1 => ?_
    walk_at "ws"
    refine w_ixL (by walk_at "sq") hxax ?_
    walk1
    -- the last part: known[key] = (place, state, sums)
    have fin : ∀ (H5 : Hp) (svs5 : List (List Key × V)) (p5 q5 : Nat) (z5 : Addr) (ws5 : List Wn), M2 kd sd H H5 → WS K H5 w s r kd sd ns kvs svs5 → CP s nd.txt p qq ws5 p5 q5 → SumsAt K H5 z5 (costOf ws5) ws5.length (tellsOf ws5) → (∀ d, Kid s ns (i, p, qq) d → (valV kvs (kkt d)).isSome = true) → (p < x.txt.length → (valV svs5 (kkt (i, p, qq))).isSome = true) →
        ∀ b7 b8 b9 b10 b11 : Option V, (tSeq (sDPut (tFld K (tVar 0) "known") (tVar 1) (tTup (tCons (tVar 3) (tCons (tVar 4) (tCons (tVar 5) tNil))))) (tRet (tC .non))) { nx := fun _ H' => Q .non H', rt := Q } [some (.ref w), some (.ref ka), some (.ref an), some (.int (p5 : Int)), some (.int (q5 : Int)), some (.ref z5), some (.ref ax), b7, b8, b9, b10, b11] H5 := by
      intro H5 svs5 p5 q5 z5 ws5 M5 W5 hcp5 hz5 hkid hsea b7 b8 b9 b10 b11
      have hw5 : H5 w = some (oWalk K dx a r kd sd) := M5 w _ (ne_kind hw hkd (fun z => nomatch z)) (ne_kind hw hsd (fun z => nomatch z)) hw
      have hka5 : H5 ka = some (.tup ((kkt (i, p, qq)).map kV)) := M5.tup hkd hsd hka
      have hkd5 := W5.hk
      walk_at "ws"
      intro b H6 n6 e6 h6
      walk_at "ws"
      refine w_dputT (ke := kkt (i, p, qq)) (kvs := kvs) (by walk_at "hp") (by walk_at "hp") W5.b1.len fun H7 m7 h7 => ?_
      walk_at "ws"
      refine qA (.ref b) H7 svs5 ((M5.tr (.ex e6)).tr (.a m7)) ((W5.up e6).put m7 hVK hok.n5 h7 ⟨nd, ws5, p5, q5, b, z5, hVK, hcp5, rfl, h6, hz5.up (ExU.of e6)⟩ hkid (fun x' l' r'' g1 g2 g3 => ?_))
      rw [hk] at g1
      cases g1
      rw [hx] at g2
      cases g2
      exact hsea g3
    -- the right part
    have right : ∀ (H5 : Hp) (svs5 : List (List Key × V)) (p2 q2 : Nat) (z5 : Addr) (w12 : List Wn), M2 kd sd H H5 → WS K H5 w s r kd sd ns kvs svs5 → SumsAt K H5 z5 (costOf w12) w12.length (tellsOf w12) → q2 < s.ts.length → p2 ≤ nd.txt.length → (x.txt.length ≤ p2 → ∀ w3 p3 q3, CP s y.txt (p2 - x.txt.length) q2 w3 p3 q3 → CP s nd.txt p qq (w12 ++ shiftW x.txt.length w3) (x.txt.length + p3) q3) → (p2 < x.txt.length → CP s nd.txt p qq w12 p2 q2) →
        (x.txt.length ≤ p2 → Kid s ns (i, p, qq) (r', p2 - x.txt.length, q2)) → (∀ d, Kid s ns (i, p, qq) d → (valV kvs (kkt d)).isSome = true ∨ (x.txt.length ≤ p2 ∧ d = (r', p2 - x.txt.length, q2))) → (p < x.txt.length → (valV svs5 (kkt (i, p, qq))).isSome = true) →
        ∀ b7 b8 : Option V, (tSeq (tIfS (tTest (tOp rGeI (tVar 3) (tFld K (tVar 6) "size"))) (tSeq (tAsg (tTup (tCons (tFld K (tVar 2) "right") (tCons (tOp rSubI (tVar 3) (tFld K (tVar 6) "size")) (tCons (tVar 4) tNil)))) (gName 9))
    (tSeq (tIfS (tB (tDNotIn (tVar 9) (tFld K (tVar 0) "known"))) (tRet (tVar 9)) tNext)
    (tSeq (tAsg (tDGet (tFld K (tVar 0) "known") (tVar 9)) (gTup K 3 (gCons (gName 10) (gCons (gName 4) (gCons (gName 11) gNil)))))
    (tPar 3 5 (tCons (tOp rAddI (tFld K (tVar 6) "size") (tVar 10)) (tCons (tMeth (cSums K) "plus" (sp_Sums_plus K) [] E0 (tVar 5) (tCons (tVar 11) tNil)) tNil)))))) tNext)
    (tSeq (sDPut (tFld K (tVar 0) "known") (tVar 1) (tTup (tCons (tVar 3) (tCons (tVar 4) (tCons (tVar 5) tNil)))))
    (tRet (tC .non)))) { nx := fun _ H' => Q .non H', rt := Q } [some (.ref w), some (.ref ka), some (.ref an), some (.int (p2 : Int)), some (.int (q2 : Int)), some (.ref z5), some (.ref ax), b7, b8, none, none, none] H5 := by
      intro H5 svs5 p2 q2 z5 w12 M5 W5 hz5 hq2 hp2 hr1 hr2 hkr hkids hsea b7 b8
      have V5 : ExV H H5 := M5.v hkd hsd
      have hw5 : H5 w = some (oWalk K dx a r kd sd) := V5 _ _ rfl hw
      have han5 : H5 an = some (oNode K dn .non (.int (l : Int)) (.int (r' : Int)) (.int (nd.txt.length : Int)) (.ref en)) := V5 _ _ rfl hna
      have hax5 := V5 _ _ rfl hax
      have hkd5 := W5.hk
      refine w_cut (fun σ' H5 => ∃ svs5 p5 q5 z5 ws5 b7 b8 b9 b10 b11, σ' = [some (.ref w), some (.ref ka), some (.ref an), some (.int ((p5 : Nat) : Int)), some (.int ((q5 : Nat) : Int)), some (.ref z5), some (.ref ax), b7, b8, b9, b10, b11] ∧ M2 kd sd H H5 ∧ WS K H5 w s r kd sd ns kvs svs5 ∧ CP s nd.txt p qq ws5 p5 q5 ∧ SumsAt K H5 z5 (costOf ws5) ws5.length (tellsOf ws5) ∧ (∀ d, Kid s ns (i, p, qq) d → (valV kvs (kkt d)).isSome = true) ∧ (p < x.txt.length → (valV svs5 (kkt (i, p, qq))).isSome = true)) ?_ (fun N hN' => ?_)
      · rintro σ' H5 ⟨svs5, p5, q5, z5, ws5, b7, b8, b9, b10, b11, rfl, M5, W5, c5, s5, k5, h5⟩
        exact fin H5 svs5 p5 q5 z5 ws5 M5 W5 c5 s5 k5 h5 b7 b8 b9 b10 b11
      walk_at "ws"
      refine if_c (fun hge => ?_) (fun hge => ?_)
      · have hge := of_decide_eq_true hge
        have hge : x.txt.length ≤ p2 := by omega
        walk_at "ws"
        intro kb H6 n6 e6 h6
        have eq1 : (p2 : Int) - (x.txt.length : Int) = ((p2 - x.txt.length : Nat) : Int) := by omega
        rw [eq1] at h6
        have h6' : H6 kb = some (.tup ((kkt (r', p2 - x.txt.length, q2)).map kV)) := h6
        walk_at "ws"
        refine w_dinT (ke := kkt (r', p2 - x.txt.length, q2)) (kvs := kvs) (by walk_at "hp") h6' ?_
        cases hval : valV kvs (kkt (r', p2 - x.txt.length, q2)) with
        | none =>
          walk_at "ws"
          exact qB kb (r', p2 - x.txt.length, q2) H6 svs5 (M5.tr (.ex e6)) (W5.up e6) h6' (hkr hge) hval
        | some v =>
          walk_at "ws"
          obtain ⟨nd3, w3, p3, q3, a3, b3, v3, c3, rfl, h3, s3⟩ := (W5.up e6).kn _ _ hval
          have hnd3 := v3.hn
          rw [hy] at hnd3
          cases hnd3
          refine w_dgetT (ke := kkt (r', p2 - x.txt.length, q2)) (kvs := kvs) (by walk_at "hp") h6' hval ?_
          walk_at "ws"
          obtain ⟨dz5, hz5'⟩ := id hz5
          have hz6 : H6 z5 = some (oSums K dz5 (.int (costOf w12 : Int)) (.int (w12.length : Int)) (.int (tellsOf w12 : Int))) := e6 _ _ hz5'
          walk_at "ws"
          refine ⟨z5, b3, _, _, _, _, _, _, rfl, ⟨dz5, hz6⟩, s3, fun z7 H7 n7 e7 hz7 => ?_⟩
          walk_at "ws"
          have eq2 : (x.txt.length : Int) + (p3 : Int) = ((x.txt.length + p3 : Nat) : Int) := by omega
          rw [eq2]
          refine hN' _ _ ⟨svs5, x.txt.length + p3, q3, z7, w12 ++ shiftW x.txt.length w3, b7, b8, _, _, _, rfl, (M5.tr (.ex e6)).tr (.ex e7), (W5.up e6).up e7, hr1 hge _ _ _ c3, ?_, fun d hd => ?_, hsea⟩
          · rw [costOf_app, tellsOf_app, costOf_shift, tellsOf_shift, List.length_append, len_shift]
            exact hz7
          · rcases hkids d hd with h | ⟨_, rfl⟩
            · exact h
            · rw [hval]; rfl
      · have hge := of_decide_eq_false hge
        have hge : p2 < x.txt.length := by omega
        walk_at "ws"
        refine hN' _ _ ⟨svs5, p2, q2, z5, w12, b7, b8, _, _, _, rfl, M5, W5, hr2 hge, hz5, fun d hd => ?_, hsea⟩
        rcases hkids d hd with h | ⟨h, _⟩
        · exact h
        · omega
    with_reducible apply w_sq
    refine w_cut (fun σ' H5 => ∃ svs5 p2 q2 z5 w12 b7 b8, σ' = [some (.ref w), some (.ref ka), some (.ref an), some (.int ((p2 : Nat) : Int)), some (.int ((q2 : Nat) : Int)), some (.ref z5), some (.ref ax), b7, b8, none, none, none] ∧ M2 kd sd H H5 ∧ WS K H5 w s r kd sd ns kvs svs5 ∧ SumsAt K H5 z5 (costOf w12) w12.length (tellsOf w12) ∧ q2 < s.ts.length ∧ p2 ≤ nd.txt.length ∧ (x.txt.length ≤ p2 → ∀ w3 p3 q3, CP s y.txt (p2 - x.txt.length) q2 w3 p3 q3 → CP s nd.txt p qq (w12 ++ shiftW x.txt.length w3) (x.txt.length + p3) q3) ∧ (p2 < x.txt.length → CP s nd.txt p qq w12 p2 q2) ∧
        (x.txt.length ≤ p2 → Kid s ns (i, p, qq) (r', p2 - x.txt.length, q2)) ∧ (∀ d, Kid s ns (i, p, qq) d → (valV kvs (kkt d)).isSome = true ∨ (x.txt.length ≤ p2 ∧ d = (r', p2 - x.txt.length, q2))) ∧ (p < x.txt.length → (valV svs5 (kkt (i, p, qq))).isSome = true)) ?_ (fun N hN' => ?_)
    · rintro σ' H5 ⟨svs5, p2, q2, z5, w12, b7, b8, rfl, M5, W5, hz5, hq2, hp2, hr1, hr2, hkr, hkids, hsea⟩
      exact right H5 svs5 p2 q2 z5 w12 M5 W5 hz5 hq2 hp2 hr1 hr2 hkr hkids hsea b7 b8
    walk_at "ws"
    refine if_c (fun hlt => ?_) (fun hlt => ?_)
    · have hlt := of_decide_eq_true hlt
      have hlt : p < x.txt.length := by omega
      walk_at "ws"
      intro ka2 H2 n2 e2 h2
      have h2' : H2 ka2 = some (.tup ((kkt (l, p, qq)).map kV)) := h2
      walk_at "ws"
      refine w_dinT (ke := kkt (l, p, qq)) (kvs := kvs) (by walk_at "hp") h2' ?_
      cases hval : valV kvs (kkt (l, p, qq)) with
      | none =>
        walk_at "ws"
        exact qB ka2 (l, p, qq) H2 svs (.ex (by walk_at "ex")) (hWS.up (by walk_at "ex")) h2' (.fst hVK.hn hk hx hlt) hval
      | some v =>
        walk_at "ws"
        have E2 : Ex H H2 := (by walk_at "ex")
        obtain ⟨nd1, w1, p1, q1, a1, b1, v1, c1, rfl, g1, s1⟩ := (hWS.up E2).kn _ _ hval
        have hnd1 := v1.hn
        rw [hx] at hnd1
        cases hnd1
        obtain ⟨d1, d2, d3, d4, d5, d6⟩ := c1.bd hok hinx hql (Nat.le_of_lt hlt)
        refine w_dgetT (ke := kkt (l, p, qq)) (kvs := kvs) (by walk_at "hp") h2' hval ?_
        walk_at "ws"
        have d2' : p1 ≤ x.txt.length := d2
        refine ⟨w, s, r, kd, sd, an, ns, nd, x, y, l, r', p1, q1, rfl, hWS.hw.up (ExU.of E2), hP.up E2, by omega, by omega, hl2, d3, hVK.hin, fun t dl ws2 p2 q2 H3 e3 h3 hD hpb => ?_⟩
        obtain ⟨f1, f2, f3, f4, f5, f6⟩ := hpb.bd hok hVK.hin d3 (by omega)
        have E3 : Ex H H3 := (by walk_at "ex")
        walk_at "ws"
        intro t2 H4 n4 e4 h4
        walk_at "ws"
        refine w_dputT (ke := kkt (i, p, qq)) (kvs := svs) (by walk_at "hp") (by walk_at "hp") hWS.b2.len fun H5 m5 h5 => ?_
        have W5 : WS K H5 w s r kd sd ns kvs (putK svs (kkt (i, p, qq)) (.ref t2)) := (hWS.up (by walk_at "ex")).putS m5 hVK hok.n5 h5 ⟨nd, x, l, r', w1, p1, q1, ws2, p2, q2, t2, dl, hVK.hn, hk, hx, hlt, c1, hpb, rfl, h4, hD.up e4⟩
        have V5 : ExV H4 H5 := .ml m5 (by walk_at "hp")
        have hD5 : DoneAt H5 dl ws2 := (hD.up e4).upV V5
        have hs5 : SumsAt K H5 b1 (costOf w1) w1.length (tellsOf w1) := (s1.up (ExU.of (by walk_at "ex"))).up V5.u
        obtain ⟨db1, hb1⟩ := id hs5
        have hw5 : H5 w = some (oWalk K dx a r kd sd) := V5 _ _ rfl (by walk_at "hp")
        walk_at "ws"
        refine ⟨w, dl, ws2, rfl, hD5, by omega, fun z6 H6 n6 e6 hz6 => ?_⟩
        walk_at "ws"
        refine ⟨b1, z6, _, _, _, _, _, _, rfl, hs5.up (ExU.of e6), hz6, fun z7 H7 n7 e7 hz7 => ?_⟩
        walk_at "ws"
        refine hN' _ _ ⟨_, p2, q2, z7, w1 ++ ws2, _, _, rfl, ((M2.ex (show Ex H H4 from (by walk_at "ex"))).tr (.b m5)).tr (.ex (by walk_at "ex")), W5.up (by walk_at "ex"), ?_, f3, f2, fun hge w3 p3 q3 hcp => ?_, fun hlt2 => ?_, fun hge => .snd hVK.hn hk hx hlt c1 hpb hge, fun d hd => ?_, fun _ => ?_⟩
        · rw [costOf_app, tellsOf_app, List.length_append]
          exact hz7
        · rw [htxt] at hpb ⊢
          exact c1.pair hpb hcp hge
        · rw [htxt] at hpb f6 ⊢
          exact c1.pair0 hpb hlt2 (fun hh => f6 ⟨hlt2, hh⟩)
        · cases hd with
          | fst g1 g2 g3 g4 =>
            rw [hVK.hn] at g1; cases g1
            rw [hk] at g2; cases g2
            exact .inl (by rw [hval]; rfl)
          | snd g1 g2 g3 g4 g5 g6 g7 =>
            rw [hVK.hn] at g1; cases g1
            rw [hk] at g2; cases g2
            rw [hx] at g3; cases g3
            obtain ⟨_, rfl, rfl⟩ := g5.det c1
            obtain ⟨_, rfl, rfl⟩ := g6.det hpb
            exact .inr ⟨g7, rfl⟩
          | snd0 g1 g2 g3 g4 =>
            rw [hVK.hn] at g1; cases g1
            rw [hk] at g2; cases g2
            rw [hx] at g3; cases g3
            omega
        · rw [valV_put, if_pos rfl]; rfl
    · have hlt := of_decide_eq_false hlt
      have hge : x.txt.length ≤ p := by omega
      walk_at "ws"
      have E1 : Ex H H1 := (by walk_at "ex")
      refine hN' _ _ ⟨svs, p, qq, z0, [], _, _, rfl, .ex E1, hWS.up E1, ⟨dz0, h1⟩, hql, hpl, fun _ w3 p3 q3 hcp => ?_, fun h => by omega, fun _ => .snd0 hVK.hn hk hx hge, fun d hd => ?_, fun h => by omega⟩
      · rw [htxt]
        exact CP.pairR hge hcp
      · cases hd with
        | fst g1 g2 g3 g4 =>
          rw [hVK.hn] at g1; cases g1
          rw [hk] at g2; cases g2
          rw [hx] at g3; cases g3
          omega
        | snd g1 g2 g3 g4 g5 g6 g7 =>
          rw [hVK.hn] at g1; cases g1
          rw [hk] at g2; cases g2
          rw [hx] at g3; cases g3
          omega
        | snd0 g1 g2 g3 g4 =>
          rw [hVK.hn] at g1; cases g1
          rw [hk] at g2; cases g2
          rw [hx] at g3; cases g3
          exact .inr ⟨hge, rfl⟩
end
section
variable {K : PySem.W.Frag} {mg : Str → Option Value}
/-- a list whose first item is a key's tuple -/
def KeyL (H : Hp) (l : Addr) : Prop := ∃ b rest i p q, H l = some (.lst (.ref b :: rest)) ∧ H b = some (.tup [.int i, .int p, .int q])
theorem KeyL.done {H : Hp} {l dl : Addr} {ws : List Wn} (k : KeyL H l) (h : DoneAt H dl ws) : dl ≠ l := by
  intro z
  subst z
  obtain ⟨b, rest, i, p, q, h1, h2⟩ := k
  obtain ⟨L, g1, g2, g3⟩ := h
  rw [h1] at g1
  cases L with
  | nil => simp at g1
  | cons x L =>
    obtain ⟨a, nl, x1, x2, x3⟩ := g3 x (List.mem_cons_self ..)
    simp only [List.map_cons, x1, Option.some.injEq, HO.lst.injEq, List.cons.injEq, V.ref.injEq] at g1
    rw [← g1.1, h2] at x2
    simp at x2
theorem KeyL.nums {H : Hp} {l nl : Addr} {ns : List Nat} (k : KeyL H l) (h : H nl = some (.lst (ns.map fun (j : Nat) => V.int (j : Int)))) : nl ≠ l := by
  intro z
  subst z
  obtain ⟨b, rest, i, p, q, h1, h2⟩ := k
  rw [h1] at h
  cases ns with
  | nil => simp at h
  | cons x L => simp at h
theorem KeyL.rows {H : Hp} {l r : Addr} {ns : List Nd} (k : KeyL H l) (h : RowsAt K H r ns) : r ≠ l := by
  intro z
  subst z
  obtain ⟨b, rest, i, p, q, h1, h2⟩ := k
  obtain ⟨h0, as, g1, g2, g3⟩ := h
  rw [h1] at g1
  cases as with
  | nil => simp at g1
  | cons x as =>
    cases ns with
    | nil => simp at g2
    | cons n ns =>
      obtain ⟨dx, e, x1, x2⟩ := g3 0 x n rfl rfl
      simp only [List.map_cons, Option.some.injEq, HO.lst.injEq, List.cons.injEq, V.ref.injEq] at g1
      rw [← g1.1, h2] at x1
      cases x1
theorem DoneAt.mlK {H H' : Hp} {l dl : Addr} {ws : List Wn} (k : KeyL H l) (m : Ml l H H') (h : DoneAt H dl ws) : DoneAt H' dl ws := by
  have n := k.done h
  have hl : ∃ xs, H l = some (.lst xs) := by obtain ⟨b, rest, i, p, q, h1, h2⟩ := k; exact ⟨_, h1⟩
  obtain ⟨xs, hl⟩ := hl
  obtain ⟨L, g1, g2, g3⟩ := h
  refine ⟨L, m _ _ n g1, g2, fun x hx => ?_⟩
  obtain ⟨a, nl, x1, x2, x3⟩ := g3 x hx
  exact ⟨a, nl, x1, (ExU.ml m hl).t _ _ x2, m _ _ (k.nums x3) x3⟩
theorem WS.mlK {H H' : Hp} {w : Addr} {s : Sr} {r kd sd l : Addr} {ns : List Nd} {kvs svs : List (List Key × V)} (k : KeyL H l) (m : Ml l H H') (h : WS K H w s r kd sd ns kvs svs) : WS K H' w s r kd sd ns kvs svs := by
  have hl : ∃ xs, H l = some (.lst xs) := by obtain ⟨b, rest, i, p, q, h1, h2⟩ := k; exact ⟨_, h1⟩
  obtain ⟨xs, hl⟩ := hl
  have u : ExU H H' := ExU.ml m hl
  refine ⟨h.hw.up u, h.hr.ml m u (k.rows h.hr), m _ _ (ne_kind h.hk hl (fun z => nomatch z)) h.hk, m _ _ (ne_kind h.hs hl (fun z => nomatch z)) h.hs, h.ne, h.nl, h.b1, h.b2, fun c v x => ?_, fun c v x => ?_, h.cl, h.cs⟩
  · obtain ⟨nd, ws, p', q', a, b, h1, h2, h3, h4, h5⟩ := h.kn c v x
    exact ⟨nd, ws, p', q', a, b, h1, h2, h3, u.t _ _ h4, h5.up u⟩
  · obtain ⟨nd, x, l', r', w1, p1, q1, ws, p2, q2, a, dl, h1, h2, h3, h4, h5, h6, h7, h8, h9⟩ := h.se c v x
    exact ⟨nd, x, l', r', w1, p1, q1, ws, p2, q2, a, dl, h1, h2, h3, h4, h5, h6, h7, u.t _ _ h8, h9.mlK k m⟩
def Chn : List (Addr × Ky) → Prop
  | [] => True
  | x :: L => L.length + 1 + x.2.1 ≤ 1000 ∧ Chn L
def sp_Walk_solved (K : PySem.W.Frag) : Sp := fun vs H Q E => ∃ w s r kd sd ns kvs svs c nd, vs = [.ref w, .int (c.1 : Nat), .int (c.2.1 : Nat), .int (c.2.2 : Nat)] ∧ WS K H w s r kd sd ns kvs svs ∧ VKy s ns c nd ∧
  ∀ v H' kvs' svs', M2 kd sd H H' → WS K H' w s r kd sd ns kvs' svs' → valV kvs' (kkt c) = some v → Q v H'
theorem rd_Walk_solved (T : Tx K mg) : ∀ vs H Q E, sp_Walk_solved K vs H Q E → t_Walk_solved K (sp_Walk_lacking K) { nx := fun _ H' => Q .non H', rt := Q } (start N_Walk_solved vs) H := by
  intro vs H Q E ⟨w, s, r, kd, sd, ns, kvs, svs, ⟨i, p, qq⟩, nd, hv, hWS, hVK, q⟩
  subst hv
  show t_Walk_solved K (sp_Walk_lacking K) { nx := fun _ H' => Q .non H', rt := Q } [some (.ref w), some (.int i), some (.int p), some (.int qq), none, none, none] H
  have hok : SrOk s := by obtain ⟨dx, a, hw, hS⟩ := hWS.hw; exact hS.1
  have hilt := (List.getElem?_eq_some_iff.mp hVK.hn).1
  have hnl := hWS.nl
  unfold t_Walk_solved
  walk_at "ws"
  intro ka H1 n1 e1 h1
  walk_at "ws"
  intro l H2 n2 e2 h2
  walk_at "ws"
  have E2 : Ex H H2 := (by walk_at "ex")
  have nfl : H l = none := nn_back e1 n2
  refine w_while (fun m σ H' => ∃ (kvs' svs' : List (List Key × V)) (L : List (Addr × Ky)) (b5 b6 : Option V), σ = [some (.ref w), some (.int i), some (.int p), some (.int qq), some (.ref l), b5, b6] ∧ Halts s ns m (fun c => (valV kvs' (kkt c)).isSome = true) (L.map Prod.snd) ∧ M2 kd sd H H' ∧ WS K H' w s r kd sd ns kvs' svs' ∧
    l ≠ kd ∧ l ≠ sd ∧ H' l = some (.lst (L.reverse.map fun x => V.ref x.1)) ∧ (∀ x ∈ L, H' x.1 = some (.tup ((kkt x.2).map kV)) ∧ ∃ nd, VKy s ns x.2 nd) ∧ Chn L ∧ ((valV kvs' (kkt (i, p, qq))).isSome = true ∨ (i, p, qq) ∈ L.map Prod.snd)) (0 + 4 ^ (i + 1))
    ⟨kvs, svs, [(ka, (i, p, qq))], none, none, rfl, halts_key hok hWS.hr.1 i (i, p, qq) nd (Nat.le_refl _) hVK 0 _ [] (fun _ _ _ => .done), .ex E2, hWS.up E2, ne_new' nfl hWS.hk, ne_new' nfl hWS.hs, h2, fun x hx => ?_, ⟨by show 0 + 1 + i ≤ 1000; omega, trivial⟩, .inr (by simp)⟩ ?_
  · rw [List.mem_singleton.mp hx]
    exact ⟨e2 _ _ h1, nd, hVK⟩
  rintro m σ H3 ⟨kvs', svs', L, b5, b6, rfl, hH, M3, W3, nk, nsd, hl, hL, hCh, hB⟩
  walk_at "ws"
  refine whb_c (fun hc => ?_) (fun hc => ?_)
  · cases L with
    | nil => simp at hc
    | cons y L =>
      obtain ⟨ky, c⟩ := y
      obtain ⟨hky, ndc, hvc⟩ := hL _ (List.mem_cons_self ..)
      have hLt : ∀ x ∈ L, H3 x.1 = some (.tup ((kkt x.2).map kV)) ∧ ∃ nd, VKy s ns x.2 nd := fun x hx => hL x (List.mem_cons_of_mem _ hx)
      obtain ⟨dx, a, hw, hS⟩ := id W3.hw
      have hkd := W3.hk
      have hsd := W3.hs
      rw [List.reverse_cons, List.map_append] at hl
      have hl' : H3 l = some (.lst ((L.reverse.map fun x => V.ref x.1) ++ [.ref ky])) := hl
      -- the list's first item, at any heap that keeps the list and the keys
      have kl : ∀ H4, H4 l = some (.lst ((L.reverse.map fun x => V.ref x.1) ++ [.ref ky])) → (∀ x ∈ (ky, c) :: L, H4 x.1 = some (.tup ((kkt x.2).map kV))) → KeyL H4 l := by
        intro H4 g1 g2
        cases hr : L.reverse with
        | nil =>
          rw [hr] at g1
          exact ⟨ky, [], _, _, _, g1, g2 (ky, c) (List.mem_cons_self ..)⟩
        | cons z Z =>
          rw [hr] at g1
          have hz : z ∈ L := List.mem_reverse.mp (by rw [hr]; simp)
          exact ⟨z.1, _, _, _, _, g1, g2 z (List.mem_cons_of_mem _ hz)⟩
      obtain ⟨hc1, hCh2⟩ := hCh
      have hc1 : L.length + 1 + c.1 ≤ 1000 := hc1
      have hLen : (L.reverse.map fun x => V.ref x.1).length = L.length := by simp
      obtain ⟨m', rfl, g1, g2, g3⟩ : ∃ m', m = m' + 1 ∧ ((valV kvs' (kkt c)).isSome = true → Halts s ns m' (fun c => (valV kvs' (kkt c)).isSome = true) (L.map Prod.snd)) ∧ (¬ (valV kvs' (kkt c)).isSome = true → ∀ d, Kid s ns c d → ¬ (valV kvs' (kkt d)).isSome = true → Halts s ns m' (fun c => (valV kvs' (kkt c)).isSome = true) (d :: c :: L.map Prod.snd)) ∧
          (¬ (valV kvs' (kkt c)).isSome = true → ∀ A' : Ky → Prop, (∀ x, A' x ↔ (valV kvs' (kkt x)).isSome = true ∨ x = c) → Halts s ns m' A' (L.map Prod.snd)) := by
        cases hH with
        | turn g1 g2 g3 => exact ⟨_, rfl, g1, g2, g3⟩
      -- taking the key off
      have pop : ∀ (H4 : Hp) (kv4 sv4 : List (List Key × V)) (b6' : Option V), M2 kd sd H3 H4 → WS K H4 w s r kd sd ns kv4 sv4 → Halts s ns m' (fun c => (valV kv4 (kkt c)).isSome = true) (L.map Prod.snd) → (valV kv4 (kkt c)).isSome = true → (∀ d, (valV kvs' (kkt d)).isSome = true → (valV kv4 (kkt d)).isSome = true) →
          ∀ H5, Ml l H4 H5 → H5 l = some (.lst (L.reverse.map fun x => V.ref x.1)) → ∃ m'', m'' < m' + 1 ∧ ∃ (kvs' svs' : List (List Key × V)) (L : List (Addr × Ky)) (b5 b6 : Option V), [some (.ref w), some (.int i), some (.int p), some (.int qq), some (.ref l), some (.ref ky), b6'] = [some (.ref w), some (.int i), some (.int p), some (.int qq), some (.ref l), b5, b6] ∧ Halts s ns m'' (fun c => (valV kvs' (kkt c)).isSome = true) (L.map Prod.snd) ∧ M2 kd sd H H5 ∧ WS K H5 w s r kd sd ns kvs' svs' ∧
            l ≠ kd ∧ l ≠ sd ∧ H5 l = some (.lst (L.reverse.map fun x => V.ref x.1)) ∧ (∀ x ∈ L, H5 x.1 = some (.tup ((kkt x.2).map kV)) ∧ ∃ nd, VKy s ns x.2 nd) ∧ Chn L ∧ ((valV kvs' (kkt (i, p, qq))).isSome = true ∨ (i, p, qq) ∈ L.map Prod.snd) := by
        intro H4 kv4 sv4 b6' M4 W4 hh hkn hsub H5 m5 h5
        have hl4 : H4 l = some (.lst ((L.reverse.map fun x => V.ref x.1) ++ [.ref ky])) := M4 l _ nk nsd hl'
        have hk4 : ∀ x ∈ (ky, c) :: L, H4 x.1 = some (.tup ((kkt x.2).map kV)) := fun x hx => M4.tup hkd hsd (hL x hx).1
        refine ⟨m', by omega, kv4, sv4, L, _, _, rfl, hh, fun b o x1 x2 x3 => m5 b o (fun z => by rw [z, nfl] at x3; cases x3) (M4 b o x1 x2 (M3 b o x1 x2 x3)), W4.mlK (kl H4 hl4 hk4) m5, nk, nsd, h5, fun x hx => ⟨m5 _ _ (ne_kind (hk4 x (List.mem_cons_of_mem _ hx)) hl4 (fun z => nomatch z)) (hk4 x (List.mem_cons_of_mem _ hx)), (hLt x hx).2⟩, hCh2, ?_⟩
        rcases hB with h | h
        · exact .inl (hsub _ h)
        · rcases List.mem_cons.mp h with h | h
          · exact .inl (by rw [h]; exact hkn)
          · exact .inr h
      walk_at "ws"
      refine w_ixLast (xs := L.reverse.map fun x => V.ref x.1) (Evl.sq_of hl') ?_
      walk_at "ws"
      refine w_dinT (ke := kkt c) (kvs := kvs') hkd hky ?_
      cases hval : valV kvs' (kkt c) with
      | some v =>
        walk_at "ws"
        refine w_pop (xs := L.reverse.map fun x => V.ref x.1) (y := .ref ky) hl' fun H5 m5 h5 => ?_
        walk_at "ws"
        exact got (pop H3 kvs' svs' _ (.ex (Evl.Ex.refl _)) W3 (g1 (by rw [hval]; rfl)) (by rw [hval]; rfl) (fun d h => h) H5 m5 h5)
      | none =>
        have hno : ¬ (valV kvs' (kkt c)).isSome = true := by rw [hval]; simp
        walk_at "ws"
        refine ⟨w, s, r, kd, sd, ns, kvs', svs', ky, c, ndc, rfl, hky, W3, hvc, hval, fun v H4 svs4 M4 W4 => ?_, fun kb d H4 svs4 M4 W4 hkb hkid hnd => ?_⟩
        · have hl4 : H4 l = some (.lst ((L.reverse.map fun x => V.ref x.1) ++ [.ref ky])) := M4 l _ nk nsd hl'
          have hput : ∀ d, (valV (putK kvs' (kkt c) v) (kkt d)).isSome = true ↔ (valV kvs' (kkt d)).isSome = true ∨ d = c := by
            intro d
            rw [valV_put]
            by_cases z : d = c
            · simp [z]
            · rw [if_neg (fun q => z (kkt_inj q))]; simp [z]
          walk_at "ws"
          refine w_pop (xs := L.reverse.map fun x => V.ref x.1) (y := .ref ky) hl4 fun H5 m5 h5 => ?_
          walk_at "ws"
          exact got (pop H4 _ svs4 _ M4 W4 (g3 hno _ hput) ((hput c).mpr (.inr rfl)) (fun d h => (hput d).mpr (.inl h)) H5 m5 h5)
        · have hl4 : H4 l = some (.lst ((L.reverse.map fun x => V.ref x.1) ++ [.ref ky])) := M4 l _ nk nsd hl'
          have hk4 : ∀ x ∈ (ky, c) :: L, H4 x.1 = some (.tup ((kkt x.2).map kV)) := fun x hx => M4.tup hkd hsd (hL x hx).1
          obtain ⟨hlt, nd', hv'⟩ := hkid.ok hok hWS.hr.1 hvc
          walk_at "ws"
          refine w_append (xs := (L.reverse.map fun x => V.ref x.1) ++ [.ref ky]) hl4 (by simp; omega) fun H5 m5 h5 => ?_
          walk_at "ws"
          refine got ⟨m', by omega, kvs', svs4, (kb, d) :: (ky, c) :: L, _, _, rfl, g2 hno d hkid (by rw [hnd]; simp), fun b o x1 x2 x3 => m5 b o (fun z => by rw [z, nfl] at x3; cases x3) (M4 b o x1 x2 (M3 b o x1 x2 x3)), W4.mlK (kl H4 hl4 hk4) m5, nk, nsd, by rw [h5]; simp, fun x hx => ?_, ⟨by show L.length + 1 + 1 + d.1 ≤ 1000; omega, hc1, hCh2⟩, ?_⟩
          · rcases List.mem_cons.mp hx with rfl | hx
            · exact ⟨m5 _ _ (ne_kind hkb hl4 (fun z => nomatch z)) hkb, nd', hv'⟩
            · exact ⟨m5 _ _ (ne_kind (hk4 x hx) hl4 (fun z => nomatch z)) (hk4 x hx), (hL x hx).2⟩
          · rcases hB with h | h
            · exact .inl h
            · exact .inr (List.mem_cons_of_mem _ h)
  · have hnil : L = [] := by
      cases L with
      | nil => rfl
      | cons y L => simp at hc
    subst hnil
    obtain ⟨v, hv⟩ := Option.isSome_iff_exists.mp (hB.resolve_right (by simp))
    obtain ⟨dx, a, hw, hS⟩ := id W3.hw
    have hkd := W3.hk
    walk_at "ws"
    intro t H4 n4 e4 h4
    refine w_dgetT (ke := kkt (i, p, qq)) (kvs := kvs') (by walk_at "hp") h4 hv ?_
    exact q v H4 kvs' svs' (M3.tr (.ex e4)) (W3.up e4) hv
end
section
variable {K : PySem.W.Frag} {mg : Str → Option Value}
/-- the numbers of a window as pairs -/
def PrAt (H : Hp) (v : V) (x : Nat × Nat) : Prop := ∃ a, v = .ref a ∧ H a = some (.tup [.int (x.1 : Int), .int (x.2 : Int)])
theorem PrAt.up {H H' : Hp} {v : V} {x : Nat × Nat} (e : ExT H H') (h : PrAt H v x) : PrAt H' v x := by
  obtain ⟨a, h1, h2⟩ := h
  exact ⟨a, h1, e _ _ h2⟩
def PrsAt (H : Hp) (a : Addr) (xs : List (Nat × Nat)) : Prop := ∃ vs, H a = some (.lst vs) ∧ vs.length = xs.length ∧ ∀ (i : Nat) x v, xs[i]? = some x → vs[i]? = some v → PrAt H v x
theorem PrsAt.up {H H' : Hp} {a : Addr} {xs : List (Nat × Nat)} (e : Ex H H') (h : PrsAt H a xs) : PrsAt H' a xs := by
  obtain ⟨vs, h1, h2, h3⟩ := h
  exact ⟨vs, e _ _ h1, h2, fun i v x a b => (h3 i v x a b).up (Ex.t e)⟩
def sp_Walk_told_in (K : PySem.W.Frag) : Sp := fun vs H Q E => ∃ w s r kd sd ns kvs svs ka c nd ws p' q' k, vs = [.ref w, .ref ka, .int (k : Nat)] ∧ H ka = some (.tup ((kkt c).map kV)) ∧ WS K H w s r kd sd ns kvs svs ∧ VKy s ns c nd ∧ (valV kvs (kkt c)).isSome = true ∧ CP s nd.txt c.2.1 c.2.2 ws p' q' ∧ k < (toldOf ws).length ∧
  ∀ v H' x, Ex H H' → (toldOf ws)[k]? = some x → PrAt H' v x → Q v H'
theorem rd_Walk_told_in (T : Tx K mg) : ∀ vs H Q E, sp_Walk_told_in K vs H Q E → t_Walk_told_in K (sp_Walk_turns K) { nx := fun _ H' => Q .non H', rt := Q } (start N_Walk_told_in vs) H := by
  intro vs H Q E ⟨w, s, r, kd, sd, ns, kvs, svs, ka, c0, nd0, ws0, p0', q0', k0, hv, hka, hWS, hVK, hkn, hcp0, hk0, q⟩
  subst hv
  show t_Walk_told_in K (sp_Walk_turns K) { nx := fun _ H' => Q .non H', rt := Q } [some (.ref w), some (.ref ka), some (.int k0), none, none, none, none, none, none, none, none, none, none, none, none, none, none] H
  have hok : SrOk s := by obtain ⟨dx, a, hw, hS⟩ := hWS.hw; exact hS.1
  unfold t_Walk_told_in
  walk1
  walk1
  walk1
  walk1
  with_reducible apply w_sq
  refine w_cut (fun σ' H' => ∃ (kb : Addr) (c : Ky) (nd : Nd) (ws : List Wn) (p' q' k base : Nat) (b4 b5 b6 b9 b10 b11 b12 b13 b14 b15 : Option V), σ' = [some (.ref w), some (.ref kb), some (.int k), some (.int base), b4, b5, b6, none, none, b9, b10, b11, b12, b13, b14, b15, none] ∧ Ex H H' ∧ H' kb = some (.tup ((kkt c).map kV)) ∧ VKy s ns c nd ∧ nd.kids = none ∧ CP s nd.txt c.2.1 c.2.2 ws p' q' ∧ k < (toldOf ws).length ∧ ∀ x, (toldOf ws)[k]? = some x → (toldOf ws0)[k0]? = some (base + x.1, x.2)) ?_ (fun N hN' => ?_)
  · rintro σ' H1 ⟨kb, ⟨i, p, qq⟩, nd, ws, p', q', k, base, b4, b5, b6, b9, b10, b11, b12, b13, b14, b15, rfl, E1, hkb, hv, hk, hcp, hlt, hx⟩
    have W1 := hWS.up E1
    obtain ⟨dx, a, hw, hS⟩ := id W1.hw
    obtain ⟨xs, an, hr, hxl, hxa, hN⟩ := W1.hr.get hv.hn
    obtain ⟨dn, en, hna, hen⟩ := id hN
    have hkb' : H1 kb = some (.tup [.int (i : Int), .int (p : Int), .int (qq : Int)]) := hkb
    have hls : nd.ls = .str (S nd.txt) := by simp [Nd.ls, hk]
    rw [hls] at hna
    have hpl : p ≤ nd.txt.length := hv.hp
    have hql : qq < s.ts.length := hv.hq
    have hl2 := hv.hl
    have hbd := hcp.bd hok hv.hin hql hpl
    walk_at "ws"
    refine w_ixL (by walk_at "sq") hxa ?_
    walk_at "ws"
    refine w_slSe (by omega) (cut_from (n := p) rfl) ?_
    walk_at "ws"
    refine ⟨w, s, r, kd, sd, nd.txt, p, qq, rfl, W1.hw, hpl, hl2, hql, hv.hin, fun t dl ws2 p2 q2 H2 e2 ht hD hcp2 => ?_⟩
    obtain ⟨rfl, rfl, rfl⟩ := hcp2.det hcp
    obtain ⟨L, hL, hLw, hLx⟩ := id hD
    walk_at "ws"
    have hflat : (L.flatMap fun c => (c.2.2.2).map ((fun c j => (c.2.1, j)) c)) = toldOf ws2 := by
      rw [hLw]
      simp [toldOf, List.flatMap_map]
    refine lc2R (wl_list (L := L) (enc := Prod.fst)) (by walk_at "wp") (fun c => c.2.2.2) (fun (j : Nat) => V.int (j : Int)) (fun c j => (c.2.1, j)) (by
      rw [hflat, toldOf_len]
      have : tellsOf ws2 ≤ ws2.length * 12 := by
        have h5 := hbd.2.2.2.2.1
        clear hx hlt hcp2 hcp hbd hL hLw hLx hflat hD
        unfold tellsOf
        induction ws2 with
        | nil => simp
        | cons y ys ih =>
          have h6 := (h5 y (List.mem_cons_self ..)).2.2
          have h7 := ih (fun z hz => h5 z (List.mem_cons_of_mem _ hz))
          simp only [List.map_cons, List.sum_cons, List.length_cons]
          omega
      have := hbd.2.2.2.1
      omega) (fun x v H => PrAt H v (base + x.1, x.2)) (fun x y H H' e h => h.up e) (fun H' e => Evl.sq_of (e _ _ hL)) ?_ ?_
    · intro c H3 hc e3 R hR
      obtain ⟨ta, nl, h1, h2, h3⟩ := (hLx c hc).up e3
      obtain ⟨ta', nl', h1', h2', h3'⟩ := hLx c hc
      have en : nl = nl' := by
        rw [h1] at h1'
        cases h1'
        rw [e3 _ _ h2'] at h2
        simpa using h2.symm
      subst en
      rw [h1]
      walk_at "ws"
      refine hR _ _ _ _ _ (Evl.Ex.refl _) (wl_list (a := nl)) (fun H5 e5 => Evl.sq_of (e5 _ _ h3')) (by walk_at "wp") fun b H5 hb e5 EE hE => ?_
      walk_at "ws"
      intro ta2 H6 n6 e6 h6
      refine hE _ _ ⟨ta2, rfl, ?_⟩ e6
      rw [h6]
      simp
    · intro D ys H3 n3 e3 hyl hys h3
      rw [hflat] at hyl hys
      walk_at "ws"
      have hky : k < ys.length := by omega
      have hyk : ys[k]? = some ys[k] := by simp [hky]
      obtain ⟨x, hxk⟩ : ∃ x, (toldOf ws2)[k]? = some x := ⟨(toldOf ws2)[k], by simp [hlt]⟩
      refine w_ixL (by walk_at "sq") hyk ?_
      exact q _ H3 _ (by walk_at "ex") (hx x hxk) (hys k x _ hxk hyk)
  · refine w_while (fun m σ H' => ∃ (kb : Addr) (c : Ky) (nd : Nd) (ws : List Wn) (p' q' k base : Nat) (b4 b5 b6 b9 b10 b11 b12 b13 b14 b15 : Option V), σ = [some (.ref w), some (.ref kb), some (.int k), some (.int base), b4, b5, b6, none, none, b9, b10, b11, b12, b13, b14, b15, none] ∧ m = c.1 ∧ Ex H H' ∧ H' kb = some (.tup ((kkt c).map kV)) ∧ VKy s ns c nd ∧ (valV kvs (kkt c)).isSome = true ∧ CP s nd.txt c.2.1 c.2.2 ws p' q' ∧ k < (toldOf ws).length ∧ ∀ x, (toldOf ws)[k]? = some x → (toldOf ws0)[k0]? = some (base + x.1, x.2)) c0.1
      ⟨ka, c0, nd0, ws0, p0', q0', k0, 0, none, none, none, none, none, none, none, none, none, none, rfl, rfl, Evl.Ex.refl _, hka, hVK, hkn, hcp0, hk0, fun x hx => by rw [hx]; simp⟩ ?_
    rintro m σ H1 ⟨kb, ⟨i, p, qq⟩, nd, ws, p', q', k, base, b4, b5, b6, b9, b10, b11, b12, b13, b14, b15, rfl, hmi, E1, hkb, hv, hkno, hcp, hlt, hx⟩
    obtain ⟨dx, a, hw, hS⟩ := id hWS.hw
    obtain ⟨xs, an, hr, hxl, hxa, hN⟩ := hWS.hr.get hv.hn
    obtain ⟨dn, en, hna, hen⟩ := id hN
    have hkb' : H1 kb = some (.tup [.int (i : Int), .int (p : Int), .int (qq : Int)]) := hkb
    have hkd := hWS.hk
    have hsd := hWS.hs
    have hmi : m = i := hmi
    subst hmi
    have hpl : p ≤ nd.txt.length := hv.hp
    have hql : qq < s.ts.length := hv.hq
    have hl2 := hv.hl
    walk_at "ws"
    refine w_ixL (by walk_at "sq") hxa ?_
    walk_at "ws"
    cases hk : nd.kids with
    | none =>
      have hls : nd.ls = .str (S nd.txt) := by simp [Nd.ls, hk]
      rw [hls] at hna ⊢
      walk_at "ws"
      refine whb_c (fun z => nomatch z) (fun _ => ?_)
      exact hN' _ _ ⟨kb, (m, p, qq), nd, ws, p', q', k, base, _, _, _, _, _, _, _, _, _, _, rfl, E1, hkb, hv, hk, hcp, hlt, hx⟩
    | some lr =>
      obtain ⟨l, r'⟩ := lr
      have hls : nd.ls = .non := by simp [Nd.ls, hk]
      have hnl : nd.l = .int (l : Int) := by simp [Nd.l, hk]
      have hnr : nd.r = .int (r' : Int) := by simp [Nd.r, hk]
      rw [hnl, hnr] at hna
      rw [hls] at hna ⊢
      have hsub := hWS.hr.1 m nd hv.hn
      rw [hk] at hsub
      obtain ⟨hli, hri, x, y, hx1, hy1, htxt⟩ := hsub
      have hlen : nd.txt.length = x.txt.length + y.txt.length := by rw [htxt]; simp
      obtain ⟨xs2, ax, hr2, hxl2, hxax, ⟨dax, eax, hax, heax⟩⟩ := hWS.hr.get hx1
      rw [hr] at hr2
      cases hr2
      have hinx : ∀ c ∈ x.txt, c ∈ s.ls := fun c hc => hv.hin c (by rw [htxt]; simp [hc])
      have hiny : ∀ c ∈ y.txt, c ∈ s.ls := fun c hc => hv.hin c (by rw [htxt]; simp [hc])
      walk_at "ws"
      refine whb_c (fun _ => ?_) (fun z => nomatch z)
      walk_at "ws"
      refine w_ixL (by walk_at "sq") hxa ?_
      walk_at "ws"
      refine w_ixL (by walk_at "sq") hxax ?_
      walk_at "ws"
      intro dl0 H2 n2 e2 h2
      walk1
      walk1
      with_reducible apply w_sq
      refine w_cut (fun σ' H' => ∃ (kb2 : Addr) (p2 q2 k2 : Nat) (dl : Addr) (w2 w3 : List Wn) (b11 b12 b13 b14 b15 : Option V), σ' = [some (.ref w), some (.ref kb2), some (.int k2), some (.int base), some (.ref an), some (.int p2), some (.int q2), none, none, some (.ref ax), some (.ref dl), b11, b12, b13, b14, b15, none] ∧ Ex H H' ∧ DoneAt H' dl w2 ∧ k2 < (toldOf w2).length + (toldOf w3).length ∧ (∀ z, (toldOf (w2 ++ shiftW x.txt.length w3))[k2]? = some z → (toldOf ws0)[k0]? = some (base + z.1, z.2)) ∧ q2 < s.ts.length ∧ p2 ≤ nd.txt.length ∧
        (w3 ≠ [] → x.txt.length ≤ p2 ∧ (valV kvs (kkt (r', p2 - x.txt.length, q2))).isSome = true ∧ ∃ p3 q3, CP s y.txt (p2 - x.txt.length) q2 w3 p3 q3)) ?_ (fun N1 hN1 => ?_)
      · rintro σ' H3 ⟨kb2, p2, q2, k2, dl, w2, w3, c11, c12, c13, c14, c15, rfl, E3, hD, hk2, hz, hq2, hp2, hw3⟩
        obtain ⟨L, hL, hLw, hLx⟩ := id hD
        have hLlen : L.length = w2.length := by rw [hLw]; simp
        -- behind the seam's windows: on to the right
        with_reducible apply w_sq
        refine w_cut (fun σ' H' => ∃ (k4 : Nat) (b11 b12 b13 : Option V), σ' = [some (.ref w), some (.ref kb2), some (.int k4), some (.int base), some (.ref an), some (.int p2), some (.int q2), none, none, some (.ref ax), some (.ref dl), b11, b12, b13, c14, c15, none] ∧ Ex H H' ∧ k4 < (toldOf w3).length ∧ (∀ z, (toldOf (shiftW x.txt.length w3))[k4]? = some z → (toldOf ws0)[k0]? = some (base + z.1, z.2))) ?_ (fun N2 hN2 => ?_)
        · rintro σ' H4 ⟨k4, d11, d12, d13, rfl, E4, hk4, hz4⟩
          have hne : w3 ≠ [] := fun z => by rw [z] at hk4; simp [toldOf] at hk4
          obtain ⟨hge, hkr, p3, q3, hcp3⟩ := hw3 hne
          walk_at "ws"
          intro kb4 H5 n5 e5 h5
          walk_at "ws"
          intro t5 H6 n6 e6 h6
          walk_at "ws"
          have eq1 : (p2 : Int) - (x.txt.length : Int) = ((p2 - x.txt.length : Nat) : Int) := by omega
          have eq2 : (base : Int) + (x.txt.length : Int) = ((base + x.txt.length : Nat) : Int) := by omega
          rw [eq1] at h5
          rw [eq2]
          refine got ⟨r', hri, kb4, (r', p2 - x.txt.length, q2), y, w3, p3, q3, k4, base + x.txt.length, _, _, _, _, _, _, _, _, _, _, rfl, rfl, (by walk_at "ex"), (show H6 kb4 = some (.tup [.int (r' : Nat), .int ((p2 - x.txt.length : Nat) : Int), .int (q2 : Nat)]) from (by walk_at "hp")), ⟨hy1, by show p2 - x.txt.length ≤ _; omega, by omega, hq2, hiny⟩, hkr, hcp3, hk4, fun z hz' => ?_⟩
          have := hz4 (x.txt.length + z.1, z.2) (by rw [toldOf_shift, List.getElem?_map, hz']; rfl)
          rw [this, Nat.add_assoc]
        · walk_at "ws"
          refine forL (wl_list (L := L) (enc := Prod.fst)) (fun j σ' H' => ∃ (k4 : Nat) (b11 b12 b13 : Option V), σ' = [some (.ref w), some (.ref kb2), some (.int k4), some (.int base), some (.ref an), some (.int p2), some (.int q2), none, none, some (.ref ax), some (.ref dl), b11, b12, b13, c14, c15, none] ∧ Ex H3 H' ∧ k4 < (toldOf (w2.drop j)).length + (toldOf w3).length ∧ (∀ z, (toldOf (w2.drop j ++ shiftW x.txt.length w3))[k4]? = some z → (toldOf ws0)[k0]? = some (base + z.1, z.2)))
            ⟨k2, c11, c12, c13, rfl, Evl.Ex.refl _, by simpa using hk2, by simpa using hz⟩ (fun j σ' H' _ h => by obtain ⟨_, _, _, _, _, e, _⟩ := h; exact Evl.sq_of (e _ _ hL)) ?_ ?_
          · rintro j c σ' H4 hc ⟨k4, d11, d12, d13, rfl, E4, hk4, hz4⟩
            obtain ⟨ta, nl, g1, g2, g3⟩ := (hLx c (List.mem_of_getElem? hc)).up E4
            have hdrop : w2.drop j = c.2 :: w2.drop (j + 1) := by
              have hj := (List.getElem?_eq_some_iff.mp hc).1
              have hcj : w2[j]? = some c.2 := by rw [hLw, List.getElem?_map, hc]; rfl
              rw [List.drop_eq_getElem_cons (by omega)]
              congr 1
              exact (List.getElem?_eq_some_iff.mp hcj).2
            rw [hdrop] at hk4 hz4
            rw [List.cons_append, toldOf_cons] at hz4
            rw [toldOf_cons] at hk4
            rw [g1]
            walk_at "ws"
            refine if_c (fun hc1 => ?_) (fun hc1 => ?_)
            · have hc1 := of_decide_eq_true hc1
              have hc1 : k4 < c.2.2.2.length := by simpa using hc1
              have hck : c.2.2.2[k4]? = some c.2.2.2[k4] := by simp [hc1]
              walk_at "ws"
              refine w_ixL (Evl.sq_of g3) (by rw [List.getElem?_map, hck]; rfl) ?_
              walk_at "ws"
              intro t5 H5 n5 e5 h5
              have h9 := hz4 (c.2.1, c.2.2.2[k4]) (by rw [List.getElem?_append_left (by simp; omega), List.getElem?_map, hck]; rfl)
              refine q _ H5 _ (by walk_at "ex") h9 ⟨t5, rfl, ?_⟩
              rw [h5]
              simp
            · have hc1 := of_decide_eq_false hc1
              have hc1 : c.2.2.2.length ≤ k4 := by have : ¬ (k4 < c.2.2.2.length) := by simpa using hc1
                                                   omega
              walk_at "ws"
              have eq3 : (k4 : Int) - ((c.2.2.2.map fun (j : Nat) => V.int (j : Int)).length : Int) = ((k4 - c.2.2.2.length : Nat) : Int) := by simp; omega
              rw [eq3]
              refine got ⟨k4 - c.2.2.2.length, _, _, _, rfl, E4, ?_, fun z hz' => hz4 z ?_⟩
              · simp only [List.length_append, List.length_map] at hk4
                omega
              · rw [List.getElem?_append_right (by simp; omega), List.length_map]
                exact hz'
          · rintro σ' H4 ⟨k4, d11, d12, d13, rfl, E4, hk4, hz4⟩
            rw [hLlen, List.drop_length] at hk4 hz4
            exact hN2 _ _ ⟨k4, d11, d12, d13, rfl, ex_tr E4 E3, by simpa [toldOf] using hk4, by simpa using hz4⟩
      · walk_at "ws"
        refine if_c (fun hc1 => ?_) (fun hc1 => ?_)
        · have hc1 := of_decide_eq_true hc1
          have hc1 : p < x.txt.length := by omega
          obtain ⟨vf, hvf⟩ := Option.isSome_iff_exists.mp (hWS.cl _ hkno _ (.fst hv.hn hk hx1 hc1))
          obtain ⟨vs, hvs⟩ := Option.isSome_iff_exists.mp (hWS.cs _ nd x l r' hkno hv.hn hk hx1 hc1)
          obtain ⟨nd1, w1, p1, q1, a1, b1, vk1, c1, rfl, g1, s1⟩ := hWS.kn _ _ hvf
          have hnd1 := vk1.hn
          rw [hx1] at hnd1
          cases hnd1
          obtain ⟨nd2, x2, l2, r2, w1', p1', q1', w2, p2, q2, a2, dl, z1, z2, z3, z4, z5, z6, rfl, z8, z9⟩ := hWS.se _ _ hvs
          rw [hv.hn] at z1; cases z1
          rw [hk] at z2; cases z2
          rw [hx1] at z3; cases z3
          obtain ⟨rfl, rfl, rfl⟩ := z5.det c1
          obtain ⟨ds1, hs1⟩ := id s1
          have bd1 := c1.bd hok hinx hql (Nat.le_of_lt hc1)
          have hp1 : p1' ≤ x.txt.length := bd1.2.1
          have bd2 := z6.bd hok hv.hin bd1.2.2.1 (by omega)
          have hkid : x.txt.length ≤ p2 → (valV kvs (kkt (r', p2 - x.txt.length, q2))).isSome = true := fun h => hWS.cl _ hkno _ (.snd hv.hn hk hx1 hc1 c1 z6 h)
          -- the windows of the right part
          have hsplit : ∃ w3, (toldOf ws = toldOf w1' ++ (toldOf (w2 ++ shiftW x.txt.length w3))) ∧ (w3 ≠ [] → x.txt.length ≤ p2 ∧ (valV kvs (kkt (r', p2 - x.txt.length, q2))).isSome = true ∧ ∃ p3 q3, CP s y.txt (p2 - x.txt.length) q2 w3 p3 q3) := by
            by_cases hge : x.txt.length ≤ p2
            · obtain ⟨w3, p3, q3, c3⟩ := PB.ex hok hiny (b := y.txt.length) y.txt.length (p2 - x.txt.length) q2 (by omega) bd2.2.2.1
              refine ⟨w3, ?_, fun _ => ⟨hge, hkid hge, p3, q3, c3⟩⟩
              rw [htxt] at z6 hcp
              obtain ⟨rfl, _, _⟩ := hcp.det (c1.pair z6 c3 hge)
              rw [List.append_assoc, toldOf_app]
            · refine ⟨[], ?_, fun h => absurd rfl h⟩
              rw [htxt] at z6 hcp
              have b6 := bd2.2.2.2.2.2
              rw [htxt] at b6
              obtain ⟨rfl, _, _⟩ := hcp.det (c1.pair0 z6 (by omega) (fun h => b6 ⟨by omega, h⟩))
              rw [toldOf_app]
              simp [shiftW]
          obtain ⟨w3, ht3, hw3⟩ := hsplit
          walk_at "ws"
          intro kf H3 n3 e3 h3
          walk_at "ws"
          refine w_dgetT (ke := kkt (l, p, qq)) (kvs := kvs) (by walk_at "hp") h3 hvf ?_
          walk_at "ws"
          refine if_c (fun hc2 => ?_) (fun hc2 => ?_)
          · have hc2 := of_decide_eq_true hc2
            have hc2 : k < tellsOf w1' := by omega
            walk_at "ws"
            refine got ⟨l, hli, kf, (l, p, qq), x, w1', p1', q1', k, base, _, _, _, _, _, _, _, _, _, _, rfl, rfl, (by walk_at "ex"), h3, vk1, by rw [hvf]; rfl, c1, by rw [toldOf_len]; exact hc2, fun z hz => hx z ?_⟩
            rw [ht3, List.getElem?_append_left (by rw [toldOf_len]; exact hc2)]
            exact hz
          · have hc2 := of_decide_eq_false hc2
            have hc2 : tellsOf w1' ≤ k := by omega
            walk_at "ws"
            have eq3 : (k : Int) - (tellsOf w1' : Int) = ((k - tellsOf w1' : Nat) : Int) := by omega
            rw [eq3]
            refine w_dgetT (ke := kkt (m, p, qq)) (kvs := svs) (by walk_at "hp") (show H3 kb = _ from (by walk_at "hp")) hvs ?_
            walk_at "ws"
            rw [ht3] at hx hlt
            refine hN1 _ _ ⟨kb, p2, q2, k - tellsOf w1', dl, w2, w3, _, _, _, _, _, rfl, (by walk_at "ex"), z9.up (by walk_at "ex"), ?_, fun z hz => hx z ?_, bd2.2.2.1, bd2.2.1, hw3⟩
            · rw [List.length_append, toldOf_app, List.length_append, toldOf_shift, List.length_map] at hlt
              have := toldOf_len w1'
              omega
            · rw [List.getElem?_append_right (by rw [toldOf_len]; exact hc2), toldOf_len]
              exact hz
        · have hc1 := of_decide_eq_false hc1
          have hc1 : x.txt.length ≤ p := by omega
          walk_at "ws"
          obtain ⟨w3, p3, q3, c3⟩ := PB.ex hok hiny (b := y.txt.length) y.txt.length (p - x.txt.length) qq (by omega) hql
          have ht3 : toldOf ws = toldOf (shiftW x.txt.length w3) := by
            rw [htxt] at hcp
            obtain ⟨rfl, _, _⟩ := hcp.det (CP.pairR hc1 c3)
            rfl
          refine hN1 _ _ ⟨kb, p, qq, k, dl0, [], w3, _, _, _, _, _, rfl, (by walk_at "ex"), .nil h2, ?_, fun z hz => hx z ?_, hql, hpl, fun _ => ⟨hc1, hWS.cl _ hkno _ (.snd0 hv.hn hk hx1 hc1), p3, q3, c3⟩⟩
          · rw [ht3, toldOf_shift, List.length_map] at hlt
            simpa [toldOf] using hlt
          · rw [ht3]
            exact hz
end
section
variable {K : PySem.W.Frag} {mg : Str → Option Value}
abbrev oFar (K : PySem.W.Frag) (dx : Addr) (c n t w r l : V) : HO := .ins (cFar K) dx [("cost", c), ("windows", n), ("told", t), ("own_walk", w), ("own_root", r), ("own_last", l)]
theorem toldOf_le (ws : List Wn) (h : ∀ w ∈ ws, w.2.2.length ≤ 12) : (toldOf ws).length ≤ ws.length * 12 := by
  rw [toldOf_len]
  unfold tellsOf
  induction ws with
  | nil => simp
  | cons y ys ih =>
    have h6 := h y (List.mem_cons_self ..)
    have h7 := ih (fun z hz => h z (List.mem_cons_of_mem _ hz))
    simp only [List.map_cons, List.sum_cons, List.length_cons]
    omega
/-- the windows of a far search: those within the root's text, then the last one -/
structure FarAt (K : PySem.W.Frag) (H : Hp) (f : Addr) (s : Sr) (ns : List Nd) (root : Nat) (nd : Nd) (ws last : List Wn) (p' q' : Nat) : Prop where
  cp : CP s nd.txt 0 0 ws p' q'
  vk : VKy s ns (root, 0, 0) nd
  ob : ∃ dx w l r kd sd kvs svs, H f = some (oFar K dx (.int ((costOf ws + costOf last : Nat) : Int)) (.int ((ws.length + last.length : Nat) : Int)) (.int ((tellsOf ws + tellsOf last : Nat) : Int)) (.ref w) (.int (root : Int)) (.ref l)) ∧ WS K H w s r kd sd ns kvs svs ∧ (valV kvs (kkt (root, 0, 0))).isSome = true ∧ PrsAt H l (toldOf last)
theorem FarAt.up {H H' : Hp} {f : Addr} {s : Sr} {ns : List Nd} {root : Nat} {nd : Nd} {ws last : List Wn} {p' q' : Nat} (e : Ex H H') (h : FarAt K H f s ns root nd ws last p' q') : FarAt K H' f s ns root nd ws last p' q' := by
  obtain ⟨h1, h2, dx, w, l, r, kd, sd, kvs, svs, h3, h4, h5, h6⟩ := h
  exact ⟨h1, h2, dx, w, l, r, kd, sd, kvs, svs, e _ _ h3, h4.up e, h5, h6.up e⟩
def sp_Far_told_at (K : PySem.W.Frag) : Sp := fun vs H Q E => ∃ f s ns root nd ws last p' q' k, vs = [.ref f, .int (k : Nat)] ∧ FarAt K H f s ns root nd ws last p' q' ∧ k < (toldOf ws ++ toldOf last).length ∧
  ∀ v H' x, Ex H H' → (toldOf ws ++ toldOf last)[k]? = some x → PrAt H' v x → Q v H'
theorem rd_Far_told_at (T : Tx K mg) : ∀ vs H Q E, sp_Far_told_at K vs H Q E → t_Far_told_at K (sp_Walk_told_in K) { nx := fun _ H' => Q .non H', rt := Q } (start N_Far_told_at vs) H := by
  intro vs H Q E ⟨f, s, ns, root, nd, ws, last, p', q', k, hv, ⟨hcp, hvk, dx, w, l, r, kd, sd, kvs, svs, hf, hWS, hkn, vs', hl, hll, hlx⟩, hk, q⟩
  subst hv
  show t_Far_told_at K (sp_Walk_told_in K) { nx := fun _ H' => Q .non H', rt := Q } [some (.ref f), some (.int k), none] H
  rw [List.length_append, toldOf_len, toldOf_len] at hk
  rw [toldOf_len] at hll
  unfold t_Far_told_at
  have e1 : ((tellsOf ws + tellsOf last : Nat) : Int) - (vs'.length : Int) = ((tellsOf ws : Nat) : Int) := by omega
  walk_at "ws"
  rw [e1]
  refine if_c (fun hc => ?_) (fun hc => ?_)
  · have hc := of_decide_eq_true hc
    have hc : tellsOf ws ≤ k := by omega
    have hlt : k - tellsOf ws < vs'.length := by omega
    have hv : vs'[k - tellsOf ws]? = some vs'[k - tellsOf ws] := by simp [hlt]
    obtain ⟨x, hx⟩ : ∃ x, (toldOf last)[k - tellsOf ws]? = some x := ⟨(toldOf last)[k - tellsOf ws]'(by rw [toldOf_len]; omega), List.getElem?_eq_getElem _⟩
    walk_at "ws"
    refine w_ixLI (n := k - tellsOf ws) (by omega) (by walk_at "sq") hv ?_
    exact q _ H x (Evl.Ex.refl _) (by rw [List.getElem?_append_right (by rw [toldOf_len]; exact hc), toldOf_len]; exact hx) (hlx _ x _ hx hv)
  · have hc := of_decide_eq_false hc
    have hc : k < tellsOf ws := by omega
    obtain ⟨dw, aw, hw, hS⟩ := id hWS.hw
    walk_at "ws"
    intro t H1 n1 e1 h1
    walk_at "ws"
    refine ⟨w, s, r, kd, sd, ns, kvs, svs, t, (root, 0, 0), nd, ws, p', q', k, rfl, h1, hWS.up e1, hvk, hkn, hcp, by rw [toldOf_len]; exact hc, fun v H2 x e2 hx hp => q v H2 x (ex_tr e2 e1) ?_ hp⟩
    rw [List.getElem?_append_left (by rw [toldOf_len]; exact hc)]
    exact hx
/-- all but instances without attributes stays -/
def ExN (H H' : Hp) : Prop := ∀ a o, (∀ C dx, o ≠ .ins C dx []) → H a = some o → H' a = some o
theorem ExN.ml {H H' : Hp} {x C dx : Addr} (m : Ml x H H') (h : H x = some (.ins C dx [])) : ExN H H' := fun a o n ha => m a o (fun z => by rw [z, h] at ha; exact n _ _ (Option.some.inj ha).symm) ha
theorem ExN.t {H H' : Hp} (e : ExN H H') : ExT H H' := fun a xs h => e a _ (fun _ _ z => nomatch z) h
theorem ExN.l {H H' : Hp} (e : ExN H H') {a : Addr} {xs : List V} (h : H a = some (.lst xs)) : H' a = some (.lst xs) := e a _ (fun _ _ z => nomatch z) h
theorem ExN.d {H H' : Hp} (e : ExN H H') {a : Addr} {xs : List (List Key × V)} (h : H a = some (.dT xs)) : H' a = some (.dT xs) := e a _ (fun _ _ z => nomatch z) h
theorem ExN.i {H H' : Hp} (e : ExN H H') {a C dx : Addr} {f : Str × V} {fs : List (Str × V)} (h : H a = some (.ins C dx (f :: fs))) : H' a = some (.ins C dx (f :: fs)) := e a _ (fun _ _ z => nomatch (HO.ins.inj z).2.2) h
theorem SumsAt.upN {H H' : Hp} {a : Addr} {c n t : Nat} (e : ExN H H') (h : SumsAt K H a c n t) : SumsAt K H' a c n t := by
  obtain ⟨dx, h⟩ := h
  exact ⟨dx, e.i h⟩
theorem DoneAt.upN {H H' : Hp} {a : Addr} {ws : List Wn} (e : ExN H H') (h : DoneAt H a ws) : DoneAt H' a ws := by
  obtain ⟨L, h1, h2, h3⟩ := h
  refine ⟨L, e.l h1, h2, fun x hx => ?_⟩
  obtain ⟨b, nl, g1, g2, g3⟩ := h3 x hx
  exact ⟨b, nl, g1, e.t _ _ g2, e.l g3⟩
theorem RowsAt.upN {H H' : Hp} {r : Addr} {ns : List Nd} (e : ExN H H') (h : RowsAt K H r ns) : RowsAt K H' r ns := by
  obtain ⟨h0, as, h1, h2, h3⟩ := h
  refine ⟨h0, as, e.l h1, h2, fun i a n x y => ?_⟩
  obtain ⟨dx, x1, g1, g2⟩ := h3 i a n x y
  exact ⟨dx, x1, e.i g1, e.t _ _ g2⟩
theorem SrAt.upN {H H' : Hp} {a : Addr} {s : Sr} (e : ExN H H') (h : SrAt K H a s) : SrAt K H' a s := by
  obtain ⟨h0, dx, p, tot, vs, h1, h2, h3, h4⟩ := h
  exact ⟨h0, dx, p, tot, vs, e.i h1, e.t _ _ h2, h3, fun i v t x y => (h4 i v t x y).up e.t⟩
theorem WalkF.upN {H H' : Hp} {w r kd sd : Addr} {s : Sr} (e : ExN H H') (h : WalkF K H w s r kd sd) : WalkF K H' w s r kd sd := by
  obtain ⟨dx, a, h1, h2⟩ := h
  exact ⟨dx, a, e.i h1, h2.upN e⟩
theorem WS.upN {H H' : Hp} {w : Addr} {s : Sr} {r kd sd : Addr} {ns : List Nd} {kvs svs : List (List Key × V)} (e : ExN H H') (h : WS K H w s r kd sd ns kvs svs) : WS K H' w s r kd sd ns kvs svs := by
  refine ⟨h.hw.upN e, h.hr.upN e, e.d h.hk, e.d h.hs, h.ne, h.nl, h.b1, h.b2, fun c v x => ?_, fun c v x => ?_, h.cl, h.cs⟩
  · obtain ⟨nd, ws, p', q', a, b, h1, h2, h3, h4, h5⟩ := h.kn c v x
    exact ⟨nd, ws, p', q', a, b, h1, h2, h3, e.t _ _ h4, h5.upN e⟩
  · obtain ⟨nd, x, l', r', w1, p1, q1, ws, p2, q2, a, dl, h1, h2, h3, h4, h5, h6, h7, h8, h9⟩ := h.se c v x
    exact ⟨nd, x, l', r', w1, p1, q1, ws, p2, q2, a, dl, h1, h2, h3, h4, h5, h6, h7, e.t _ _ h8, h9.upN e⟩
def sp_Far_init (K : PySem.W.Frag) : Sp := fun vs H Q E => ∃ x dx w s r kd sd ns kvs svs root nd ws last p' q' dl, vs = [.ref x, .ref w, .int (root : Nat), .ref dl] ∧ H x = some (.ins (cFar K) dx []) ∧ WS K H w s r kd sd ns kvs svs ∧ VKy s ns (root, 0, 0) nd ∧ (valV kvs (kkt (root, 0, 0))).isSome = true ∧ CP s nd.txt 0 0 ws p' q' ∧ DoneAt H dl last ∧ last.length ≤ 1 ∧ (∀ w ∈ last, w.2.2.length ≤ 12) ∧
  ∀ H', Ml x H H' → FarAt K H' x s ns root nd ws last p' q' → Q .non H'
theorem rd_Far_init (T : Tx K mg) : ∀ vs H Q E, sp_Far_init K vs H Q E → t_Far_init K (sp_Sums_plus K) (sp_Walk_summed K) { nx := fun _ H' => Q .non H', rt := Q } (start N_Far_init vs) H := by
  intro vs H Q E ⟨x, dx, w, s, r, kd, sd, ns, kvs, svs, root, nd, ws, last, p', q', dl, hv, hx, hWS, hVK, hkn, hcp, hD, hl1, hl12, q⟩
  subst hv
  show t_Far_init K (sp_Sums_plus K) (sp_Walk_summed K) { nx := fun _ H' => Q .non H', rt := Q } [some (.ref x), some (.ref w), some (.int root), some (.ref dl), none, none, none, none, none] H
  obtain ⟨dw, aw, hw, hS⟩ := id hWS.hw
  have hkd := hWS.hk
  obtain ⟨v0, hv0⟩ := Option.isSome_iff_exists.mp hkn
  obtain ⟨nd1, ws1, p1, q1, a1, b1, vk1, c1, rfl, g1, s1⟩ := hWS.kn _ _ hv0
  have hnd1 := vk1.hn
  rw [hVK.hn] at hnd1
  cases hnd1
  obtain ⟨rfl, rfl, rfl⟩ := hcp.det c1
  unfold t_Far_init
  walk_at "ws"
  intro t H1 n1 e1 h1
  walk_at "ws"
  refine w_dgetT (ke := kkt (root, 0, 0)) (kvs := kvs) (by walk_at "hp") h1 hv0 ?_
  obtain ⟨ds1, hs1⟩ := id s1
  walk_at "ws"
  refine ⟨w, dl, last, rfl, hD.up e1, by omega, fun z2 H2 n2 e2 hz2 => ?_⟩
  walk_at "ws"
  refine ⟨b1, z2, _, _, _, _, _, _, rfl, s1.up (ExU.of (by walk_at "ex")), hz2, fun z3 H3 n3 e3 hz3 => ?_⟩
  obtain ⟨dz3, hz3'⟩ := id hz3
  have E3 : Ex H H3 := (by walk_at "ex")
  have zx : z3 ≠ x := ne_ins0 hz3' (E3 _ _ hx)
  walk_at "ws"
  intro H4 m4 h4
  have g4 : H4 z3 = some (oSums K dz3 (.int ((costOf ws + costOf last : Nat) : Int)) (.int ((ws.length + last.length : Nat) : Int)) (.int ((tellsOf ws + tellsOf last : Nat) : Int))) := m4 _ _ zx hz3'
  walk_at "ws"
  intro H5 m5 h5
  have g5 := m5 _ _ zx g4
  walk_at "ws"
  intro H6 m6 h6
  walk_at "ws"
  intro H7 m7 h7
  walk_at "ws"
  intro H8 m8 h8
  have M8 : Ml x H H8 := (by walk_at "ml")
  obtain ⟨L, hL, hLw, hLx⟩ := id hD
  have u : ∀ {H' : Hp}, Ml x H H' → ∀ {a : Addr} {o : HO}, (hoK o == 4) = false → H a = some o → H' a = some o := fun {H'} m {a o} n h => m a o (ne_kind h hx (fun z => by rw [z] at n; simp [hoK] at n)) h
  have hL8 : H8 dl = some (.lst (L.map Prod.fst)) := u M8 rfl hL
  have hLx8 : ∀ c ∈ L, WnAt H8 c.1 c.2 := fun c hc => by
    obtain ⟨ta, nl, g1, g2, g3⟩ := hLx c hc
    exact ⟨ta, nl, g1, u M8 rfl g2, u M8 rfl g3⟩
  have hflat : (L.flatMap fun c => (c.2.2.2).map ((fun c j => (c.2.1, j)) c)) = toldOf last := by
    rw [hLw]
    simp [toldOf, List.flatMap_map]
  walk_at "ws"
  refine lc2R (wl_list (L := L) (enc := Prod.fst)) (by walk_at "wp") (fun c => c.2.2.2) (fun (j : Nat) => V.int (j : Int)) (fun c j => (c.2.1, j)) (by
    rw [hflat]
    have := toldOf_le last hl12
    omega) (fun x v H => PrAt H v x) (fun x y H H' e h => h.up e) (fun H' e => Evl.sq_of (e _ _ hL8)) ?_ ?_
  · intro c H9 hc e9 R hR
    obtain ⟨ta', nl', h1', h2', h3'⟩ := hLx8 c hc
    have h2 := e9 _ _ h2'
    rw [h1']
    walk_at "ws"
    refine hR _ _ _ _ _ (Evl.Ex.refl _) (wl_list (a := nl')) (fun H5 e5 => Evl.sq_of (e5 _ _ h3')) (by walk_at "wp") fun b H10 hb e10 EE hE => ?_
    walk_at "ws"
    intro ta2 H11 n11 e11 h11
    exact hE _ _ ⟨ta2, rfl, h11⟩ e11
  · intro D ys H9 n9 e9 hyl hys h9
    rw [hflat] at hyl hys
    walk_at "ws"
    intro H10 m10 h10
    have M10 : Ml x H H10 := (by walk_at "ml")
    have D10 : H10 D = some (.lst ys) := m10 _ _ (ne_new' n9 h8) h9
    have T910 : ExT H9 H10 := ml_t m10 (e9 _ _ h8) (fun _ z => nomatch z)
    refine q H10 M10 ⟨hcp, hVK, dx, w, D, r, kd, sd, kvs, svs, h10, hWS.upN (.ml M10 hx), hkn, ys, D10, hyl, fun i x v g1 g2 => (hys i x v g1 g2).up T910⟩
end
section
variable {K : PySem.W.Frag} {mg : Str → Option Value}
abbrev oWeave (K : PySem.W.Frag) (dx : Addr) (ls n r s : V) : HO := .ins (cWeave K) dx [("letters", ls), ("own_nodes", n), ("own_root", r), ("size", s)]
structure WvAt (K : PySem.W.Frag) (H : Hp) (wv : Addr) (ls : List Nat) (ns : List Nd) (root : Nat) (nd : Nd) : Prop where
  ob : ∃ dx n dn r, H wv = some (oWeave K dx (.str (S ls)) (.ref n) (.int (root : Int)) (.int (nd.txt.length : Int))) ∧ H n = some (oNodes K dn r) ∧ RowsAt K H r ns
  hn : ns[root]? = some nd
  nl : ns.length ≤ 1000
theorem WvAt.up {H H' : Hp} {wv : Addr} {ls : List Nat} {ns : List Nd} {root : Nat} {nd : Nd} (e : Ex H H') (h : WvAt K H wv ls ns root nd) : WvAt K H' wv ls ns root nd := by
  obtain ⟨⟨dx, n, dn, r, h1, h2, h3⟩, h4, h5⟩ := h
  exact ⟨⟨dx, n, dn, r, e _ _ h1, e _ _ h2, h3.up e⟩, h4, h5⟩
def lastOf (s : Sr) (T : List Nat) (p q : Nat) : List Wn := if p + s.m = T.length then [(p, (stp s T p q).cost, (stp s T p q).tells)] else []
def sp_far (K : PySem.W.Frag) : Sp := fun vs H Q E => ∃ a s wv ns root nd, vs = [.ref a, .ref wv] ∧ SrAt K H a s ∧ WvAt K H wv s.ls ns root nd ∧ nd.txt.length ≤ 2000 ∧ (∀ c ∈ nd.txt, c ∈ s.ls) ∧
  ∀ f H' ws p' q', Ex H H' → FarAt K H' f s ns root nd ws (lastOf s nd.txt p' q') p' q' → Q (.ref f) H'
theorem rd_far (T : Tx K mg) : ∀ vs H Q E, sp_far K vs H Q E → t_far K (sp_Walk_init K) (sp_Walk_solved K) (sp_WindowTurn_init K) (sp_Far_init K) { nx := fun _ H' => Q .non H', rt := Q } (start N_far vs) H := by
  intro vs H Q E ⟨a, s, wv, ns, root, nd, hv, hS, hW, hl, hin, q⟩
  subst hv
  show t_far K (sp_Walk_init K) (sp_Walk_solved K) (sp_WindowTurn_init K) (sp_Far_init K) { nx := fun _ H' => Q .non H', rt := Q } [some (.ref a), some (.ref wv), none, none, none, none, none, none, none, none] H
  obtain ⟨⟨dw, n, dn, r, hwv, hn, hR⟩, hroot, hnl⟩ := id hW
  obtain ⟨hok, dS, pS, tot, vS, hSa, hSp, _⟩ := id hS
  have hVK : VKy s ns (root, 0, 0) nd := ⟨hroot, Nat.zero_le _, hl, by show 0 < s.ts.length; have := hok.n1; omega, hin⟩
  unfold t_far
  walk_at "ws"
  refine if_f (by simp) ?_
  walk_at "ws"
  refine w_mkv fun w dx H1 nw e1 h1 => ⟨w, dx, a, n, dn, r, rfl, h1, e1 _ _ hn, fun kd sd H2 nk ns' nks m2 h2 k2 s2 => ⟨rfl, ?_⟩⟩
  have E2 : Ex H H2 := ml_new nw e1 m2
  have hwn2 : ∀ {b : Addr} {o : HO}, H b = some o → H2 b = some o := fun h => E2 _ _ h
  have W2 : WS K H2 w s r kd sd ns [] [] := ⟨⟨dx, a, h2, hS.up (ExU.of E2)⟩, hR.up E2, k2, s2, nks, hnl, .nil, .nil, fun c v h => (by simp [valV] at h), fun c v h => (by simp [valV] at h), fun c h => (by simp [valV] at h), fun c _ _ _ _ h => (by simp [valV] at h)⟩
  walk_at "ws"
  refine ⟨w, s, r, kd, sd, ns, [], [], (root, 0, 0), nd, rfl, W2, hVK, fun v H3 kvs svs m3 W3 hv3 => ?_⟩
  have nk0 : H kd = none := nn_back e1 nk
  have ns0 : H sd = none := nn_back e1 ns'
  have E3 : Ex H H3 := fun b o h => m3 b o (ne_new h nk0) (ne_new h ns0) (E2 b o h)
  obtain ⟨nd1, ws1, p1, q1, a1, b1, vk1, c1, rfl, g1, s1⟩ := W3.kn _ _ hv3
  have hnd1 := vk1.hn
  rw [hroot] at hnd1
  cases hnd1
  have bd := c1.bd hok hin (by show 0 < s.ts.length; have := hok.n1; omega) (Nat.zero_le _)
  walk_at "ws"
  intro l H4 n4 e4 h4
  walk1
  -- the end
  have fin : ∀ (H5 : Hp) (b9 : Option V), Ex H H5 → WS K H5 w s r kd sd ns kvs svs → DoneAt H5 l (lastOf s nd.txt p1 q1) → (tRet (tMake (cFar K) (sp_Far_init K) [] E0 (tCons (tVar 2) (tCons (tVar 3) (tCons (tVar 8) tNil))))) { nx := fun _ H' => Q .non H', rt := Q } [some (.ref a), some (.ref wv), some (.ref w), some (.int root), some (.int s.m), some (.int p1), some (.int q1), some (.ref b1), some (.ref l), b9] H5 := by
    intro H5 b9 E5 W5 D5
    have hlast : (lastOf s nd.txt p1 q1).length ≤ 1 ∧ ∀ w ∈ lastOf s nd.txt p1 q1, w.2.2.length ≤ 12 := by
      unfold lastOf
      split
      · refine ⟨by simp, fun w hw => ?_⟩
        rw [List.mem_singleton.mp hw]
        exact (stp_ok hok hin (p := p1) bd.2.2.1).2.1
      · exact ⟨by simp, fun w hw => nomatch hw⟩
    walk_at "ws"
    refine w_mkv fun f df H6 nf e6 h6 => ⟨f, df, w, s, r, kd, sd, ns, kvs, svs, root, nd, ws1, _, p1, q1, l, rfl, h6, W5.up e6, hVK, by rw [hv3]; rfl, c1, D5.up e6, hlast.1, hlast.2, fun H7 m7 hF => ⟨rfl, q f H7 ws1 p1 q1 ?_ hF⟩⟩
    exact ml_new (nn_back E5 nf) (ex_tr e6 E5) m7
  with_reducible apply w_sq
  refine w_cut (fun σ' H5 => ∃ b9, σ' = [some (.ref a), some (.ref wv), some (.ref w), some (.int root), some (.int s.m), some (.int p1), some (.int q1), some (.ref b1), some (.ref l), b9] ∧ Ex H H5 ∧ WS K H5 w s r kd sd ns kvs svs ∧ DoneAt H5 l (lastOf s nd.txt p1 q1)) ?_ (fun N hN => ?_)
  · rintro σ' H5 ⟨b9, rfl, E5, W5, D5⟩
    exact fin H5 b9 E5 W5 D5
  have hwv4 : H4 wv = some (oWeave K dw (.str (S s.ls)) (.ref n) (.int (root : Int)) (.int (nd.txt.length : Int))) := e4 _ _ (E3 _ _ hwv)
  have hS4 : SrAt K H4 a s := (hS.up (ExU.of E3)).up (ExU.of e4)
  walk_at "ws"
  refine if_c (fun hc => ?_) (fun hc => ?_)
  · have hc := of_decide_eq_true hc
    have hc : p1 + s.m = nd.txt.length := by omega
    obtain ⟨xs, an, hr4, hxl, hxa, ⟨dn4, en, hna, hen⟩⟩ := ((hR.up E3).up e4).get hroot
    have hn4 : H4 n = some (oNodes K dn r) := e4 _ _ (E3 _ _ hn)
    have m1 := hok.m1
    have m8 := hok.m8
    walk_at "ws"
    refine w_ixL (by walk_at "sq") hxa ?_
    walk_at "ws"
    have ew : (last8 nd.txt).drop ((last8 nd.txt).length - s.m) = win s nd.txt p1 := by
      unfold win
      simp only [last8, List.drop_drop, List.length_drop]
      rw [List.take_of_length_le (by simp; omega)]
      congr 1
      omega
    refine w_slSe (by simp; omega) (cut_last (n := s.m) (by omega) (by omega)) ?_
    rw [ew]
    walk_at "ws"
    refine mk_turn hS4 (tr_get bd.2.2.1) (by have : (win s nd.txt p1).length = s.m := by unfold win; simp; omega
                                             omega) (win_in hin p1) (by have := win_len s nd.txt p1; omega) fun z H5 n5 e5 hT => ?_
    have hT' : TurnAt K H4 H5 z (stp s nd.txt p1 q1) := hT
    obtain ⟨dt, rl, nl, rs, frl, fnl, hx, hrr, hrs, hnn⟩ := hT'
    walk_at "ws"
    intro t H6 n6 e6 h6
    walk_at "ws"
    refine w_append (xs := []) (by walk_at "hp") (by simp) fun H7 m7 h7 => ?_
    walk_at "ws"
    have F37 : Ex H3 H7 := ml_new n4 (by walk_at "ex") m7
    have tl : t ≠ l := ne_kind h6 (show H6 l = some (.lst []) from (by walk_at "hp")) (fun z => nomatch z)
    have nll : nl ≠ l := ne_new' fnl h4
    refine hN _ _ ⟨_, rfl, ex_tr F37 E3, W3.up F37, ⟨[(.ref t, (p1, (stp s nd.txt p1 q1).cost, (stp s nd.txt p1 q1).tells))], h7, ?_, fun x hx' => ?_⟩⟩
    · unfold lastOf
      rw [if_pos hc]
      rfl
    · rw [List.mem_singleton.mp hx']
      exact ⟨t, nl, rfl, m7 _ _ tl (by rw [h6, hrs]), m7 _ _ nll (e6 _ _ hnn)⟩
  · have hc := of_decide_eq_false hc
    have hc : ¬ (p1 + s.m = nd.txt.length) := by omega
    walk_at "ws"
    refine hN _ _ ⟨_, rfl, (by walk_at "ex"), W3.up e4, ?_⟩
    unfold lastOf
    rw [if_neg hc]
    exact .nil h4
end
section
variable {K : PySem.W.Frag} {mg : Str → Option Value}
def sp_check_text (K : PySem.W.Frag) : Sp := fun vs H Q E => ∃ ls X, vs = [.str (S ls), .str (S X)] ∧ (∀ c ∈ X, c ∈ ls) ∧ ∀ H', Ex H H' → Q .non H'
theorem for_enumS {X : List Nat} {g : TG} {tb : TS} {D : Ends} {σ : SlS} {H : Hp} (P : Nat → SlS → Hp → Prop) (h0 : P 0 σ H)
    (hs : ∀ i c σ H p H1, X[i]? = some c → P i σ H → H p = none → Ex H H1 → H1 p = some (.tup [.int (i : Nat), .str (S [c])]) → g (.ref p) σ H1 fun σ2 H2 => tb { D with nx := fun σ H => Got (P (i + 1) σ H), ct := fun σ H => Got (P (i + 1) σ H), bk := D.nx } σ2 H2) (hd : ∀ σ H, P X.length σ H → D.nx σ H) : ForV (IteS (S X)) g tb D σ H := by
  have sz : (S X).cps.size = X.length := by simp
  refine ⟨fun i m σ H => m = X.length - i ∧ i ≤ X.length ∧ P i σ H, ⟨X.length, by simp, Nat.zero_le _, h0⟩, ?_⟩
  rintro i m σ H ⟨rfl, hi, hp⟩
  by_cases hlt : i < X.length
  · refine .inr ⟨by show i < _; rw [sz]; exact hlt, fun σ H => Got (P (i + 1) σ H), fun σ' H' h => ⟨X.length - (i + 1), by omega, rfl, hlt, h⟩, fun x H' y => ?_⟩
    obtain ⟨p, c, rfl, hn, rfl, hc⟩ := y
    exact hs i c σ H p _ (by simpa using hc) hp hn (Evl.Ex.new hn) upd_same
  · have e : i = X.length := by omega
    subst e
    exact .inl ⟨by show X.length = _; rw [sz], hd σ H hp⟩
def EsV (vs : List V) (H : Hp) (R : It → Hp → Prop) : Prop := ∃ x, vs = [.str x] ∧ R (IteS x) H
theorem w_iEnumS {ts : TA} {σ : SlS} {H : Hp} {R : It → Hp → Prop} (q : ts σ H fun vs H1 => EsV vs H1 R) : iEnumS ts σ H R := q
theorem w_esv {x : Str} {H : Hp} {R : It → Hp → Prop} (q : R (IteS x) H) : EsV [.str x] H R := ⟨x, rfl, q⟩
theorem rd_check_text (T : Tx K mg) : ∀ vs H Q E, sp_check_text K vs H Q E → t_check_text K { nx := fun _ H' => Q .non H', rt := Q } (start N_check_text vs) H := by
  intro vs H Q E ⟨ls, X, hv, hin, q⟩
  subst hv
  show t_check_text K { nx := fun _ H' => Q .non H', rt := Q } [some (.str (S ls)), some (.str (S X)), none, none] H
  unfold t_check_text
  walk_at "ws"
  refine w_iEnumS ?_
  walk_at "ws"
  refine w_esv ?_
  refine for_enumS (fun i σ' H' => ∃ b2 b3, σ' = [some (.str (S ls)), some (.str (S X)), b2, b3] ∧ Ex H H') ⟨none, none, rfl, Evl.Ex.refl _⟩ ?_ ?_
  · rintro i c σ' H1 p H2 hc ⟨b2, b3, rfl, e1⟩ n2 e2 h2
    have hcl := hin c (List.mem_of_getElem? hc)
    walk_at "ws"
    exact got ⟨_, _, rfl, (by walk_at "ex")⟩
  · rintro σ' H1 ⟨b2, b3, rfl, e1⟩
    exact q H1 e1
abbrev oTrace (K : PySem.W.Frag) (dx : Addr) (w t c : V) : HO := .ins (cTrace K) dx [("windows", w), ("told", t), ("cost", c)]
/-- a window of a trace -/
def TwAt (H : Hp) (v : V) (w : Wn) : Prop := ∃ a st rt rs, v = .ref a ∧ H a = some (.tup [.int (w.1 : Int), st, .ref rt]) ∧ H rt = some (.tup rs) ∧ rs.length = w.2.1
theorem TwAt.up {H H' : Hp} {v : V} {w : Wn} (e : ExT H H') (h : TwAt H v w) : TwAt H' v w := by
  obtain ⟨a, st, rt, rs, h1, h2, h3, h4⟩ := h
  exact ⟨a, st, rt, rs, h1, e _ _ h2, e _ _ h3, h4⟩
structure TrcAt (K : PySem.W.Frag) (H : Hp) (t : Addr) (ws : List Wn) : Prop where
  ob : ∃ dx wt tt ys, H t = some (oTrace K dx (.ref wt) (.ref tt) (.int (costOf ws : Int))) ∧ (∃ vs, H wt = some (.tup vs) ∧ vs.length = ws.length) ∧ H tt = some (.tup ys) ∧ ys.length = (toldOf ws).length ∧ ∀ (i : Nat) x v, (toldOf ws)[i]? = some x → ys[i]? = some v → PrAt H v x
def sp_Trace_init (K : PySem.W.Frag) : Sp := fun vs H Q E => ∃ x dx wl tl ys, ∃ L : List (V × Wn), vs = [.ref x, .ref wl, .ref tl] ∧ H x = some (.ins (cTrace K) dx []) ∧ H wl = some (.lst (L.map Prod.fst)) ∧ (∀ c ∈ L, TwAt H c.1 c.2) ∧ L.length ≤ 5000 ∧ H tl = some (.lst ys) ∧ ys.length = (toldOf (L.map Prod.snd)).length ∧ (∀ (i : Nat) x v, (toldOf (L.map Prod.snd))[i]? = some x → ys[i]? = some v → PrAt H v x) ∧
  ∀ H', Ml x H H' → TrcAt K H' x (L.map Prod.snd) → Q .non H'
theorem rd_Trace_init (T : Tx K mg) : ∀ vs H Q E, sp_Trace_init K vs H Q E → t_Trace_init K { nx := fun _ H' => Q .non H', rt := Q } (start N_Trace_init vs) H := by
  intro vs H Q E ⟨x, dx, wl, tl, ys, L, hv, hx, hwl, hL, hlen, htl, hyl, hys, q⟩
  subst hv
  show t_Trace_init K { nx := fun _ H' => Q .non H', rt := Q } [some (.ref x), some (.ref wl), some (.ref tl), none, none, none] H
  unfold t_Trace_init
  walk_at "ws"
  refine w_tupL (by walk_at "sq") fun wt H1 n1 e1 h1 => ?_
  walk_at "ws"
  intro H2 m2 h2
  have htl2 : H2 tl = some (.lst ys) := (by walk_at "hp")
  walk_at "ws"
  refine w_tupL (by walk_at "sq") fun tt H3 n3 e3 h3 => ?_
  walk_at "ws"
  intro H4 m4 h4
  have u14 : ExT H H4 := ((Ex.t e1).trans (ml_t m2 (e1 _ _ hx) (fun _ z => nomatch z))).trans ((Ex.t e3).trans (ml_t m4 (e3 _ _ h2) (fun _ z => nomatch z)))
  have hwt4 : H4 wt = some (.tup (L.map Prod.fst)) := (by walk_at "hp")
  have htt4 : H4 tt = some (.tup ys) := (by walk_at "hp")
  have M4 : Ml x H H4 := (by walk_at "ml")
  walk_at "ws"
  refine lcP (wl_tup (L := L) (enc := Prod.fst)) (by walk_at "wp") (by omega) (fun _ => true) (fun c => .int (c.2.2.1 : Int)) (fun H' e => Evl.st_of (e _ _ hwt4)) ?_ ?_
  · intro c H5 hc e5 EE N hE hN
    obtain ⟨a, st, rt, rs, g1, g2, g3, g4⟩ := ((hL c hc).up u14).up (Ex.t e5)
    rw [g1]
    walk_at "ws"
    exact hE _ _ rfl (by rw [g4]) (Evl.Ex.refl _)
  · intro D H5 n5 e5 h5
    rw [filter_t] at h5
    walk_at "ws"
    refine w_sum (ns := L.map fun c => ((c.2.2.1 : Nat) : Int)) (Evl.sq_of (by rw [h5]; simp [Function.comp_def])) ?_
    walk_at "ws"
    intro H6 m6 h6
    have u6 : ExT H H6 := u14.trans ((Ex.t e5).trans (ml_t m6 (e5 _ _ h4) (fun _ z => nomatch z)))
    refine q H6 (ml_trR m6 (ml_exR e5 M4)) ⟨dx, wt, tt, ys, ?_, ⟨L.map Prod.fst, (by walk_at "hp"), by simp⟩, (by walk_at "hp"), hyl, fun i x v g1 g2 => (hys i x v g1 g2).up u6⟩
    rw [h6, sum_cast]
    simp [costOf, Function.comp_def]
end
section
variable {K : PySem.W.Frag} {mg : Str → Option Value}
def sp_trace (K : PySem.W.Frag) : Sp := fun vs H Q E => ∃ a s X, vs = [.ref a, .str (S X)] ∧ SrAt K H a s ∧ X.length ≤ 2000 ∧ (∀ c ∈ X, c ∈ s.ls) ∧
  ∀ t H' ws p' q', Ex H H' → CP s X 0 0 ws p' q' → TrcAt K H' t (ws ++ lastOf s X p' q') → Q (.ref t) H'
/-- what holds of the two lists -/
structure LsAt (H H' : Hp) (wl tl : Addr) (L : List (V × Wn)) (ys : List V) : Prop where
  e : Ex H H'
  wl : H' wl = some (.lst (L.map Prod.fst))
  tw : ∀ c ∈ L, TwAt H' c.1 c.2
  tl : H' tl = some (.lst ys)
  yl : ys.length = (toldOf (L.map Prod.snd)).length
  ys : ∀ (i : Nat) x v, (toldOf (L.map Prod.snd))[i]? = some x → ys[i]? = some v → PrAt H' v x
theorem rd_trace (T : Tx K mg) : ∀ vs H Q E, sp_trace K vs H Q E → t_trace K (sp_check_text K) (sp_WindowTurn_init K) (sp_Trace_init K) { nx := fun _ H' => Q .non H', rt := Q } (start N_trace vs) H := by
  intro vs H Q E ⟨a, s, X, hv, hS, hX, hin, q⟩
  subst hv
  show t_trace K (sp_check_text K) (sp_WindowTurn_init K) (sp_Trace_init K) { nx := fun _ H' => Q .non H', rt := Q } [some (.ref a), some (.str (S X)), none, none, none, none, none, none] H
  obtain ⟨hok, dS, pS, tot, vS, hSa, hSp, _⟩ := id hS
  have m1 := hok.m1
  have m8 := hok.m8
  unfold t_trace
  walk_at "ws"
  refine ⟨s.ls, X, rfl, hin, fun H1 e1 => ?_⟩
  walk_at "ws"
  intro wl H2 n2 e2 h2
  walk_at "ws"
  intro tl H3 n3 e3 h3
  walk_at "ws"
  intro t0 H4 n4 e4 h4
  have nwl : H wl = none := nn_back e1 n2
  have ntl : H tl = none := nn_back (ex_tr e2 e1) n3
  have wt : wl ≠ tl := ne_new h2 n3
  walk1
  walk1
  walk1
  walk1
  walk1
  walk1
  walk1
  walk1
  walk1
  walk1
  with_reducible apply w_sq
  refine w_cut (fun σ' H' => ∃ (L : List (V × Wn)) (ys : List V) (b4 b5 b6 b7 : Option V) (ws : List Wn) (p' q' : Nat), σ' = [some (.ref a), some (.str (S X)), some (.ref wl), some (.ref tl), b4, b5, b6, b7] ∧ LsAt H H' wl tl L ys ∧ L.length ≤ 2001 ∧ CP s X 0 0 ws p' q' ∧ L.map Prod.snd = ws ++ lastOf s X p' q') ?_ (fun N hN => ?_)
  · rintro σ' H5 ⟨L, ys, b4, b5, b6, b7, ws, p', q', rfl, ⟨E5, hwl, hL, htl, hyl, hys⟩, hLl, hcp, hLw⟩
    walk_at "ws"
    refine w_mkv fun x dx H6 nx e6 h6 => ⟨x, dx, wl, tl, ys, L, rfl, h6, e6 _ _ hwl, fun c hc => (hL c hc).up (Ex.t e6), by omega, e6 _ _ htl, hyl, fun i z v g1 g2 => (hys i z v g1 g2).up (Ex.t e6), fun H7 m7 hT => ⟨rfl, q x H7 ws p' q' (ml_new (nn_back E5 nx) (ex_tr e6 E5) m7) hcp (by rw [← hLw]; exact hT)⟩⟩
  · refine w_while (fun m σ H' => ∃ (L : List (V × Wn)) (ys : List V) (b6 b7 : Option V) (pv sv : V), σ = [some (.ref a), some (.str (S X)), some (.ref wl), some (.ref tl), some pv, some sv, b6, b7] ∧ LsAt H H' wl tl L ys ∧
      ((∃ pl st : Nat, pv = .int (pl : Nat) ∧ sv = .int (st : Nat) ∧ m = 3000 - pl ∧ pl ≤ X.length ∧ st < s.ts.length ∧ L.length ≤ pl ∧ ys.length ≤ 12 * pl ∧ ∀ ws p' q', CP s X pl st ws p' q' → CP s X 0 0 (L.map Prod.snd ++ ws) p' q') ∨
        ((pv = .non ∨ ∃ pl : Nat, pv = .int (pl : Nat) ∧ X.length < pl + s.m) ∧ L.length ≤ 2001 ∧ ∃ ws p' q', CP s X 0 0 ws p' q' ∧ L.map Prod.snd = ws ++ lastOf s X p' q'))) 3000
      ⟨[], [], none, none, .int 0, .int 0, rfl, ⟨(by walk_at "ex"), (show H4 wl = some (.lst []) from (by walk_at "hp")), fun c hc => (nomatch hc), (by walk_at "hp"), rfl, fun i x v h => by simp [toldOf] at h⟩, .inl ⟨0, 0, rfl, rfl, by simp, Nat.zero_le _, by have := hok.n1; omega, by simp, by simp, fun ws p' q' h => h⟩⟩ ?_
    rintro m σ H5 ⟨L, ys, b6, b7, pv, sv, rfl, ⟨E5, hwl, hL, htl, hyl, hys⟩, hcase⟩
    rcases hcase with ⟨pl, st, rfl, rfl, hm, hpl, hst, hLl, hyb, hK⟩ | ⟨hpv, hLl, ws, p', q', hcp, hLw⟩
    · walk_at "ws"
      refine whb_c (fun hc => ?_) (fun hc => ?_)
      · have hc := of_decide_eq_true hc
        have hc : pl + s.m ≤ X.length := by omega
        have hS5 : SrAt K H5 a s := hS.up (ExU.of E5)
        walk_at "ws"
        refine w_slSe (l' := win s X pl) (by omega) ?_ ?_
        · rw [cut_mid (a := pl) (b := pl + s.m + 1) (by omega) (by omega) (by omega)]
          unfold win
          congr 1
          omega
        walk_at "ws"
        refine mk_turn hS5 (tr_get hst) (by simp [win]; omega) (win_in hin pl) (by have := win_len s X pl; omega) fun z H6 n6 e6 hT => ?_
        obtain ⟨hcc, htt, hoo, hne⟩ := stp_ok hok hin (p := pl) hst
        have hT' : TurnAt K H5 H6 z (stp s X pl st) := hT
        obtain ⟨dt, rl, nl, rs, frl, fnl, hx, hrr, hrs, hnn⟩ := hT'
        walk_at "ws"
        refine w_tupL (by walk_at "sq") fun rt H7 n7 e7 h7 => ?_
        walk_at "ws"
        intro wtp H8 n8 e8 h8
        walk_at "ws"
        refine w_append (xs := L.map Prod.fst) (by walk_at "hp") (by simp; omega) fun H9 m9 h9 => ?_
        have nlw : nl ≠ wl := ne_new' fnl hwl
        have nlt : nl ≠ tl := ne_new' fnl htl
        have hn9 : H9 nl = some (.lst ((stp s X pl st).tells.map fun (j : Nat) => V.int (j : Int))) := m9 _ _ nlw (by walk_at "hp")
        have htl9 : H9 tl = some (.lst ys) := m9 _ _ (fun z => wt z.symm) (by walk_at "hp")
        have hx9 : H9 z = some (oTurn K dt rl nl (outV (stp s X pl st).out).1 (outV (stp s X pl st).out).2) := (by walk_at "hp")
        have u9 : ExT H5 H9 := (Ex.t (show Ex H5 H8 from (by walk_at "ex"))).trans (ml_t m9 (show H8 wl = some (.lst (L.map Prod.fst)) from (by walk_at "hp")) (fun _ z => nomatch z))
        have E9 : Ex H H9 := ml_new nwl (show Ex H H8 from (by walk_at "ex")) m9
        have tw9 : TwAt H9 (.ref wtp) (pl, (stp s X pl st).cost, (stp s X pl st).tells) := ⟨wtp, _, rt, rs, rfl, (by walk_at "hp"), (by walk_at "hp"), hrs⟩
        walk_at "ws"
        refine lcR (wl_list (L := (stp s X pl st).tells) (enc := fun (j : Nat) => V.int (j : Int))) (by walk_at "wp") (by omega) (fun j v H => PrAt H v (pl, j)) (fun c y H H' e h => h.up e) (fun H' e => Evl.sq_of (e _ _ hn9)) ?_ ?_
        · intro j H10 hj e10 EE N' hE
          walk_at "ws"
          intro pt H11 n11 e11 h11
          exact hE _ _ ⟨pt, rfl, h11⟩ e11
        · intro D zs H10 n10 e10 hzl hzs h10
          walk_at "ws"
          refine w_extend (xs := ys) (ys := zs) (e10 _ _ htl9) h10 (by omega) fun H11 m11 h11 => ?_
          have u11 : ExT H5 H11 := (u9.trans (Ex.t e10)).trans (ml_t m11 (e10 _ _ htl9) (fun _ z => nomatch z))
          have hx11 : H11 z = some (oTurn K dt rl nl (outV (stp s X pl st).out).1 (outV (stp s X pl st).out).2) := m11 _ _ (ne_kind (e10 _ _ hx9) (e10 _ _ htl9) (fun z => nomatch z)) (e10 _ _ hx9)
          have hL11 : ∀ c ∈ L ++ [(V.ref wtp, (pl, (stp s X pl st).cost, (stp s X pl st).tells))], TwAt H11 c.1 c.2 := fun c hc' => by
            rcases List.mem_append.mp hc' with hc' | hc'
            · exact (hL c hc').up u11
            · rw [List.mem_singleton.mp hc']
              exact tw9.up ((Ex.t e10).trans (ml_t m11 (e10 _ _ htl9) (fun _ z => nomatch z)))
          have htold : toldOf ((L ++ [(V.ref wtp, (pl, (stp s X pl st).cost, (stp s X pl st).tells))]).map Prod.snd) = toldOf (L.map Prod.snd) ++ (stp s X pl st).tells.map fun j => (pl, j) := by
            rw [List.map_append, toldOf_app]
            simp [toldOf]
          have LS : LsAt H H11 wl tl (L ++ [(.ref wtp, (pl, (stp s X pl st).cost, (stp s X pl st).tells))]) (ys ++ zs) := by
            refine ⟨ml_new ntl (ex_tr e10 E9) m11, by rw [m11 _ _ wt (e10 _ _ h9)]; simp, hL11, h11, by rw [htold]; simp [hyl, hzl], fun i x v h1 h2 => ?_⟩
            rw [htold] at h1
            by_cases hi : i < ys.length
            · rw [List.getElem?_append_left (by omega)] at h1
              rw [List.getElem?_append_left hi] at h2
              exact (hys i x v h1 h2).up u11
            · rw [List.getElem?_append_right (by omega), List.getElem?_map] at h1
              rw [List.getElem?_append_right (by omega), hyl] at h2
              obtain ⟨j, hj, rfl⟩ := Option.map_eq_some_iff.mp h1
              exact (hzs _ j v hj h2).up (ml_t m11 (e10 _ _ htl9) (fun _ z => nomatch z))
          have hlast : pl + s.m = X.length → CP s X 0 0 (L.map Prod.snd) pl st ∧ (L ++ [(V.ref wtp, (pl, (stp s X pl st).cost, (stp s X pl st).tells))]).map Prod.snd = L.map Prod.snd ++ lastOf s X pl st := fun h => ⟨by simpa using hK [] pl st (.stop (by omega)), by unfold lastOf; rw [if_pos h]; simp⟩
          cases hout : (stp s X pl st).out with
          | none =>
            rw [hout] at hx11
            simp only [outV] at hx11
            walk_at "ws"
            have hpe : pl + s.m = X.length := by
              by_cases z : pl + s.m < X.length
              · exact absurd hout (hne z)
              · omega
            exact got ⟨0, by omega, L ++ [(V.ref wtp, (pl, (stp s X pl st).cost, (stp s X pl st).tells))], ys ++ zs, _, _, _, _, rfl, LS, .inr ⟨.inl rfl, by simp; omega, _, _, _, (hlast hpe).1, (hlast hpe).2⟩⟩
          | some oo =>
            obtain ⟨sl, st'⟩ := oo
            rw [hout] at hx11
            simp only [outV] at hx11
            obtain ⟨g1, g2, g3⟩ := hoo _ _ hout
            walk_at "ws"
            have eq1 : (pl : Int) + (sl : Int) = ((pl + sl : Nat) : Int) := by omega
            rw [eq1]
            by_cases hpe : pl + s.m < X.length
            · refine got ⟨3000 - (pl + sl), by omega, L ++ [(V.ref wtp, (pl, (stp s X pl st).cost, (stp s X pl st).tells))], ys ++ zs, _, _, _, _, rfl, LS, .inl ⟨pl + sl, st', rfl, rfl, rfl, by omega, g3, by simp; omega, by simp; omega, fun ws p' q' h => ?_⟩⟩
              rw [List.map_append, List.append_assoc]
              exact hK _ _ _ (.step (by omega) hpe hout h)
            · have hpe : pl + s.m = X.length := by omega
              exact got ⟨0, by omega, L ++ [(V.ref wtp, (pl, (stp s X pl st).cost, (stp s X pl st).tells))], ys ++ zs, _, _, _, _, rfl, LS, .inr ⟨.inr ⟨pl + sl, rfl, by omega⟩, by simp; omega, _, _, _, (hlast hpe).1, (hlast hpe).2⟩⟩
      · have hc := of_decide_eq_false hc
        have hc : ¬ (pl + s.m ≤ X.length) := by omega
        walk_at "ws"
        refine hN _ _ ⟨L, ys, _, _, _, _, L.map Prod.snd, pl, st, rfl, ⟨E5, hwl, hL, htl, hyl, hys⟩, by omega, by simpa using hK [] pl st (.stop (by omega)), ?_⟩
        unfold lastOf
        rw [if_neg (by omega)]
        simp
    · rcases hpv with rfl | ⟨pl, rfl, hpl⟩
      · walk_at "ws"
        refine whb_c (fun z => nomatch z) (fun _ => ?_)
        exact hN _ _ ⟨L, ys, _, _, _, _, ws, p', q', rfl, ⟨E5, hwl, hL, htl, hyl, hys⟩, hLl, hcp, hLw⟩
      · walk_at "ws"
        refine whb_c (fun hc => ?_) (fun _ => ?_)
        · have hc := of_decide_eq_true hc
          omega
        · exact hN _ _ ⟨L, ys, _, _, _, _, ws, p', q', rfl, ⟨E5, hwl, hL, htl, hyl, hys⟩, hLl, hcp, hLw⟩
end
section
variable {K : PySem.W.Frag} {mg : Str → Option Value}
/-! ### the pen -/
abbrev penL (c : Addr) (at_ rest : Int) : List (Key × V) := [(.inr (Str.ofString "cells"), .ref c), (.inr (Str.ofString "at"), .int at_), (.inr (Str.ofString "rest"), .int rest)]
/-- a pen that has drawn at most n times -/
structure PenAt (H : Hp) (pn pc : Addr) (n : Nat) : Prop where
  ob : ∃ at_ rest : Nat, ∃ cs : List Int, H pn = some (.dK (penL pc at_ rest)) ∧ H pc = some (.lst (cs.map V.int)) ∧ cs.length ≤ 63 ∧ at_ ≤ n
theorem PenAt.up {H H' : Hp} {pn pc : Addr} {n : Nat} (e : Ex H H') (h : PenAt H pn pc n) : PenAt H' pn pc n := by
  obtain ⟨a, r, cs, h1, h2, h3, h4⟩ := h
  exact ⟨a, r, cs, e _ _ h1, e _ _ h2, h3, h4⟩
theorem PenAt.le {H : Hp} {pn pc : Addr} {n n' : Nat} (e : n ≤ n') (h : PenAt H pn pc n) : PenAt H pn pc n' := by
  obtain ⟨a, r, cs, h1, h2, h3, h4⟩ := h
  exact ⟨a, r, cs, h1, h2, h3, by omega⟩
theorem PenAt.ml {H H' : Hp} {pn pc l : Addr} {n : Nat} (m : Ml l H H') (n1 : pn ≠ l) (n2 : pc ≠ l) (h : PenAt H pn pc n) : PenAt H' pn pc n := by
  obtain ⟨a, r, cs, h1, h2, h3, h4⟩ := h
  exact ⟨a, r, cs, m _ _ n1 h1, m _ _ n2 h2, h3, h4⟩
theorem PenAt.ne {H : Hp} {pn pc l : Addr} {n : Nat} (h : PenAt H pn pc n) (hl : H l = none) : pn ≠ l ∧ pc ≠ l := by
  obtain ⟨a, r, cs, h1, h2, h3, h4⟩ := h
  exact ⟨ne_new h1 hl, ne_new h2 hl⟩
theorem pen_rest {c : Addr} {a r : Int} : valV (penL c a r) (.inr (Str.ofString "rest")) = some (.int r) := by rfl
theorem pen_at {c : Addr} {a r : Int} : valV (penL c a r) (.inr (Str.ofString "at")) = some (.int a) := by rfl
theorem pen_cells {c : Addr} {a r : Int} : valV (penL c a r) (.inr (Str.ofString "cells")) = some (.ref c) := by rfl
theorem pen_putR {c : Addr} {a r r' : Int} : putK (penL c a r) (.inr (Str.ofString "rest")) (.int r') = penL c a r' := by rfl
theorem pen_putA {c : Addr} {a r a' : Int} : putK (penL c a r) (.inr (Str.ofString "at")) (.int a') = penL c a' r := by rfl
def sp_law_draw (K : PySem.W.Frag) : Sp := fun vs H Q E => ∃ pn pc n many, vs = [.ref pn, .int ((many : Nat) : Int)] ∧ PenAt H pn pc n ∧ n < 1000000 ∧ 1 ≤ many ∧ many < 1000000 ∧ ∀ (r : Nat) H', Ml pn H H' → PenAt H' pn pc (n + 1) → r < many → Q (.int (r : Int)) H'
end
section
variable {K : PySem.W.Frag} {mg : Str → Option Value}
theorem lay_ints : ∀ cs : List Int, PyData.canLayAll0 (cs.map PyData.int) = true
  | [] => by simp [PyData.canLayAll0]
  | c :: cs => by simp [PyData.canLayAll0, PyData.canLay0, lay_ints cs]
theorem depth_ints : ∀ cs : List Int, PyData.depthAll (cs.map PyData.int) ≤ 1
  | [] => by simp [PyData.depthAll]
  | c :: cs => by
    have := depth_ints cs
    simp [PyData.depthAll, PyData.depth]
    omega
theorem shaped_ints (cs : List Int) : SeqAt.shaped (.list (cs.map PyData.int)) = true := by
  unfold SeqAt.shaped
  rw [Bool.and_eq_true]
  refine ⟨by simpa [PyData.canLay0] using lay_ints cs, decide_eq_true ?_⟩
  have := depth_ints cs
  simp [PyData.depth]
  omega
theorem dp_ints {H : Hp} {a : Addr} {cs : List Int} (h : SqL K H a (cs.map V.int)) : Dp K H (.ref a) (.list (cs.map PyData.int)) := by
  refine .lst h ?_
  clear h
  induction cs with
  | nil => exact .nil
  | cons c cs ih => exact .cons (.int c) ih
theorem rd_law_draw (T : Tx K mg) : ∀ vs H Q E, sp_law_draw K vs H Q E → t_law_draw K { nx := fun _ H' => Q .non H', rt := Q } (start N_law_draw vs) H := by
  intro vs H Q E ⟨pn, c, n, many, hv, ⟨a, r, cs, hp, hc, hl, ha⟩, hn, h1, h2, q⟩
  subst hv
  show t_law_draw K { nx := fun _ H' => Q .non H', rt := Q } [some (.ref pn), some (.int many), none, none, none, none] H
  unfold t_law_draw
  walk_at "ws"
  refine w_dgetK (ke := .inr (Str.ofString "rest")) hp pen_rest ?_
  walk_at "ws"
  have old : ∀ {H' : Hp}, Ml pn H H' → H' c = some (.lst (cs.map V.int)) := fun m => m _ _ (ne_kind hc hp (fun z => nomatch z)) hc
  refine if_c (fun hr => ?_) (fun hr => ?_)
  · walk_at "ws"
    refine w_dgetK (ke := .inr (Str.ofString "rest")) hp pen_rest ?_
    walk_at "ws"
    refine w_dgetK (ke := .inr (Str.ofString "rest")) hp pen_rest ?_
    walk_at "ws"
    refine w_divI ⟨by omega, by omega⟩ ?_
    walk_at "ws"
    refine w_dputK (ke := .inr (Str.ofString "rest")) hp (by simp) fun H1 m1 h1 => ?_
    rw [pen_putR] at h1
    walk_at "ws"
    have e1 : (r : Int) % (many : Int) = ((r % many : Nat) : Int) := by omega
    have e2 : (r : Int) / (many : Int) = ((r / many : Nat) : Int) := by omega
    rw [e1]
    rw [e2] at h1
    exact q (r % many) H1 m1 ⟨a, r / many, cs, h1, old m1, hl, by omega⟩ (Nat.mod_lt _ (by omega))
  · walk_at "ws"
    refine w_dgetK (ke := .inr (Str.ofString "at")) hp pen_at ?_
    walk_at "ws"
    refine w_dputK (ke := .inr (Str.ofString "at")) hp (by simp) fun H1 m1 h1 => ?_
    rw [pen_putA] at h1
    have hc1 := old m1
    have e0 : (a : Int) + 1 = ((a + 1 : Nat) : Int) := by omega
    rw [e0] at h1
    walk_at "ws"
    refine w_mulI (.inl ⟨by omega, by omega⟩) ?_
    walk1
    walk1
    walk1
    with_reducible apply w_sq
    refine w_cut (fun σ' H2 => ∃ cell : Int, σ' = [some (.ref pn), some (.int many), some (.int a), some (.int cell), none, none] ∧ Ex H1 H2) ?_ (fun N hN => ?_)
    · rintro σ' H2 ⟨cell, rfl, e2⟩
      have h2' := e2 _ _ h1
      have hc2 := e2 _ _ hc1
      have M2' : Ml pn H H2 := ml_ex m1 e2
      have many0 : 0 < (many : Int) := by omega
      -- the blend
      have fin : ∀ H3, Ex H2 H3 → (tSeq (tAsg (tOp rAddI (tOp rMulI (tOp rModI (tCB rInt (tCons (tVar 3) tNil)) (tC (.int 4294967029))) (tC (.int 48121))) (tOp rMulI (tOp rMulI (tC (.int 15053)) (tVar 2)) (tVar 2))) (gName 4))
    (tSeq (tAsg (tOp rModI (tCB rInt (tCons (tOp rAddI (tOp rAddI (tVar 4) (tOp rMulI (tC (.int 911)) (tVar 2))) (tC (.int 13))) tNil)) (tC (.int 4294966997))) (gName 4))
    (tSeq (tAsg (tOp rModI (tCB rInt (tCons (tOp rAddI (tOp rAddI (tOp rAddI (tOp rMulI (tVar 4) (tVar 4)) (tOp rMulI (tC (.int 30000307)) (tVar 4))) (tOp rMulI (tC (.int 29)) (tVar 2))) (tC (.int 7))) tNil)) (tC (.int 4294966981))) (gName 4))
    (tRet (tOp rModI (tCB rInt (tCons (tOp rDivI (tOp rModI (tCB rInt (tCons (tOp rMulI (tVar 4) (tOp rAddI (tVar 4) (tC (.int 52733)))) tNil)) (tC (.int 4294966943))) (tC (.int 128))) tNil)) (tVar 1)))))) { nx := fun _ H' => Q .non H', rt := Q } [some (.ref pn), some (.int many), some (.int a), some (.int cell), none, none] H3 := by
        intro H3 e3
        walk_at "ws"
        refine w_mulI (.inr ⟨by omega, by omega⟩) ?_
        walk_at "ws"
        refine w_mulI (.inl ⟨by omega, by omega⟩) ?_
        walk_at "ws"
        refine w_mulI (.inr ⟨by omega, by omega⟩) ?_
        walk_at "ws"
        refine w_mulI (.inl ⟨by omega, by omega⟩) ?_
        walk_at "ws"
        generalize hb : (cell % 4294967029 * 48121 + 15053 * (a : Int) * (a : Int) + 911 * (a : Int) + 13) % 4294966997 = b1
        have hb1 : 0 ≤ b1 ∧ b1 < 4294966997 := by rw [← hb]; exact ⟨Int.emod_nonneg _ (by omega), Int.emod_lt_of_pos _ (by omega)⟩
        refine w_mulI (.inl ⟨by omega, by omega⟩) ?_
        walk_at "ws"
        refine w_mulI (.inl ⟨by omega, by omega⟩) ?_
        walk_at "ws"
        refine w_mulI (.inl ⟨by omega, by omega⟩) ?_
        walk_at "ws"
        generalize hc : (b1 * b1 + 30000307 * b1 + 29 * (a : Int) + 7) % 4294966981 = b2
        have hb2 : 0 ≤ b2 ∧ b2 < 4294966981 := by rw [← hc]; exact ⟨Int.emod_nonneg _ (by omega), Int.emod_lt_of_pos _ (by omega)⟩
        refine w_mulI (.inl ⟨by omega, by omega⟩) ?_
        walk_at "ws"
        refine w_divI ⟨by omega, by omega⟩ ?_
        walk_at "ws"
        generalize hd : b2 * (b2 + 52733) % 4294966943 / 128 = b3
        have e9 : b3 % (many : Int) = (((b3 % (many : Int)).toNat : Nat) : Int) := by have := Int.emod_nonneg b3 (show (many : Int) ≠ 0 by omega); omega
        rw [e9]
        refine q _ H3 (ml_ex M2' e3) ⟨a + 1, r, cs, e3 _ _ h2', e3 _ _ hc2, hl, by omega⟩ ?_
        have := Int.emod_lt_of_pos b3 many0
        omega
      with_reducible apply w_sq
      refine w_cut (fun σ' H3 => σ' = [some (.ref pn), some (.int many), some (.int a), some (.int cell), none, none] ∧ Ex H2 H3) ?_ (fun N hN => ?_)
      · rintro σ' H3 ⟨rfl, e3⟩
        exact fin H3 e3
      have hlen : (cs.map V.int).length = cs.length := by simp
      have sk : ∀ z : Int, 10 ^ (18 : Int).toNat ≤ z → ∀ H3, Ml pn H2 H3 → H3 pn = some (.dK (penL c ((a + 1 : Nat) : Int) ((z - 10 ^ (18 : Int).toNat) / many))) → Q (.int ((z - 10 ^ (18 : Int).toNat) % many)) H3 := by
        intro z hz H3 m3 h3
        have e9 : (z - 10 ^ (18 : Int).toNat) % (many : Int) = ((((z - 10 ^ (18 : Int).toNat) % (many : Int)).toNat : Nat) : Int) := by have := Int.emod_nonneg (z - 10 ^ (18 : Int).toNat) (show (many : Int) ≠ 0 by omega); omega
        have e8 : (z - 10 ^ (18 : Int).toNat) / (many : Int) = ((((z - 10 ^ (18 : Int).toNat) / (many : Int)).toNat : Nat) : Int) := by have := Int.ediv_nonneg (show 0 ≤ z - 10 ^ (18 : Int).toNat by omega) (show 0 ≤ (many : Int) by omega); omega
        rw [e9]
        rw [e8] at h3
        refine q _ H3 (ml_tr M2' m3) ⟨a + 1, _, cs, h3, m3 _ _ (ne_kind hc2 h2' (fun z => nomatch z)) hc2, hl, by omega⟩ ?_
        have := Int.emod_lt_of_pos (z - 10 ^ (18 : Int).toNat) many0
        omega
      walk_at "ws"
      refine w_dgetK (ke := .inr (Str.ofString "cells")) h2' pen_cells ?_
      walk_at "ws"
      refine if_c (fun hc4 => ?_) (fun hc4 => ?_)
      · walk_at "ws"
        refine w_powI ⟨by omega, by omega, by decide⟩ ?_
        walk_at "ws"
        refine if_c (fun hc5 => ?_) (fun hc5 => ?_)
        · have hc5 := of_decide_eq_true hc5
          walk_at "ws"
          refine w_powI ⟨by omega, by omega, by decide⟩ ?_
          walk_at "ws"
          refine w_divI ⟨by omega, by omega⟩ ?_
          walk_at "ws"
          refine w_dputK (ke := .inr (Str.ofString "rest")) h2' (by simp) fun H3 m3 h3 => ?_
          rw [pen_putR] at h3
          walk_at "ws"
          refine w_powI ⟨by omega, by omega, by decide⟩ ?_
          walk_at "ws"
          exact sk _ hc5 H3 m3 h3
        · walk_at "ws"
          exact hN _ _ ⟨rfl, Evl.Ex.refl _⟩
      · walk_at "ws"
        exact hN _ _ ⟨rfl, Evl.Ex.refl _⟩
    · walk_at "ws"
      refine w_dgetK (ke := .inr (Str.ofString "cells")) h1 pen_cells ?_
      walk_at "ws"
      intro el H2 n2 e2 h2
      have hc2 := e2 _ _ hc1
      have h12 := e2 _ _ h1
      refine ⟨.list (cs.map PyData.int), .list [], dp_ints (Evl.sq_of hc2), .lst (Evl.sq_of h2) .nil, shaped_ints cs, shaped_ints [], ?_⟩
      cases hcs : cs with
      | nil =>
        have e5 : (!PyData.eqv (.list (([] : List Int).map PyData.int)) (.list [])) = false := by simp [PyData.eqv, PyData.eqvAll]
        rw [e5]
        walk_at "ws"
        exact hN _ _ ⟨_, rfl, e2⟩
      | cons d ds =>
        have e5 : (!PyData.eqv (.list ((d :: ds).map PyData.int)) (.list [])) = true := by simp [PyData.eqv, PyData.eqvAll]
        rw [e5]
        have hpos : 0 < cs.length := by rw [hcs]; simp
        walk_at "ws"
        refine w_dgetK (ke := .inr (Str.ofString "cells")) h12 pen_cells ?_
        walk_at "ws"
        refine w_dgetK (ke := .inr (Str.ofString "cells")) h12 pen_cells ?_
        walk_at "ws"
        have hlen : (cs.map V.int).length = cs.length := by simp
        refine w_modI (by omega) ?_
        have hk : a % cs.length < cs.length := Nat.mod_lt _ hpos
        have hv : (cs.map V.int)[a % cs.length]? = some (.int cs[a % cs.length]) := by rw [List.getElem?_map]; simp [hk]
        refine w_ixLI (n := a % cs.length) (by rw [hlen]; omega) (by walk_at "sq") hv ?_
        walk_at "ws"
        exact hN _ _ ⟨_, rfl, e2⟩
end
section
variable {K : PySem.W.Frag} {mg : Str → Option Value}
def sp_law_pick (K : PySem.W.Frag) : Sp := fun vs H Q E => ∃ pn pc n x, vs = [.ref pn, x] ∧ PenAt H pn pc n ∧ n < 1000000 ∧
  ((∃ l : List Nat, x = .str (S l) ∧ l ≠ [] ∧ l.length ≤ 1000 ∧ ∀ c H', c ∈ l → Ml pn H H' → PenAt H' pn pc (n + 1) → Q (.str (S [c])) H') ∨
   (∃ a xs, x = .ref a ∧ H a = some (.lst xs) ∧ xs ≠ [] ∧ xs.length ≤ 1000 ∧ ∀ v H', v ∈ xs → Ml pn H H' → PenAt H' pn pc (n + 1) → Q v H'))
theorem rd_law_pick (T : Tx K mg) : ∀ vs H Q E, sp_law_pick K vs H Q E → t_law_pick K (sp_law_draw K) { nx := fun _ H' => Q .non H', rt := Q } (start N_law_pick vs) H := by
  intro vs H Q E ⟨pn, pc, n, x, hv, hp, hn, hq⟩
  subst hv
  show t_law_pick K (sp_law_draw K) { nx := fun _ H' => Q .non H', rt := Q } [some (.ref pn), some x] H
  unfold t_law_pick
  rcases hq with ⟨l, rfl, hne, hl, q⟩ | ⟨a, xs, rfl, hx, hne, hl, q⟩
  · have hpos : 0 < l.length := List.length_pos_iff.mpr hne
    walk_at "ws"
    refine .inl (w_lenS (by omega) ?_)
    walk_at "ws"
    refine ⟨pn, pc, n, l.length, rfl, hp, hn, hpos, by omega, fun r H1 m1 hp1 hr => ?_⟩
    have e : l[r]? = some l[r] := by simp [hr]
    refine .inr (.inr (w_ixSI (n := r) rfl (by omega) e ?_))
    exact q _ H1 (List.getElem_mem hr) m1 hp1
  · have hpos : 0 < xs.length := List.length_pos_iff.mpr hne
    obtain ⟨at_, rest, cs, h1, h2, h3, h4⟩ := id hp
    walk_at "ws"
    refine .inr (w_lenL (Evl.sq_of hx) ?_)
    walk_at "ws"
    refine ⟨pn, pc, n, xs.length, rfl, hp, hn, hpos, by omega, fun r H1 m1 hp1 hr => ?_⟩
    have e : xs[r]? = some xs[r] := by simp [hr]
    refine .inl (w_ixL (n := r) (Evl.sq_of (m1 _ _ (ne_kind hx h1 (fun z => nomatch z)) hx)) e ?_)
    exact q _ H1 (List.getElem_mem hr) m1 hp1
end
section
variable {K : PySem.W.Frag} {mg : Str → Option Value}
def sp_law_pen (K : PySem.W.Frag) : Sp := fun vs H Q E => ∃ a, ∃ cs : List Int, vs = [.ref a] ∧ SqL K H a (cs.map V.int) ∧ ∀ pn pc H', H pn = none → H pc = none → Ex H H' → PenAt H' pn pc 0 → Q (.ref pn) H'
theorem rd_law_pen (T : Tx K mg) : ∀ vs H Q E, sp_law_pen K vs H Q E → t_law_pen K { nx := fun _ H' => Q .non H', rt := Q } (start N_law_pen vs) H := by
  intro vs H Q E ⟨a, cs, hv, ha, q⟩
  subst hv
  show t_law_pen K { nx := fun _ H' => Q .non H', rt := Q } [some (.ref a)] H
  unfold t_law_pen
  walk1
  intro pn hpn
  generalize hH : upd H pn (.dK []) = H0
  have e0 : Ex H H0 := by rw [← hH]; exact Evl.Ex.new hpn
  have h0 : H0 pn = some (.dK []) := by rw [← hH]; exact upd_same
  show tPairs _ _ _ _
  unfold tPairs
  walk_at "ws"
  refine w_slL (ex_l e0 ha) fun s1 H1 n1 e1 h1 => ?_
  walk_at "ws"
  refine w_listL (Evl.sq_of h1) fun c H2 n2 e2 h2 => ?_
  unfold tPairs
  walk_at "ws"
  unfold tPairs
  walk_at "ws"
  unfold tPairs
  have hpn2 : H2 pn = some (.dK []) := (by walk_at "hp")
  refine ⟨hpn2, penL c 0 0, rfl, by simp, ?_⟩
  have hcv : cutV (cs.map V.int) none (some 63) = (cs.take 63).map V.int := by
    unfold cutV
    simp [HT.sIx, List.map_take]
  refine q pn c _ hpn (nn_back e0 (nn_back e1 n2)) (ml_new hpn (ex_tr e2 (ex_tr e1 e0)) ml_upd) ⟨0, 0, cs.take 63, by rw [upd_same]; rfl, ?_, by simp; omega, Nat.le_refl _⟩
  have hcp : c ≠ pn := ne_new' n2 (show H1 pn = some (.dK []) from (by walk_at "hp"))
  rw [upd_ne hcp, h2, hcv]
end
section
variable {K : PySem.W.Frag} {mg : Str → Option Value}
abbrev abc : List Nat := (List.range 26).map (97 + ·)
def sp_law_letters (K : PySem.W.Frag) : Sp := fun vs H Q E => ∃ pn pc n, ∃ many : Nat, vs = [.ref pn, .int (many : Int)] ∧ PenAt H pn pc n ∧ n < 900000 ∧ many ≤ 3 ∧
  ∀ (l : List Nat) H', l.length = many → l.Nodup → (∀ c ∈ l, 97 ≤ c ∧ c ≤ 122) → Ml pn H H' → PenAt H' pn pc (n + many) → Q (.str (S l)) H'
theorem abc_S : Str.ofString "abcdefghijklmnopqrstuvwxyz" = S abc := by decide +kernel
theorem nil_S : Str.ofString "" = S [] := by decide +kernel
theorem perm_erase : ∀ (L : List Nat) (r : Nat) (h : r < L.length), ([L[r]] ++ L.eraseIdx r).Perm L
  | a :: L, 0, h => List.Perm.refl _
  | a :: L, r + 1, h => by
    have hr : r < L.length := by simpa using h
    have ih := perm_erase L r hr
    show (L[r] :: a :: L.eraseIdx r).Perm (a :: L)
    exact (List.Perm.swap a L[r] _).trans (ih.cons a)
theorem rd_law_letters (T : Tx K mg) : ∀ vs H Q E, sp_law_letters K vs H Q E → t_law_letters K (sp_law_draw K) { nx := fun _ H' => Q .non H', rt := Q } (start N_law_letters vs) H := by
  intro vs H Q E ⟨pn, pc, n, many, hv, hp, hn, hm, q⟩
  subst hv
  show t_law_letters K (sp_law_draw K) { nx := fun _ H' => Q .non H', rt := Q } [some (.ref pn), some (.int many), none, none] H
  unfold t_law_letters
  rw [abc_S, nil_S]
  walk_at "ws"
  refine ⟨abc, rfl, by decide, fun lf hlf => ?_⟩
  generalize hH : upd H lf (.lst (abc.map fun c => V.str (S [c]))) = H0
  have e0 : Ex H H0 := by rw [← hH]; exact Evl.Ex.new hlf
  have h0 : H0 lf = some (.lst (abc.map fun c => V.str (S [c]))) := by rw [← hH]; exact upd_same
  have hpl : lf ≠ pn := by
    obtain ⟨a, r, cs, h1, h2, h3, h4⟩ := hp
    exact ne_new' hlf h1
  walk_at "ws"
  refine w_while (fun m σ H' => ∃ G L : List Nat, σ = [some (.ref pn), some (.int many), some (.ref lf), some (.str (S G))] ∧ m = many - G.length ∧ G.length ≤ many ∧ Ml pn H H' ∧ PenAt H' pn pc (n + G.length) ∧ H' lf = some (.lst (L.map fun c => V.str (S [c]))) ∧ (G ++ L).Perm abc) many
    ⟨[], abc, rfl, rfl, Nat.zero_le _, ex_ml0 e0, hp.up e0, h0, List.Perm.refl _⟩ ?_
  rintro m σ H1 ⟨G, L, rfl, hmm, hGl, M1, P1, hl1, hperm⟩
  have hlen : G.length + L.length = 26 := by
    have := hperm.length_eq
    simpa using this
  have hnd : (G ++ L).Nodup := hperm.nodup_iff.mpr (by decide)
  have hsm : ∀ c ∈ G ++ L, 97 ≤ c ∧ c ≤ 122 := fun c hc => by
    have := hperm.mem_iff.mp hc
    simp at this
    omega
  walk_at "ws"
  refine whb_c (fun hc => ?_) (fun hc => ?_)
  · have hc := of_decide_eq_true hc
    have hc : G.length < many := by omega
    walk_at "ws"
    refine ⟨pn, pc, n + G.length, L.length, by simp, P1, by omega, by omega, by omega, fun r H2 m2 P2 hr => ?_⟩
    have hLr : L[r]? = some L[r] := by simp [hr]
    have hl2 := m2 _ _ hpl hl1
    walk_at "ws"
    refine w_popAt (xs := L.map fun c => V.str (S [c])) hl2 (by rw [List.getElem?_map, hLr]; rfl) (by simp; omega) fun H3 m3 h3 => ?_
    walk_at "ws"
    refine w_addS (by simp; omega) ?_
    walk_at "ws"
    have hpn3 : PenAt H3 pn pc (n + G.length + 1) := by
      obtain ⟨a, r', cs, g1, g2, g3, g4⟩ := P2
      refine ⟨a, r', cs, m3 _ _ (fun z => hpl z.symm) g1, m3 _ _ ?_ g2, g3, g4⟩
      intro z
      rw [z, hl2] at g2
      cases cs with
      | nil => have : 0 < L.length := by omega
               cases L with
               | nil => simp at this
               | cons x L => simp at g2
      | cons d ds =>
        cases L with
        | nil => simp at hr
        | cons x L => simp at g2
    refine got ⟨many - (G ++ [L[r]]).length, by simp; omega, G ++ [L[r]], L.eraseIdx r, rfl, rfl, by simp; omega, fun b o x1 x2 => m3 b o (fun z => by rw [z, hlf] at x2; cases x2) (m2 b o x1 (M1 b o x1 x2)), by simpa [Nat.add_assoc] using hpn3, by rw [h3]; simp [List.eraseIdx_eq_take_drop_succ, List.map_take, List.map_drop], ?_⟩
    have p1 : ([L[r]] ++ L.eraseIdx r).Perm L := perm_erase L r hr
    rw [List.append_assoc]
    exact (p1.append_left G).trans hperm
  · have hc := of_decide_eq_false hc
    have hc : G.length = many := by omega
    walk_at "ws"
    have hnG := (List.nodup_append.mp hnd).1
    exact q G H1 hc hnG (fun c hc' => hsm c (by simp [hc'])) M1 (by rw [← hc]; exact P1)
end
section
variable {K : PySem.W.Frag} {mg : Str → Option Value}
theorem strjoin_nil : ∀ l : List Nat, Str.join (S []) (l.map fun c => S [c]) = S l
  | [] => rfl
  | [c] => rfl
  | c :: d :: l => by
    have ih := strjoin_nil (d :: l)
    show S [c] ++ S [] ++ Str.join (S []) ((d :: l).map fun c => S [c]) = _
    rw [ih, S_app, S_app]
    rfl
theorem join_nil (l : List Nat) : Txt.join (S []) (l.map fun c => S [c]) = S l := by
  rw [TL.join_eq]; exact strjoin_nil l
theorem w_joinL {H : Hp} {Q : VK} {p : Addr} {l : List Nat} {z : Str} (hz : z = S []) (h : SqL K H p (l.map fun c => V.str (S [c]))) (hl : l.length ≤ 100000) (q : Q (.str (S l)) H) : rJoin K (.str z) [.ref p] H Q := by
  subst hz
  refine ⟨S [], p, l.map fun c => S [c], rfl, rfl, .inl (by rw [List.map_map]; exact h), ?_, by rw [join_nil]; exact q⟩
  have e : ((l.map fun c => S [c]).map (·.length)) = l.map fun _ => 1 := by
    rw [List.map_map]
    refine List.map_congr_left fun c _ => ?_
    show (S [c]).length = 1
    rw [S_len]; rfl
  rw [e, S_len]
  have h1 : (l.map fun _ => 1).sum = l.length := by
    clear h q hl e
    induction l with
    | nil => rfl
    | cons a l ih => simp only [List.map_cons, List.sum_cons, List.length_cons]; omega
  rw [h1, List.length_map]
  show l.length + l.length * 0 ≤ _
  omega
def sp_Weave_letter (K : PySem.W.Frag) : Sp := fun vs H Q E => ∃ wv ls ns root nd c, ∃ k : Nat, vs = [.ref wv, .int (k : Int)] ∧ WvAt K H wv ls ns root nd ∧ nd.txt[k]? = some c ∧ Q (.str (S [c])) H
theorem rd_Weave_letter (T : Tx K mg) : ∀ vs H Q E, sp_Weave_letter K vs H Q E → t_Weave_letter K { nx := fun _ H' => Q .non H', rt := Q } (start N_Weave_letter vs) H := by
  intro vs H Q E ⟨wv, ls, ns, root, nd, c, k, hv, hW, hc, q⟩
  subst hv
  show t_Weave_letter K { nx := fun _ H' => Q .non H', rt := Q } [some (.ref wv), some (.int k), none, none, none] H
  obtain ⟨⟨dx, n, dn, r, hw, hn, hR⟩, hroot, hnl⟩ := id hW
  have hk := (List.getElem?_eq_some_iff.mp hc).1
  obtain ⟨xs, a, hr, hxl, hxa, hA⟩ := hR.get hroot
  unfold t_Weave_letter
  walk_at "ws"
  refine w_ixL (by walk_at "sq") hxa ?_
  walk_at "ws"
  refine w_while (fun m σ H' => ∃ (at_ : Nat) (b : Addr) (nd' : Nd) (b4 : Option V), σ = [some (.ref wv), some (.int k), some (.int (at_ : Int)), some (.ref b), b4] ∧ H' = H ∧ ns[m]? = some nd' ∧ NodeAt K H b nd' ∧ nd'.txt[at_]? = some c) root ⟨k, a, nd, none, rfl, rfl, hroot, hA, hc⟩ ?_
  rintro m σ H' ⟨at_, b, nd', b4, rfl, rfl, hi, hB, hat⟩
  obtain ⟨db, eb, hb, heb⟩ := id hB
  have hsub := hR.1 m nd' hi
  cases hkd : nd'.kids with
  | none =>
    have hls : nd'.ls = .str (S nd'.txt) := by simp [Nd.ls, hkd]
    rw [hls] at hb
    rw [hkd] at hsub
    walk_at "ws"
    refine whb_c (fun z => nomatch z) (fun _ => ?_)
    walk_at "ws"
    refine w_ixSI (n := at_) rfl (by have : nd'.txt.length ≤ 100 := hsub; omega) hat ?_
    exact q
  | some lr =>
    obtain ⟨l, r'⟩ := lr
    rw [hkd] at hsub
    obtain ⟨hl, hr', x, y, hx, hy, htxt⟩ := hsub
    have hls : nd'.ls = .non := by simp [Nd.ls, hkd]
    have hnl : nd'.l = .int (l : Int) := by simp [Nd.l, hkd]
    have hnr : nd'.r = .int (r' : Int) := by simp [Nd.r, hkd]
    rw [hls, hnl, hnr] at hb
    obtain ⟨xs2, ax, hr2, _, hxax, hX⟩ := hR.get hx
    obtain ⟨xs3, ay, hr3, _, hyay, hY⟩ := hR.get hy
    rw [hr] at hr2 hr3
    cases hr2
    cases hr3
    obtain ⟨dax, eax, hax, _⟩ := id hX
    walk_at "ws"
    refine whb_c (fun _ => ?_) (fun z => nomatch z)
    walk_at "ws"
    refine w_ixL (by walk_at "sq") hxax ?_
    walk_at "ws"
    refine if_c (fun hlt => ?_) (fun hlt => ?_)
    · have hlt := of_decide_eq_true hlt
      walk_at "ws"
      refine got ⟨l, hl, at_, ax, x, _, rfl, rfl, hx, hX, ?_⟩
      rw [htxt, List.getElem?_append_left (by omega)] at hat
      exact hat
    · have hlt := of_decide_eq_false hlt
      walk_at "ws"
      refine w_ixL (by walk_at "sq") hyay ?_
      walk_at "ws"
      have e : (at_ : Int) - (x.txt.length : Int) = ((at_ - x.txt.length : Nat) : Int) := by omega
      rw [e]
      refine got ⟨r', hr', at_ - x.txt.length, ay, y, _, rfl, rfl, hy, hY, ?_⟩
      rw [htxt, List.getElem?_append_right (by omega)] at hat
      exact hat
def sp_Weave_part (K : PySem.W.Frag) : Sp := fun vs H Q E => ∃ wv ls ns root nd, ∃ i n : Nat, vs = [.ref wv, .int (i : Int), .int (n : Int)] ∧ WvAt K H wv ls ns root nd ∧ i + n ≤ nd.txt.length ∧ nd.txt.length ≤ 2000 ∧ ∀ H', Ex H H' → Q (.str (S ((nd.txt.drop i).take n))) H'
theorem rd_Weave_part (T : Tx K mg) : ∀ vs H Q E, sp_Weave_part K vs H Q E → t_Weave_part K (sp_Weave_letter K) { nx := fun _ H' => Q .non H', rt := Q } (start N_Weave_part vs) H := by
  intro vs H Q E ⟨wv, ls, ns, root, nd, i, n, hv, hW, hin, hl, q⟩
  subst hv
  show t_Weave_part K (sp_Weave_letter K) { nx := fun _ H' => Q .non H', rt := Q } [some (.ref wv), some (.int i), some (.int n), none] H
  obtain ⟨⟨dx, nn, dn, r, hw, hn, hR⟩, hroot, hnl⟩ := id hW
  unfold t_Weave_part
  walk_at "ws"
  refine lcP (wl_rng0 (n := n)) (by walk_at "wp") (by simp; omega) (fun _ => true) (fun j => .str (S [nd.txt.getD (i + j) 0])) (fun _ _ => trivial) ?_ ?_
  · intro j H1 hj e1 EE N hE hN
    have hj : j < n := by simpa using hj
    have hw1 : H1 wv = some (oWeave K dx (.str (S ls)) (.ref nn) (.int (root : Int)) (.int (nd.txt.length : Int))) := e1 _ _ hw
    walk_at "ws"
    have e : (i : Int) + (j : Int) = ((i + j : Nat) : Int) := by omega
    rw [e]
    refine ⟨wv, ls, ns, root, nd, _, i + j, rfl, hW.up e1, (by simp [show i + j < nd.txt.length by omega] : nd.txt[i + j]? = some (nd.txt.getD (i + j) 0)), ?_⟩
    exact hE _ _ rfl rfl (Evl.Ex.refl _)
  · intro D H1 n1 e1 h1
    walk_at "ws"
    rw [filter_t] at h1
    have eL : (List.range n).map (fun j => nd.txt.getD (i + j) 0) = (nd.txt.drop i).take n := by
      refine List.ext_getElem? fun j => ?_
      rw [List.getElem?_map]
      by_cases hj : j < n
      · rw [List.getElem?_range hj, List.getElem?_take_of_lt hj, List.getElem?_drop]
        simp [show i + j < nd.txt.length by omega]
      · rw [List.getElem?_eq_none (by simp; omega), List.getElem?_eq_none (by simp; omega)]
        rfl
    refine w_joinL (l := (nd.txt.drop i).take n) rfl (Evl.sq_of ?_) (by simp; omega) ?_
    · rw [h1, ← eL, List.map_map]
      rfl
    · exact q H1 e1
end
/-! ### rules -/
def nm : Nat → List Nat
  | 0 => [65]
  | 1 => [66, 67]
  | 2 => [68]
  | 3 => [69, 70, 71, 72, 73, 74, 75, 76]
  | 4 => [77]
  | _ => [78, 79]
theorem nm_inj : ∀ i < 6, ∀ j < 6, nm i = nm j → i = j := by decide
theorem nm_len : ∀ i < 6, 1 ≤ (nm i).length ∧ (nm i).length ≤ 8 := by decide
theorem nm_cap : ∀ i < 6, ∀ c ∈ nm i, 65 ≤ c ∧ c ≤ 90 := by decide
abbrev caps : List Nat := (List.range 26).map (65 + ·)
theorem caps_S : Str.ofString "ABCDEFGHIJKLMNOPQRSTUVWXYZ" = S caps := by decide +kernel
theorem caps_in {c : Nat} : c ∈ caps ↔ 65 ≤ c ∧ c ≤ 90 := by
  simp
  constructor
  · rintro ⟨a, h1, rfl⟩; omega
  · intro h; exact ⟨c - 65, by omega, by omega⟩
inductive Pt where
  | w (l : List Nat)
  | n (j : Nat)
def Pt.txt : Pt → List Nat
  | .w l => l
  | .n j => nm j
def Pt.isN : Pt → Bool
  | .w _ => false
  | .n _ => true
abbrev Rule := List (Pt × Nat)
def PtN : Pt → Prop
  | .w l => 1 ≤ l.length ∧ l.length ≤ 4 ∧ ∀ c ∈ l, 97 ≤ c
  | .n j => j < 6
def PtOk (ls : List Nat) (i : Nat) : Pt → Prop
  | .w l => 1 ≤ l.length ∧ l.length ≤ 4 ∧ ∀ c ∈ l, c ∈ ls
  | .n j => j < i
abbrev Sm (ls : List Nat) : Prop := ∀ c ∈ ls, 97 ≤ c ∧ c ≤ 122
theorem PtOk.n {ls : List Nat} (hs : Sm ls) {i : Nat} (hi : i ≤ 6) : ∀ {p : Pt}, PtOk ls i p → PtN p
  | .w l, h => ⟨h.1, h.2.1, fun c hc => (hs c (h.2.2 c hc)).1⟩
  | .n j, h => Nat.lt_of_lt_of_le h hi
theorem PtN.len : ∀ {p : Pt}, PtN p → 1 ≤ p.txt.length ∧ p.txt.length ≤ 8
  | .w l, h => ⟨h.1, by show l.length ≤ 8; have := h.2.1; omega⟩
  | .n j, h => nm_len j h
theorem PtN.all {p : Pt} (h : PtN p) : (p.txt.map fun c => decide (c ∈ (S caps).cps.toList)).all id = p.isN := by
  rw [List.all_map]
  cases p with
  | w l =>
    cases l with
    | nil => exact absurd h.1 (by simp)
    | cons c l =>
      have h1 := h.2.2 c (by simp)
      have : ¬ c ∈ (S caps).cps.toList := by
        show ¬ c ∈ caps
        rw [caps_in]
        omega
      simp only [Pt.txt, List.all_cons, Pt.isN, Bool.and_eq_false_iff]
      exact .inl (decide_eq_false this)
  | n j =>
    rw [show (Pt.n j).isN = true from rfl, List.all_eq_true]
    intro c hc
    refine decide_eq_true ?_
    show c ∈ caps
    rw [caps_in]
    exact nm_cap j h c hc
structure RuOk (ls : List Nat) (i : Nat) (r : Rule) : Prop where
  l1 : 1 ≤ r.length
  l3 : r.length ≤ 3
  pt : ∀ x ∈ r, 1 ≤ x.2 ∧ x.2 ≤ 9 ∧ PtOk ls i x.1
structure RlOk (ls : List Nat) (R : List Rule) : Prop where
  n6 : R.length = 6
  ok : ∀ (i : Nat) r, R[i]? = some r → RuOk ls i r
def PtAt (H : Hp) (v : V) (x : Pt × Nat) : Prop := ∃ a, v = .ref a ∧ H a = some (.tup [.str (S x.1.txt), .int (x.2 : Int)])
def RuAt (H : Hp) (l : Addr) (r : Rule) : Prop := ∃ L : List (V × (Pt × Nat)), H l = some (.lst (L.map Prod.fst)) ∧ r = L.map Prod.snd ∧ ∀ x ∈ L, PtAt H x.1 x.2
abbrev nk (i : Nat) : Key := .inr (S (nm i))
structure KvAt (H : Hp) (kvs : List (Key × V)) (R : List Rule) : Prop where
  ks : kvs.map (·.1) = (List.range R.length).map nk
  at_ : ∀ (i : Nat) r, R[i]? = some r → ∃ l, valV kvs (nk i) = some (.ref l) ∧ RuAt H l r
def RlAt (H : Hp) (d : Addr) (R : List Rule) : Prop := ∃ kvs, Rd H d (.dK kvs) ∧ KvAt H kvs R
/-- the lists and the tuples stay -/
structure ExL (H H' : Hp) : Prop where
  t : ∀ a xs, H a = some (.tup xs) → H' a = some (.tup xs)
  l : ∀ a xs, H a = some (.lst xs) → H' a = some (.lst xs)
theorem ExL.of {H H' : Hp} (e : Ex H H') : ExL H H' := ⟨fun a xs h => e a _ h, fun a xs h => e a _ h⟩
theorem ExL.tr {H H1 H2 : Hp} (a : ExL H H1) (b : ExL H1 H2) : ExL H H2 := ⟨fun x xs h => b.t x xs (a.t x xs h), fun x xs h => b.l x xs (a.l x xs h)⟩
theorem ExL.ml {H H' : Hp} {l : Addr} {o : HO} (m : Ml l H H') (h : H l = some o) (n1 : (hoK o == 0) = false) (n2 : (hoK o == 1) = false) : ExL H H' :=
  ⟨fun a xs ha => m a _ (ne_kind ha h (fun z => by rw [← z] at n2; simp [hoK] at n2)) ha, fun a xs ha => m a _ (ne_kind ha h (fun z => by rw [← z] at n1; simp [hoK] at n1)) ha⟩
theorem PtAt.up {H H' : Hp} {v : V} {x : Pt × Nat} (e : ExT H H') (h : PtAt H v x) : PtAt H' v x := by
  obtain ⟨a, h1, h2⟩ := h
  exact ⟨a, h1, e _ _ h2⟩
theorem RuAt.up {H H' : Hp} {l : Addr} {r : Rule} (e : ExL H H') (h : RuAt H l r) : RuAt H' l r := by
  obtain ⟨L, h1, h2, h3⟩ := h
  exact ⟨L, e.l _ _ h1, h2, fun x hx => (h3 x hx).up e.t⟩
theorem KvAt.up {H H' : Hp} {kvs : List (Key × V)} {R : List Rule} (e : ExL H H') (h : KvAt H kvs R) : KvAt H' kvs R :=
  ⟨h.ks, fun i r hi => by obtain ⟨l, h1, h2⟩ := h.at_ i r hi; exact ⟨l, h1, h2.up e⟩⟩
theorem KvAt.len {H : Hp} {kvs : List (Key × V)} {R : List Rule} (h : KvAt H kvs R) : kvs.length = R.length := by
  have := congrArg List.length h.ks
  simpa using this
theorem KvAt.key {H : Hp} {kvs : List (Key × V)} {R : List Rule} (h : KvAt H kvs R) {i : Nat} {kv : Key × V} (hi : kvs[i]? = some kv) : kv.1 = nk i ∧ i < R.length := by
  have hl := (List.getElem?_eq_some_iff.mp hi).1
  rw [h.len] at hl
  have e := congrArg (fun l => l[i]?) h.ks
  simp only [List.getElem?_map, hi, List.getElem?_range hl] at e
  exact ⟨Option.some.inj e, hl⟩
theorem RlAt.up {H H' : Hp} {d : Addr} {R : List Rule} (e : Ex H H') (h : RlAt H d R) : RlAt H' d R := by
  obtain ⟨kvs, h1, h2⟩ := h
  refine ⟨kvs, ?_, h2.up (.of e)⟩
  rcases h1 with h1 | ⟨o, h1⟩
  · exact .inl (e _ _ h1)
  · exact .inr ⟨o, e _ _ h1⟩
section
variable {K : PySem.W.Frag} {mg : Str → Option Value}
theorem w_dinR {H : Hp} {a : Addr} {kvs : List (Key × V)} {ke : Key} {f : Bool → V} {Q : VK} (h : Rd H a (.dK kvs)) (q : Q (f (valV kvs ke).isSome) H) : DiV f (.ref a) (kV ke) H Q := ⟨a, _, rfl, .inl ⟨kvs, ke, h, rfl, rfl⟩, q⟩
theorem w_dgetR {H : Hp} {a : Addr} {kvs : List (Key × V)} {ke : Key} {v : V} {Q : VK} (h : Rd H a (.dK kvs)) (hv : valV kvs ke = some v) (q : Q v H) : DgV (.ref a) (kV ke) H Q := ⟨a, v, rfl, .inl ⟨kvs, ke, h, rfl, hv.symm⟩, q⟩
theorem kit_tl : PySem.W.kitAny K (.type "tuple") [.type "tuple", .type "list"] = some true := kitAny_cons (b := true) (kit_ty (by decide +kernel)) (fun z => nomatch z) (fun _ => rfl)
theorem kit_ll : PySem.W.kitAny K (.type "list") [.type "tuple", .type "list"] = some true := kitAny_cons (b := false) (kit_ty (by decide +kernel)) (fun _ => kitAny_cons (b := true) (kit_ty (by decide +kernel)) (fun z => nomatch z) (fun _ => rfl)) (fun z => nomatch z)
theorem w_isiTt {H : Hp} {a tp : Addr} {xs : List V} {Q : VK} (ht : H tp = some (.tup [.ty "tuple", .ty "list"])) (h : H a = some (.tup xs)) (q : Q (.bl true) H) : rIsiT K [.ref a, .ref tp] H Q :=
  ⟨.ref a, tp, _, .type "tuple", [.type "tuple", .type "list"], true, rfl, ht, .cons (.ty "tuple") (.cons (.ty "list") .nil), .base (.tup h), kit_tl, q⟩
theorem w_isiTl {H : Hp} {a tp : Addr} {xs : List V} {Q : VK} (ht : H tp = some (.tup [.ty "tuple", .ty "list"])) (h : H a = some (.lst xs)) (q : Q (.bl true) H) : rIsiT K [.ref a, .ref tp] H Q :=
  ⟨.ref a, tp, _, .type "list", [.type "tuple", .type "list"], true, rfl, ht, .cons (.ty "tuple") (.cons (.ty "list") .nil), .base (.lst h), kit_ll, q⟩
def sp_is_name (K : PySem.W.Frag) : Sp := fun vs H Q E => ∃ p : Pt, vs = [.str (S p.txt)] ∧ PtN p ∧ ∀ H', Ex H H' → Q (.bl p.isN) H'
theorem rd_is_name (T : Tx K mg) : ∀ vs H Q E, sp_is_name K vs H Q E → t_is_name K { nx := fun _ H' => Q .non H', rt := Q } (start N_is_name vs) H := by
  intro vs H Q E ⟨p, hv, hp, q⟩
  subst hv
  show t_is_name K { nx := fun _ H' => Q .non H', rt := Q } [some (.str (S p.txt)), none] H
  obtain ⟨l1, l8⟩ := hp.len
  unfold t_is_name
  rw [caps_S]
  walk_at "ws"
  refine lcP (wl_str (l := p.txt)) (by walk_at "wp") (by omega) (fun _ => true) (fun c => .bl (decide (c ∈ (S caps).cps.toList))) (fun _ _ => trivial) ?_ ?_
  · intro c H1 hc e1 EE N hE hN
    walk_at "ws"
    exact hE _ _ rfl rfl (Evl.Ex.refl _)
  · intro D H1 n1 e1 h1
    rw [filter_t] at h1
    walk_at "ws"
    refine w_all (bs := p.txt.map fun c => decide (c ∈ (S caps).cps.toList)) (Evl.sq_of (by rw [h1, List.map_map]; rfl)) ?_
    rw [hp.all]
    exact q H1 e1
def sp_is_count (K : PySem.W.Frag) : Sp := fun vs H Q E => ∃ c : Nat, vs = [.int (c : Int)] ∧ 1 ≤ c ∧ c ≤ 9 ∧ Q (.bl true) H
theorem rd_is_count (T : Tx K mg) : ∀ vs H Q E, sp_is_count K vs H Q E → t_is_count K { nx := fun _ H' => Q .non H', rt := Q } (start N_is_count vs) H := by
  intro vs H Q E ⟨c, hv, h1, h9, q⟩
  subst hv
  show t_is_count K { nx := fun _ H' => Q .non H', rt := Q } [some (.int c)] H
  unfold t_is_count
  walk_at "ws"
  rw [decide_eq_true (by omega)]
  exact q
def sp_is_part (K : PySem.W.Frag) : Sp := fun vs H Q E => ∃ ls d R i v x, vs = [.str (S ls), .ref d, v] ∧ Sm ls ∧ RlAt H d R ∧ R.length = 6 ∧ i ≤ 6 ∧ PtAt H v x ∧ 1 ≤ x.2 ∧ x.2 ≤ 9 ∧ PtOk ls i x.1 ∧ ∀ H', Ex H H' → Q (.bl true) H'
theorem rd_is_part (T : Tx K mg) : ∀ vs H Q E, sp_is_part K vs H Q E → t_is_part K (sp_is_count K) (sp_is_name K) { nx := fun _ H' => Q .non H', rt := Q } (start N_is_part vs) H := by
  intro vs H Q E ⟨ls, d, R, i, v, x, hv, hs, ⟨kvs, hd, hkv⟩, n6, hi6, ⟨a, hva, ha⟩, h1, h9, hp, q⟩
  subst hva
  subst hv
  show t_is_part K (sp_is_count K) (sp_is_name K) { nx := fun _ H' => Q .non H', rt := Q } [some (.str (S ls)), some (.ref d), some (.ref a), none] H
  have hpn := hp.n hs hi6
  obtain ⟨l1, l8⟩ := hpn.len
  unfold t_is_part
  walk_at "ws"
  intro tp H1 n1 e1 h1
  walk_at "ws"
  refine w_isiTt h1 (e1 _ _ ha) ?_
  have ha1 := e1 _ _ ha
  walk_at "ws"
  refine ⟨x.2, rfl, by omega, by omega, ?_⟩
  walk_at "ws"
  refine ⟨x.1, rfl, hpn, fun H2 e2 => ?_⟩
  have hd2 : Rd H2 d (.dK kvs) := by
    rcases hd with hd | ⟨o, hd⟩
    · exact .inl (e2 _ _ (e1 _ _ hd))
    · exact .inr ⟨o, e2 _ _ (e1 _ _ hd)⟩
  have ha2 := e2 _ _ ha1
  rcases hxe : x.1 with l | j
  · rw [hxe] at hp ha2
    walk_at "ws"
    simp only [Pt.txt] at ha2 ⊢
    have l1' := hp.1
    have l4' := hp.2.1
    walk_at "ws"
    refine lcP (wl_str (l := l)) (by walk_at "wp") (by omega) (fun _ => true) (fun c => .bl true) (fun _ _ => trivial) ?_ ?_
    · intro c H3 hc e3 EE N hE hN
      walk_at "ws"
      rw [decide_eq_true (show c ∈ (S ls).cps.toList from hp.2.2 c hc)]
      exact hE _ _ rfl rfl (Evl.Ex.refl _)
    · intro D H3 n3 e3 h3
      rw [filter_t] at h3
      walk_at "ws"
      refine w_all (bs := l.map fun c => true) (Evl.sq_of (by rw [h3, List.map_map]; rfl)) ?_
      rw [show (l.map fun _ => true).all id = true by simp]
      exact q H3 (ex_tr e3 (ex_tr e2 e1))
  · rw [hxe] at hp ha2
    have hj : j < R.length := by have : j < i := hp; omega
    obtain ⟨l, hl, _⟩ := hkv.at_ j R[j] (by simp [hj])
    walk_at "ws"
    simp only [Pt.txt] at ha2 ⊢
    walk_at "ws"
    refine w_dinR (ke := nk j) hd2 ?_
    rw [hl]
    exact q H2 (ex_tr e2 e1)
end
section
variable {K : PySem.W.Frag} {mg : Str → Option Value}
def KyV (x : V) (H : Hp) (R : It → Hp → Prop) : Prop := ∃ d o, x = .ref d ∧ ((∃ kvs, H d = some (.frz o (.dK kvs)) ∧ R (Itk d o kvs) H) ∨ ∃ kvs, H d = some (.frz o (.dT kvs)) ∧ R (Itkt d o kvs) H)
theorem w_iKeys {td : TE} {σ : SlS} {H : Hp} {R : It → Hp → Prop} (q : td σ H fun x H1 => KyV x H1 R) : iKeys td σ H R := q
theorem w_kyv {d : Addr} {o : Obj} {kvs : List (Key × V)} {H : Hp} {R : It → Hp → Prop} (h : H d = some (.frz o (.dK kvs))) (q : R (Itk d o kvs) H) : KyV (.ref d) H R := ⟨d, o, rfl, .inl ⟨kvs, h, q⟩⟩
/-- behind a lock -/
def LkV (d : Addr) (od : Obj) (u : HO) (P : Hp → Prop) (H' : Hp) : Prop := H' d = some (.frz od u) ∧ P (upd H' d u)
theorem w_lock {t : TS} {D : Ends} {σ : SlS} {H : Hp} {d : Addr} {kvs : List (Key × V)} (h : H d = some (.dK kvs))
    (q : ∀ od H0, Ml d H H0 → H0 d = some (.frz od (.dK kvs)) → t ⟨fun σ' => LkV d od (.dK kvs) (D.nx σ'), fun v => LkV d od (.dK kvs) (D.rt v), fun σ' => LkV d od (.dK kvs) (D.bk σ'), fun σ' => LkV d od (.dK kvs) (D.ct σ')⟩ σ H0) : tLock t D σ H :=
  ⟨d, .dK kvs, h, trivial, fun od => q od _ ml_upd upd_same⟩
theorem w_lkv {d : Addr} {od : Obj} {kvs : List (Key × V)} {P : Hp → Prop} {H H1 : Hp} (h : H d = some (.dK kvs)) (m : Ml d H H1) (h1 : H1 d = some (.frz od (.dK kvs))) (q : ∀ H2, Ex H H2 → ExL H1 H2 → (∀ b o, b ≠ d → H1 b = some o → H2 b = some o) → P H2) : LkV d od (.dK kvs) P H1 :=
  ⟨h1, q _ (fun a o ha => by
    by_cases z : a = d
    · subst z; rw [upd_same, ← ha, h]
    · rw [upd_ne z]; exact m _ _ z ha) (.ml ml_upd h1 rfl rfl) (fun b o n hb => by rw [upd_ne n]; exact hb)⟩
def sp_is_rule (K : PySem.W.Frag) : Sp := fun vs H Q E => ∃ ls d R i l r, vs = [.str (S ls), .ref d, .ref l] ∧ Sm ls ∧ RlAt H d R ∧ R.length = 6 ∧ i < 6 ∧ RuAt H l r ∧ RuOk ls i r ∧ ∀ H', Ex H H' → Q (.bl true) H'
theorem rd_is_rule (T : Tx K mg) : ∀ vs H Q E, sp_is_rule K vs H Q E → t_is_rule K (sp_is_part K) { nx := fun _ H' => Q .non H', rt := Q } (start N_is_rule vs) H := by
  intro vs H Q E ⟨ls, d, R, i, l, r, hv, hs, hR, n6, hi, ⟨L, hl, hr, hL⟩, hok, q⟩
  subst hv
  subst hr
  show t_is_rule K (sp_is_part K) { nx := fun _ H' => Q .non H', rt := Q } [some (.str (S ls)), some (.ref d), some (.ref l), none] H
  have l1 := hok.l1
  have l3 := hok.l3
  rw [List.length_map] at l1 l3
  have hlen : (L.map Prod.fst).length = L.length := by simp
  unfold t_is_rule
  walk_at "ws"
  intro tp H1 n1 e1 h1
  walk_at "ws"
  refine w_isiTl h1 (e1 _ _ hl) ?_
  have hl1 := e1 _ _ hl
  walk_at "ws"
  refine lcP (wl_list (L := L) (enc := Prod.fst)) (by walk_at "wp") (by omega) (fun _ => true) (fun _ => .bl true) (fun H' e => Evl.sq_of (e _ _ hl1)) ?_ ?_
  · intro c H2 hc e2 EE N hE hN
    have e12 : Ex H H2 := ex_tr e2 e1
    have hx := hok.pt c.2 (List.mem_map.mpr ⟨c, hc, rfl⟩)
    walk_at "ws"
    refine ⟨ls, d, R, i, c.1, c.2, rfl, hs, hR.up e12, n6, by omega, (hL c hc).up (Ex.t e12), hx.1, hx.2.1, hx.2.2, fun H3 e3 => ?_⟩
    exact hE _ _ rfl rfl e3
  · intro D H2 n2 e2 h2
    rw [filter_t] at h2
    walk_at "ws"
    refine w_all (bs := L.map fun _ => true) (Evl.sq_of (by rw [h2, List.map_map]; rfl)) ?_
    rw [show (L.map fun _ => true).all id = true by simp]
    exact q H2 (ex_tr e2 e1)
def sp_check_rules (K : PySem.W.Frag) : Sp := fun vs H Q E => ∃ ls d R kvs, vs = [.str (S ls), .ref d] ∧ Sm ls ∧ H d = some (.dK kvs) ∧ KvAt H kvs R ∧ RlOk ls R ∧ ∀ H', Ex H H' → Q .non H'
theorem rd_check_rules (T : Tx K mg) : ∀ vs H Q E, sp_check_rules K vs H Q E → t_check_rules K (sp_is_name K) (sp_is_rule K) { nx := fun _ H' => Q .non H', rt := Q } (start N_check_rules vs) H := by
  intro vs H Q E ⟨ls, d, R, kvs, hv, hs, hd, hkv, hok, q⟩
  subst hv
  show t_check_rules K (sp_is_name K) (sp_is_rule K) { nx := fun _ H' => Q .non H', rt := Q } [some (.str (S ls)), some (.ref d), none] H
  have hlen : kvs.length = 6 := by rw [hkv.len, hok.n6]
  have n6 := hok.n6
  unfold t_check_rules
  walk_at "ws"
  refine w_lenDK hd ?_
  walk_at "ws"
  refine w_lock hd fun od H0 m0 h0 => ?_
  walk_at "ws"
  refine w_iKeys ?_
  walk_at "ws"
  refine w_kyv h0 ?_
  refine forL wl_keys (fun i σ' H' => ∃ b, σ' = [some (.str (S ls)), some (.ref d), b] ∧ Ex H0 H') ⟨none, rfl, Evl.Ex.refl _⟩ (fun i σ' H' _ ⟨b, _, e⟩ => e _ _ h0) ?_ ?_
  · rintro i ⟨kk, v⟩ σ' H1 hi ⟨b, rfl, e1⟩
    obtain ⟨hk, hlt⟩ := hkv.key hi
    have hk : kk = nk i := hk
    subst hk
    obtain ⟨l, hl, hr⟩ := hkv.at_ i R[i] (by simp [hlt])
    have h01 : ExL H H0 := .ml m0 hd rfl rfl
    walk_at "ws"
    refine ⟨.n i, rfl, by show i < 6; omega, fun H2 e2 => ?_⟩
    have e02 : Ex H0 H2 := ex_tr e2 e1
    walk_at "ws"
    refine w_dgetR (ke := nk i) (.inr ⟨od, e02 _ _ h0⟩) hl ?_
    walk_at "ws"
    have h02 : ExL H H2 := h01.tr (.of e02)
    refine ⟨ls, d, R, i, l, R[i], rfl, hs, ⟨kvs, .inr ⟨od, e02 _ _ h0⟩, hkv.up h02⟩, n6, by omega, hr.up h02, hok.ok i _ (by simp [hlt]), fun H3 e3 => ?_⟩
    walk_at "ws"
    exact got ⟨_, rfl, ex_tr e3 e02⟩
  · rintro σ' H1 ⟨b, rfl, e1⟩
    exact w_lkv hd (ml_ex m0 e1) (e1 _ _ h0) fun H2 e2 _ _ => q H2 e2
end
local macro_rules | `(tactic| walk_at "iKeys") => `(tactic| with_reducible refine w_iKeys ?_)
local macro_rules | `(tactic| walk_at "KyV") => `(tactic| (plain_pass; ((with_reducible apply w_kyv); (· walk_at "hp"))))
section
variable {K : PySem.W.Frag} {mg : Str → Option Value}
abbrev encN (j : Nat) : V := .str (S (nm j))
theorem flat_nm (F : List Nat) : (F.map encN).all flatV = true := by
  rw [List.all_map, List.all_eq_true]
  intro c _
  rfl
theorem inV_nm {j : Nat} (hj : j < 6) : ∀ {F : List Nat}, (∀ k ∈ F, k < 6) → inV (.str (S (nm j))) (F.map encN) = decide (j ∈ F)
  | [], _ => by simp [inV]
  | k :: F, hF => by
    have ih := inV_nm hj (F := F) fun k hk => hF k (by simp [hk])
    have hk := hF k (by simp)
    unfold inV at ih ⊢
    rw [List.map_cons, List.any_cons, ih]
    have e : eqV (encN k) (.str (S (nm j))) = decide (j = k) := by
      show (S (nm k) == S (nm j)) = _
      by_cases z : j = k
      · subst z; simp
      · rw [decide_eq_false z]
        refine beq_eq_false_iff_ne.mpr fun e => z (nm_inj j hj k hk (S_inj.mp e).symm)
    rw [e]
    by_cases z : j = k <;> simp [z]
theorem w_in {H : Hp} {p : Addr} {xs : List V} {x : V} {neg : Bool} {Q : VK} (h : SqL K H p xs) (fx : flatV x = true) (fs : xs.all flatV = true) (q : Q (.bl (if neg then !inV x xs else inV x xs)) H) : rIn K neg x (.ref p) H Q := ⟨p, xs, rfl, .inl h, fx, fs, q⟩
theorem Rd.up {H H' : Hp} {d : Addr} {u : HO} (e : Ex H H') (h : Rd H d u) : Rd H' d u := by
  rcases h with h | ⟨o, h⟩
  · exact .inl (e _ _ h)
  · exact .inr ⟨o, e _ _ h⟩
def Sub (R : List Rule) (i j : Nat) : Prop := ∃ r c, R[i]? = some r ∧ (Pt.n j, c) ∈ r
/-- names that stand within the name i -/
structure Nin (R : List Rule) (i : Nat) (L : List Nat) : Prop where
  lt : ∀ j ∈ L, j < i
  fst : ∀ j, Sub R i j → j ∈ L
  cl : ∀ k ∈ L, ∀ j, Sub R k j → j ∈ L
  len : L.length ≤ 18
def freshOf (r : Rule) (F : List Nat) : List Nat := r.filterMap fun x => match x.1 with
  | .w _ => none
  | .n j => if j ∈ F then none else some j
theorem mem_fresh {r : Rule} {F : List Nat} {j : Nat} : j ∈ freshOf r F ↔ (∃ c, (Pt.n j, c) ∈ r) ∧ j ∉ F := by
  unfold freshOf
  rw [List.mem_filterMap]
  constructor
  · rintro ⟨⟨p, c⟩, h1, h2⟩
    cases p with
    | w l => cases h2
    | n k =>
      simp only at h2
      split at h2
      · cases h2
      · rename_i hk
        cases h2
        exact ⟨⟨c, h1⟩, hk⟩
  · rintro ⟨⟨c, h1⟩, h2⟩
    exact ⟨(.n j, c), h1, by simp [h2]⟩
theorem fresh_eq {F : List Nat} (hF : ∀ k ∈ F, k < 6) : ∀ L : List (V × (Pt × Nat)), (∀ c ∈ L, PtN c.2.1) →
    (L.filter fun c => c.2.1.isN && !(inV (.str (S c.2.1.txt)) (F.map encN))).map (fun c => V.str (S c.2.1.txt)) = (freshOf (L.map Prod.snd) F).map encN
  | [], _ => rfl
  | ⟨v, p, c⟩ :: L, h => by
    have ih := fresh_eq hF L fun c hc => h c (by simp [hc])
    have hp := h ⟨v, p, c⟩ (by simp)
    cases p with
    | w l =>
      rw [List.filter_cons_of_neg (by simp [Pt.isN]), ih]
      rfl
    | n j =>
      by_cases z : j ∈ F
      · rw [List.filter_cons_of_neg (by simp [Pt.isN, Pt.txt, inV_nm (show j < 6 from hp) hF, z]), ih]
        simp [freshOf, z]
      · rw [List.filter_cons_of_pos (by simp [Pt.isN, Pt.txt, inV_nm (show j < 6 from hp) hF, z]), List.map_cons, ih]
        simp [freshOf, z, Pt.txt]
def nf (F : List Nat) : Nat := ((List.range 6).filter fun j => decide (j ∉ F)).length
theorem nf_app {F fr : List Nat} (h : ∀ j ∈ fr, j < 6 ∧ j ∉ F) (ne : fr ≠ []) : nf (F ++ fr) + 1 ≤ nf F := by
  have e : ((List.range 6).filter fun j => decide (j ∉ F ++ fr)) = ((List.range 6).filter fun j => decide (j ∉ F)).filter fun j => decide (j ∉ fr) := by
    rw [List.filter_filter]
    refine List.filter_congr fun j _ => ?_
    simp only [List.mem_append, not_or]
    by_cases z1 : j ∈ F <;> by_cases z2 : j ∈ fr <;> simp [z1, z2]
  unfold nf
  rw [e]
  cases fr with
  | nil => exact absurd rfl ne
  | cons j fr =>
    obtain ⟨h1, h2⟩ := h j (by simp)
    exact List.length_filter_lt_length_iff_exists.mpr ⟨j, by simp [h1, h2], by simp⟩
structure NIv (R : List Rule) (i : Nat) (F Wt : List Nat) : Prop where
  fl : ∀ j ∈ F, j < i
  wl : ∀ j ∈ Wt, j = i ∨ j ∈ F
  cl : ∀ k, (k = i ∨ k ∈ F) → k ∈ Wt ∨ ∀ j, Sub R k j → j ∈ F
  le : F.length + 3 * nf F ≤ 18
def sp_names_in (K : PySem.W.Frag) : Sp := fun vs H Q E => ∃ ls d R i, vs = [.ref d, .str (S (nm i))] ∧ Sm ls ∧ RlAt H d R ∧ RlOk ls R ∧ i < 6 ∧
  ∀ f H' L, H f = none → Ex H H' → H' f = some (.lst (L.map encN)) → Nin R i L → Q (.ref f) H'
theorem rd_names_in (T : Tx K mg) : ∀ vs H Q E, sp_names_in K vs H Q E → t_names_in K (sp_is_name K) { nx := fun _ H' => Q .non H', rt := Q } (start N_names_in vs) H := by
  intro vs H Q E ⟨ls, d, R, i, hv, hs, ⟨kvs, hd, hkv⟩, hok, hi, q⟩
  subst hv
  show t_names_in K (sp_is_name K) { nx := fun _ H' => Q .non H', rt := Q } [some (.ref d), some (.str (S (nm i))), none, none, none, none, none] H
  have n6 := hok.n6
  unfold t_names_in
  walk_at "ws"
  intro f H1 n1 e1 h1
  walk_at "ws"
  intro w H2 n2 e2 h2
  have nw : H w = none := nn_back e1 n2
  have hfw : f ≠ w := ne_new h1 n2
  walk_at "ws"
  refine w_while (fun m σ H' => ∃ (F Wt : List Nat) (b4 b5 b6 : Option V), σ = [some (.ref d), some (.str (S (nm i))), some (.ref f), some (.ref w), b4, b5, b6] ∧ Ex H H' ∧ H' f = some (.lst (F.map encN)) ∧ H' w = some (.lst (Wt.map encN)) ∧ NIv R i F Wt ∧ m = 4 * nf F + Wt.length ∧ m ≤ 25) 25
    ⟨[], [i], none, none, none, rfl, (by walk_at "ex"), e2 _ _ h1, h2, ⟨fun j h => (nomatch h), fun j h => .inl (by simpa using h), fun k h => .inl (by simpa using h), by decide⟩, rfl, Nat.le_refl _⟩ ?_
  rintro m σ H3 ⟨F, Wt, b4, b5, b6, rfl, E3, hf, hw, hI, hm, hm25⟩
  have hFi := hI.fl
  have hF6 : ∀ k ∈ F, k < 6 := fun k hk => by have := hFi k hk; omega
  walk_at "ws"
  refine whb_c (fun hc => ?_) (fun hc => ?_)
  · rcases List.eq_nil_or_concat Wt with rfl | ⟨W', k, rfl⟩
    · simp at hc
    have hle := hI.le
    have hk : k = i ∨ k ∈ F := hI.wl k (by simp)
    have hk6 : k < 6 := by
      rcases hk with rfl | hk
      · exact hi
      · exact hF6 k hk
    obtain ⟨l, hl, hr⟩ := hkv.at_ k R[k] (by simp [n6, hk6])
    have hrk := hok.ok k R[k] (by simp [n6, hk6])
    walk_at "ws"
    refine w_pop (xs := W'.map encN) (y := encN k) (by simpa using hw) fun H4 m4 h4 => ?_
    have E4 : Ex H H4 := ml_new nw E3 m4
    have hf4 : H4 f = some (.lst (F.map encN)) := m4 _ _ hfw hf
    walk_at "ws"
    refine w_dgetR (ke := nk k) (Rd.up E4 hd) hl ?_
    obtain ⟨L, hl4, hLr, hL⟩ := hr.up (.of E4)
    rw [hLr] at hrk
    have l3 := hrk.l3
    rw [List.length_map] at l3
    walk_at "ws"
    refine lcP (wl_list (L := L) (enc := Prod.fst)) (by walk_at "wp") (by omega) (fun c => c.2.1.isN && !(inV (.str (S c.2.1.txt)) (F.map encN))) (fun c => .str (S c.2.1.txt)) (fun H' e => Evl.sq_of (e _ _ hl4)) ?_ ?_
    · intro c H5 hc5 e5 EE N hE hN
      obtain ⟨a, ha1, ha2⟩ := (hL c hc5).up (Ex.t e5)
      have hx := hrk.pt c.2 (List.mem_map.mpr ⟨c, hc5, rfl⟩)
      have hpn : PtN c.2.1 := hx.2.2.n hs (by omega)
      rw [ha1]
      walk_at "ws"
      refine ⟨c.2.1, rfl, hpn, fun H6 e6 => ?_⟩
      have hf6 : H6 f = some (.lst (F.map encN)) := e6 _ _ (e5 _ _ hf4)
      walk_at "ws"
      cases hN1 : c.2.1.isN with
      | false =>
        walk_at "ws"
        exact hN _ (by simp [hN1]) e6
      | true =>
        walk_at "ws"
        refine w_in (Evl.sq_of hf6) rfl (flat_nm F) ?_
        walk_at "ws"
        refine if_c (fun hb => ?_) (fun hb => ?_)
        · walk_at "ws"
          exact hE _ _ (by simpa [hN1] using hb) rfl e6
        · exact hN _ (by simpa [hN1] using hb) e6
    · intro D H5 n5 e5 h5
      rw [fresh_eq hF6 L (fun c hc => (hrk.pt c.2 (List.mem_map.mpr ⟨c, hc, rfl⟩)).2.2.n hs (by omega)), ← hLr] at h5
      generalize hfr : freshOf R[k] F = fr at h5
      have hfl : fr.length ≤ 3 := by
        have h1 : fr.length ≤ R[k].length := by rw [← hfr]; exact List.length_filterMap_le _ _
        have h2 : R[k].length = L.length := by rw [hLr]; simp
        omega
      have hsub : ∀ j, Sub R k j → j ∈ F ∨ j ∈ fr := by
        rintro j ⟨r, c, h1, h2⟩
        have : R[k]? = some R[k] := by simp [n6, hk6]
        rw [this] at h1
        cases h1
        by_cases z : j ∈ F
        · exact .inl z
        · exact .inr (by rw [← hfr]; exact mem_fresh.mpr ⟨⟨c, h2⟩, z⟩)
      have hfj : ∀ j ∈ fr, j < i ∧ j ∉ F := by
        intro j hj
        rw [← hfr] at hj
        obtain ⟨⟨c, h1⟩, h2⟩ := mem_fresh.mp hj
        rw [hLr] at h1
        have h3 : j < k := (hrk.pt _ h1).2.2
        refine ⟨?_, h2⟩
        rcases hk with rfl | hk
        · exact h3
        · have := hFi k hk; omega
      have hw5 : H5 w = some (.lst (W'.map encN)) := e5 _ _ h4
      have hf5 : H5 f = some (.lst (F.map encN)) := e5 _ _ hf4
      have nDf : D ≠ f := ne_new' n5 hf4
      have nDw : D ≠ w := ne_new' n5 h4
      have E5 : Ex H H5 := ex_tr e5 E4
      have hlt : 4 * nf (F ++ fr) + (W' ++ fr).length < m := by
        by_cases z : fr = []
        · subst z; simp at hm ⊢; omega
        · have := nf_app (fun j hj => ⟨by have := (hfj j hj).1; omega, (hfj j hj).2⟩) z
          simp at hm ⊢; omega
      walk_at "ws"
      refine w_extend (xs := F.map encN) (ys := fr.map encN) hf5 h5 (by simp; omega) fun H6 m6 h6 => ?_
      walk_at "ws"
      refine w_extend (xs := W'.map encN) (ys := fr.map encN) (m6 _ _ (fun z => hfw z.symm) hw5) (m6 _ _ nDf h5) (by simp at hm ⊢; omega) fun H7 m7 h7 => ?_
      walk_at "ws"
      refine got ⟨4 * nf (F ++ fr) + (W' ++ fr).length, ?_, F ++ fr, W' ++ fr, _, _, _, rfl, ml_new nw (ml_new n1 E5 m6) m7, ?_, ?_, ⟨?_, ?_, ?_, ?_⟩, rfl, by omega⟩
      · exact hlt
      · rw [m7 _ _ hfw h6, List.map_append]
      · rw [h7, List.map_append]
      · intro j hj
        rcases List.mem_append.mp hj with hj | hj
        · exact hFi j hj
        · exact (hfj j hj).1
      · intro j hj
        rcases List.mem_append.mp hj with hj | hj
        · rcases hI.wl j (by simp [hj]) with h | h
          · exact .inl h
          · exact .inr (by simp [h])
        · exact .inr (by simp [hj])
      · intro k0 hk0
        by_cases z : k0 ∈ fr
        · exact .inl (by simp [z])
        have hk0' : k0 = i ∨ k0 ∈ F := by
          rcases hk0 with h | h
          · exact .inl h
          · rcases List.mem_append.mp h with h | h
            · exact .inr h
            · exact absurd h z
        rcases hI.cl k0 hk0' with h | h
        · rcases List.mem_append.mp (by simpa using h : k0 ∈ W' ++ [k]) with h | h
          · exact .inl (by simp [h])
          · rw [List.mem_singleton.mp h]
            exact .inr fun j hj => by
              rcases hsub j hj with h | h
              · simp [h]
              · simp [h]
        · exact .inr fun j hj => by simp [h j hj]
      · by_cases z : fr = []
        · subst z; simpa using hle
        · have := nf_app (fun j hj => ⟨by have := (hfj j hj).1; omega, (hfj j hj).2⟩) z
          simp; omega
  · have hW : Wt = [] := by simpa using hc
    subst hW
    walk_at "ws"
    refine q f H3 F n1 E3 hf ⟨hFi, fun j hj => ?_, fun k hk j hj => ?_, by have := hI.le; omega⟩
    · rcases hI.cl i (.inl rfl) with h | h
      · cases h
      · exact h j hj
    · rcases hI.cl k (.inr hk) with h | h
      · cases h
      · exact h j hj
end
section
variable {K : PySem.W.Frag} {mg : Str → Option Value}
def sp_ordered (K : PySem.W.Frag) : Sp := fun vs H Q E => ∃ ls d R kvs, vs = [.ref d] ∧ Sm ls ∧ H d = some (.dK kvs) ∧ KvAt H kvs R ∧ RlOk ls R ∧
  ∀ f H', H f = none → Ex H H' → H' f = some (.lst ((List.range 6).map encN)) → Q (.ref f) H'
theorem rd_ordered (T : Tx K mg) : ∀ vs H Q E, sp_ordered K vs H Q E → t_ordered K (sp_names_in K) { nx := fun _ H' => Q .non H', rt := Q } (start N_ordered vs) H := by
  intro vs H Q E ⟨ls, d, R, kvs, hv, hs, hd, hkv, hok, q⟩
  subst hv
  show t_ordered K (sp_names_in K) { nx := fun _ H' => Q .non H', rt := Q } [some (.ref d), none, none, none] H
  have n6 := hok.n6
  have hlen : kvs.length = 6 := by rw [hkv.len, n6]
  unfold t_ordered
  walk_at "ws"
  intro f H1 n1 e1 h1
  walk_at "ws"
  refine w_while (fun m σ H' => ∃ b2 b3, σ = [some (.ref d), some (.ref f), b2, b3] ∧ Ex H H' ∧ ((m = 1 ∧ H' f = some (.lst [])) ∨ (m = 0 ∧ H' f = some (.lst ((List.range 6).map encN))))) 1 ⟨none, none, rfl, e1, .inl ⟨rfl, h1⟩⟩ ?_
  rintro m σ H2 ⟨b2, b3, rfl, E2, hcase⟩
  have hd2 := E2 _ _ hd
  rcases hcase with ⟨rfl, hf⟩ | ⟨rfl, hf⟩
  · walk_at "ws"
    refine w_lenDK hd2 ?_
    walk_at "ws"
    refine whb_c (fun _ => ?_) (fun hc => ?_)
    · refine w_lock hd2 fun od H0 m0 h0 => ?_
      have hfd : f ≠ d := ne_kind hf hd2 (fun z => nomatch z)
      walk_at "ws"
      refine forL wl_keys (fun i σ' H' => ∃ b2 b3, σ' = [some (.ref d), some (.ref f), b2, b3] ∧ Ml d H H' ∧ H' d = some (.frz od (.dK kvs)) ∧ H' f = some (.lst ((List.range i).map encN))) ⟨b2, b3, rfl, ex_ml E2 m0, h0, m0 _ _ hfd hf⟩ (fun i σ' H' _ ⟨_, _, _, _, h, _⟩ => h) ?_ ?_
      · rintro i ⟨kk, v⟩ σ' H3 hi ⟨b2, b3, rfl, m3, hd3, hf3⟩
        obtain ⟨hk, hlt⟩ := hkv.key hi
        have hk : kk = nk i := hk
        subst hk
        have hi6 : i < 6 := by omega
        have hF6 : ∀ k ∈ List.range i, k < 6 := fun k hk => by have := List.mem_range.mp hk; omega
        show gName 2 (encN i) _ _ _
        walk_at "ws"
        refine w_in (Evl.sq_of hf3) rfl (flat_nm _) ?_
        have e0 : inV (encN i) ((List.range i).map encN) = false := by rw [inV_nm hi6 hF6]; simp
        rw [e0]
        walk1
        refine if_t rfl ?_
        walk_at "ws"
        refine ⟨ls, d, R, i, rfl, hs, ⟨kvs, .inr ⟨od, hd3⟩, hkv.up (.ml m3 hd rfl rfl)⟩, hok, hi6, fun p H4 L np e4 hp4 hN => ?_⟩
        have hf4 : H4 f = some (.lst ((List.range i).map encN)) := e4 _ _ hf3
        have hNl := hN.len
        walk_at "ws"
        refine lcP (wl_list (L := L) (enc := encN)) (by walk_at "wp") (by omega) (fun _ => true) (fun _ => .bl true) (fun H' e => Evl.sq_of (e _ _ hp4)) ?_ ?_
        · intro j H5 hj e5 EE N hE hN'
          have hji := hN.lt j hj
          have hf5 := e5 _ _ hf4
          walk_at "ws"
          refine w_in (Evl.sq_of hf5) rfl (flat_nm _) ?_
          rw [inV_nm (by omega) hF6, decide_eq_true (List.mem_range.mpr hji)]
          exact hE _ _ rfl rfl (Evl.Ex.refl _)
        · intro D H5 n5 e5 h5
          rw [filter_t] at h5
          walk_at "ws"
          refine w_all (bs := L.map fun _ => true) (Evl.sq_of (by rw [h5, List.map_map]; rfl)) ?_
          rw [show (L.map fun _ => true).all id = true by simp]
          walk_at "ws"
          have hf5 : H5 f = some (.lst ((List.range i).map encN)) := e5 _ _ hf4
          refine w_append (xs := (List.range i).map encN) hf5 (by simp; omega) fun H6 m6 h6 => ?_
          walk_at "ws"
          refine got ⟨_, _, rfl, fun b o hb ho => m6 b o (ne_new ho n1) (e5 _ _ (e4 _ _ (m3 b o hb ho))), m6 _ _ (fun z => hfd z.symm) (e5 _ _ (e4 _ _ hd3)), ?_⟩
          rw [h6, List.range_succ, List.map_append]
          rfl
      · rintro σ' H3 ⟨b2, b3, rfl, m3, hd3, hf3⟩
        refine w_lkv hd m3 hd3 fun H4 E4 _ k4 => ?_
        refine got ⟨0, by omega, _, _, rfl, E4, .inr ⟨rfl, ?_⟩⟩
        rw [k4 _ _ hfd hf3, hlen]
    · have hc := of_decide_eq_false hc
      rw [hlen] at hc
      exact absurd (by decide) hc
  · walk_at "ws"
    refine w_lenDK hd2 ?_
    walk_at "ws"
    refine whb_c (fun hc => ?_) (fun _ => ?_)
    · have hc := of_decide_eq_true hc
      simp at hc
      omega
    · walk_at "ws"
      exact q f H2 n1 E2 hf
end
section
variable {K : PySem.W.Frag} {mg : Str → Option Value}
theorem put_len (c : List (Key × V)) (k : Key) (x : V) : (putK c k x).length ≤ c.length + 1 := by
  unfold putK
  split <;> simp
def ptx (T : List (List Nat)) : Pt → List Nat
  | .w l => l
  | .n j => T.getD j []
def rtx (T : List (List Nat)) (r : Rule) : List Nat := r.flatMap fun x => repS (ptx T x.1) x.2
structure TxOk (R : List Rule) (T : List (List Nat)) : Prop where
  len : T.length = R.length
  at_ : ∀ (i : Nat) r, R[i]? = some r → T[i]? = some (rtx T r)
theorem NodesAt.up {H H' : Hp} {n r : Addr} {ns : List Nd} (e : Ex H H') (h : NodesAt K H n r ns) : NodesAt K H' n r ns := by
  obtain ⟨⟨dx, h1⟩, h2⟩ := h
  exact ⟨⟨dx, e _ _ h1⟩, h2.up e⟩
theorem NodesAt.mlK {H H' : Hp} {n r nb : Addr} {ns : List Nd} {kvs : List (Key × V)} (m : Ml nb H H') (hb : H nb = some (.dK kvs)) (h : NodesAt K H n r ns) : NodesAt K H' n r ns := by
  obtain ⟨⟨dx, h1⟩, h2⟩ := h
  obtain ⟨xs, hx, _⟩ := h2.len
  exact ⟨⟨dx, m _ _ (ne_kind h1 hb (fun z => nomatch z)) h1⟩, h2.ml m (.mlK m hb) (ne_kind hx hb (fun z => nomatch z))⟩
theorem take_of_lt {O : List Nat} (hs : O.Pairwise (· < ·)) {i j k : Nat} (hk : O[i]? = some k) (hj : j ∈ O) (h : j < k) : j ∈ O.take i := by
  obtain ⟨t, ht, rfl⟩ := List.getElem_of_mem hj
  obtain ⟨hi, rfl⟩ := List.getElem?_eq_some_iff.mp hk
  by_cases hti : t < i
  · exact List.mem_take_iff_getElem.mpr ⟨t, by omega, rfl⟩
  · by_cases z : i = t
    · subst z; omega
    · have := List.pairwise_iff_getElem.mp hs i t hi ht (by omega)
      omega
theorem rtx_snoc (T : List (List Nat)) (r : Rule) (x : Pt × Nat) : rtx T (r ++ [x]) = rtx T r ++ repS (ptx T x.1) x.2 := by simp [rtx]
abbrev oWv2 (K : PySem.W.Frag) (dx : Addr) (lv : V) (n : Addr) : HO := .ins (cWeave K) dx [("letters", lv), ("own_nodes", .ref n)]
def sp_Weave_woven (K : PySem.W.Frag) : Sp := fun vs H Q E => ∃ x dx lv n r d kvs ls R U root, vs = [.ref x, .ref d, .str (S (nm root))] ∧ H x = some (oWv2 K dx lv n) ∧ NodesAt K H n r [] ∧ H d = some (.dK kvs) ∧ KvAt H kvs R ∧ Sm ls ∧ RlOk ls R ∧ TxOk R U ∧ root < 6 ∧
  ∀ (H' : Hp) ns (k : Nat) (nd : Nd), Ml r H H' → NodesAt K H' n r ns → ns[k]? = some nd → nd.txt = U.getD root [] → ns.length ≤ 1000 → Q (.int (k : Int)) H'
theorem rd_Weave_woven (T : Tx K mg) : ∀ vs H Q E, sp_Weave_woven K vs H Q E → t_Weave_woven K (sp_names_in K) (sp_ordered K) (sp_is_name K) (sp_Nodes_leaf K) (sp_Nodes_often K) (sp_Nodes_pair K) { nx := fun _ H' => Q .non H', rt := Q } (start N_Weave_woven vs) H := by
  intro vs H Q E ⟨x, dx, lv, n, r, d, kvs, ls, R, U, root, hv, hx, hN, hd, hkv, hs, hok, hU, hroot, q⟩
  subst hv
  show t_Weave_woven K (sp_names_in K) (sp_ordered K) (sp_is_name K) (sp_Nodes_leaf K) (sp_Nodes_often K) (sp_Nodes_pair K) { nx := fun _ H' => Q .non H', rt := Q } [some (.ref x), some (.ref d), some (.str (S (nm root))), none, none, none, none, none, none, none, none] H
  have n6 := hok.n6
  obtain ⟨⟨dn, hn⟩, hR0⟩ := id hN
  obtain ⟨xs0, hr0, hxs0⟩ := hR0.len
  have hxs0 : xs0 = [] := List.eq_nil_of_length_eq_zero hxs0
  subst hxs0
  unfold t_Weave_woven
  walk_at "ws"
  refine w_dnewK fun nb H1 n1 e1 h1 => ?_
  walk_at "ws"
  refine ⟨ls, d, R, root, rfl, hs, ⟨kvs, .inl (e1 _ _ hd), hkv.up (.of e1)⟩, hok, hroot, fun p H2 L np e2 hp hNi => ?_⟩
  have hLl := hNi.len
  walk_at "ws"
  intro p2 H3 n3 e3 h3
  walk_at "ws"
  refine w_cat (ys := L.map encN) (zs := [encN root]) (by walk_at "hp") h3 (by simp; omega) fun need H4 n4 e4 h4 => ?_
  walk_at "ws"
  intro tp H5 n5 e5 h5
  have hnb5 : H5 nb = some (.dK []) := (by walk_at "hp")
  have hneed5 : H5 need = some (.lst ((L ++ [root]).map encN)) := by rw [e5 _ _ h4, List.map_append]; rfl
  have E5 : Ex H H5 := (by walk_at "ex")
  have hND6 : ∀ k ∈ L ++ [root], k < 6 := fun k hk => by
    rcases List.mem_append.mp hk with hk | hk
    · have := hNi.lt k hk; omega
    · rw [List.mem_singleton.mp hk]; exact hroot
  have hNDc : ∀ k ∈ L ++ [root], ∀ j, Sub R k j → j ∈ L ++ [root] := fun k hk j hj => by
    rcases List.mem_append.mp hk with hk | hk
    · simp [hNi.cl k hk j hj]
    · rw [List.mem_singleton.mp hk] at hj
      simp [hNi.fst j hj]
  walk_at "ws"
  refine ⟨ls, d, R, kvs, rfl, hs, E5 _ _ hd, hkv.up (.of E5), hok, fun o H6 no e6 h6 => ?_⟩
  walk_at "ws"
  refine lcP (wl_list (L := List.range 6) (enc := encN)) (by walk_at "wp") (by simp) (fun j => decide (j ∈ L ++ [root])) encN (fun H' e => Evl.sq_of (e _ _ h6)) ?_ ?_
  · intro j H7 hj e7 EE N hE hN'
    have hj := List.mem_range.mp hj
    have hne7 := e7 _ _ (e6 _ _ hneed5)
    walk_at "ws"
    refine w_in (Evl.sq_of hne7) rfl (flat_nm _) ?_
    rw [inV_nm hj hND6]
    walk_at "ws"
    refine if_c (fun hb => ?_) (fun hb => ?_)
    · walk_at "ws"
      exact hE _ _ hb rfl (Evl.Ex.refl _)
    · exact hN' _ hb (Evl.Ex.refl _)
  · intro D H7 n7 e7 h7
    generalize hO : (List.range 6).filter (fun j => decide (j ∈ L ++ [root])) = O at h7
    have hOm : ∀ j, j ∈ O ↔ j < 6 ∧ j ∈ L ++ [root] := fun j => by rw [← hO]; simp
    have hOp : O.Pairwise (· < ·) := by rw [← hO]; exact List.pairwise_lt_range.filter _
    have hOl : O.length ≤ 6 := by rw [← hO]; exact List.length_filter_le _ _
    have hnb7 : H7 nb = some (.dK []) := e7 _ _ (e6 _ _ hnb5)
    have E7 : Ex H H7 := (by walk_at "ex")
    have rnb : nb ≠ r := ne_new' n1 hr0
    have rD : D ≠ r := ne_new' n7 (show H6 r = some (.lst []) from e6 _ _ (E5 _ _ hr0))
    have rd : d ≠ r := ne_kind hd hr0 (fun z => nomatch z)
    walk_at "ws"
    refine forL (wl_list (L := O) (enc := encN)) (fun i σ H' => ∃ (b6 b7 b8 b9 b10 : Option V) (ns : List Nd) (kv2 : List (Key × V)), σ = [some (.ref x), some (.ref d), some (.str (S (nm root))), some (.ref nb), some (.ref n), some (.ref need), b6, b7, b8, b9, b10] ∧ Ml r H H' ∧ H' D = some (.lst (O.map encN)) ∧ H' nb = some (.dK kv2) ∧ kv2.length ≤ i ∧ NodesAt K H' n r ns ∧ ns.length ≤ 60 * i ∧
      ∀ j ∈ O.take i, ∃ (m : Nat) (y : Nd), valV kv2 (nk j) = some (.int (m : Int)) ∧ ns[m]? = some y ∧ y.txt = U.getD j []) ⟨none, none, none, none, none, [], [], rfl, ex_ml0 E7, h7, hnb7, Nat.le_refl _, hN.up E7, by simp, fun j hj => by simp at hj⟩ (fun i σ' H' _ ⟨_, _, _, _, _, _, _, _, _, h, _⟩ => Evl.sq_of h) ?_ ?_
    · rintro i k σ H8 hk ⟨b6, b7, b8, b9, b10, ns, kv2, rfl, M8, hD8, hnb8, hkl, N8, hnl, hdone⟩
      have hi : i < O.length := (List.getElem?_eq_some_iff.mp hk).1
      have hkO : k ∈ O := List.mem_of_getElem? hk
      obtain ⟨hk6, hkN⟩ := (hOm k).mp hkO
      have hRk : R[k]? = some R[k] := by simp [n6, hk6]
      obtain ⟨l, hl, hru⟩ := hkv.at_ k _ hRk
      have hrk := hok.ok k _ hRk
      obtain ⟨L1, hl1, hLr, hL1⟩ := hru
      have l1 := hrk.l1
      have l3 := hrk.l3
      rw [hLr, List.length_map] at l1 l3
      have rl : l ≠ r := ne_kind hl1 hr0 (fun z => by
        have := HO.lst.inj z
        rw [List.map_eq_nil_iff] at this
        subst this
        simp at l1)
      have hl8 := M8 _ _ rl hl1
      have hd8 := M8 _ _ rd hd
      have Dnb : D ≠ nb := ne_kind hD8 hnb8 (fun z => nomatch z)
      show gName 6 (encN k) _ _ _
      walk_at "ws"
      refine w_dgetK (ke := nk k) hd8 hl ?_
      walk_at "ws"
      refine forL (wl_list (L := L1) (enc := Prod.fst)) (fun t σ H' => ∃ (w : V) (b8 b9 b10 : Option V) (more : List Nd), σ = [some (.ref x), some (.ref d), some (.str (S (nm root))), some (.ref nb), some (.ref n), some (.ref need), some (encN k), some w, b8, b9, b10] ∧ Ml r H8 H' ∧ NodesAt K H' n r (ns ++ more) ∧ more.length ≤ 20 * t ∧
        OfV (ns ++ more) w (rtx U ((L1.take t).map Prod.snd)) ∧ (0 < t → w ≠ .non)) ⟨.non, b8, b9, b10, [], rfl, ml_refl, by simpa using N8, by simp, .inl ⟨rfl, rfl⟩, fun h => by omega⟩ (fun t σ' H' _ ⟨_, _, _, _, _, _, m, _⟩ => Evl.sq_of (m _ _ rl hl8)) ?_ ?_
      · rintro t ⟨v, p1, c1⟩ σ H9 ht ⟨w, b8, b9, b10, more, rfl, M9, N9, hml, hof, hwn⟩
        have htl : t < L1.length := (List.getElem?_eq_some_iff.mp ht).1
        have hcm : (v, p1, c1) ∈ L1 := List.mem_of_getElem? ht
        have hx1 := hrk.pt (p1, c1) (by rw [hLr]; exact List.mem_map.mpr ⟨_, hcm, rfl⟩)
        obtain ⟨hc1, hc9, hp1⟩ := hx1
        have hpn : PtN p1 := hp1.n hs (by omega)
        obtain ⟨a, rfl, ha⟩ := hL1 _ hcm
        have ar : a ≠ r := ne_kind ha hr0 (fun z => nomatch z)
        have ha9 := M9 _ _ ar (M8 _ _ ar ha)
        show gTup K 2 _ (.ref a) _ _ _
        ((repeat ((fail_if_success (with_reducible intro _)); (fail_if_success (with_reducible apply w_sq)); walk1)); with_reducible apply w_sq)
        refine w_cut (fun σ' H4 => ∃ (num : Nat) (y : Nd) (more4 : List Nd), σ' = [some (.ref x), some (.ref d), some (.str (S (nm root))), some (.ref nb), some (.ref n), some (.ref need), some (encN k), some w, some (.str (S p1.txt)), some (.int (c1 : Int)), some (.int (num : Int))] ∧ Ml r H8 H4 ∧ NodesAt K H4 n r (ns ++ more4) ∧ more4.length ≤ more.length + 1 ∧ OfV (ns ++ more4) w (rtx U ((L1.take t).map Prod.snd)) ∧ (ns ++ more4)[num]? = some y ∧ y.txt = ptx U p1) ?_ (fun N' hN' => ?_)
        · rintro σ' H4 ⟨num, y, more4, rfl, M4, N4, hm4, hof4, hy, hyt⟩
          obtain ⟨⟨dn4, hn4⟩, _⟩ := id N4
          walk_at "ws"
          refine ⟨n, r, ns ++ more4, num, c1, y, rfl, N4, hy, hc1, hc9, by simp; omega, fun H10 more5 j y5 m10 N10 hm5 hy5 hyt5 => ?_⟩
          have M10 := ml_tr M4 m10
          rw [List.append_assoc] at N10 hy5
          have htk : (L1.take (t + 1)).map Prod.snd = (L1.take t).map Prod.snd ++ [(p1, c1)] := by
            rw [List.take_succ, ht, List.map_append]
            rfl
          rw [hyt] at hyt5
          walk_at "ws"
          rcases hof4 with ⟨rfl, hw0⟩ | ⟨jw, yw, rfl, hyw, hywt⟩
          · walk_at "ws"
            refine got ⟨_, _, _, _, more4 ++ more5, rfl, M10, N10, by simp; omega, .inr ⟨j, y5, rfl, hy5, ?_⟩, fun _ h => nomatch h⟩
            rw [htk, rtx_snoc, hw0, hyt5]
            rfl
          · walk_at "ws"
            obtain ⟨⟨dn5, hn5⟩, _⟩ := id N10
            walk_at "ws"
            have hyw5 : (ns ++ (more4 ++ more5))[jw]? = some yw := by
              rw [← List.append_assoc, List.getElem?_append_left (List.getElem?_eq_some_iff.mp hyw).1]
              exact hyw
            refine ⟨n, r, ns ++ (more4 ++ more5), jw, j, yw, y5, rfl, N10, hyw5, hy5, by simp; omega, fun H11 m11 N11 => ?_⟩
            walk_at "ws"
            rw [List.append_assoc] at N11
            refine got ⟨_, _, _, _, more4 ++ more5 ++ [⟨yw.txt ++ y5.txt, some (jw, j)⟩], rfl, ml_tr M10 m11, N11, by simp; omega, .inr ⟨(ns ++ (more4 ++ more5)).length, ⟨yw.txt ++ y5.txt, some (jw, j)⟩, rfl, ?_, ?_⟩, fun _ h => nomatch h⟩
            · rw [← List.append_assoc, List.getElem?_append_right (Nat.le_refl _)]
              simp
            · rw [htk, rtx_snoc, hywt, hyt5]
        · walk_at "ws"
          refine ⟨p1, rfl, hpn, fun H10 e10 => ?_⟩
          have N10 := N9.up e10
          have M10 := ml_ex M9 e10
          obtain ⟨⟨dn4, hn4⟩, _⟩ := id N10
          rcases p1 with lw | j1
          · walk_at "ws"
            refine ⟨n, r, ns ++ more, lw, rfl, N10, by have := hp1.2.1; omega, by simp; omega, fun H11 m11 N11 => ?_⟩
            walk_at "ws"
            rw [List.append_assoc] at N11
            refine hN' _ _ ⟨(ns ++ more).length, ⟨lw, none⟩, more ++ [⟨lw, none⟩], rfl, ml_tr M10 m11, N11, by simp, ?_, ?_, rfl⟩
            · rcases hof with h | ⟨jw, yw, h1', h2', h3'⟩
              · exact .inl h
              · refine .inr ⟨jw, yw, h1', ?_, h3'⟩
                rw [← List.append_assoc, List.getElem?_append_left (List.getElem?_eq_some_iff.mp h2').1]
                exact h2'
            · rw [← List.append_assoc, List.getElem?_append_right (Nat.le_refl _)]
              simp
          · have hj1k : j1 < k := hp1
            have hj1N : j1 ∈ L ++ [root] := hNDc k hkN j1 ⟨_, c1, hRk, by rw [hLr]; exact List.mem_map.mpr ⟨_, hcm, rfl⟩⟩
            have hj1O : j1 ∈ O := (hOm j1).mpr ⟨by omega, hj1N⟩
            obtain ⟨m, y, hv1, hy1, hyt1⟩ := hdone j1 (take_of_lt hOp hk hj1O hj1k)
            have hnb10 : H10 nb = some (.dK kv2) := M10 _ _ rnb hnb8
            walk_at "ws"
            refine w_dgetK (ke := nk j1) hnb10 hv1 ?_
            walk_at "ws"
            refine hN' _ _ ⟨m, y, more, rfl, M10, N10, by omega, hof, ?_, hyt1⟩
            rw [List.getElem?_append_left (List.getElem?_eq_some_iff.mp hy1).1]
            exact hy1
      · rintro σ H9 ⟨w, b8, b9, b10, more, rfl, M9, N9, hml, hof, hwn⟩
        rw [List.take_length] at hof
        have hnb9 : H9 nb = some (.dK kv2) := M9 _ _ rnb hnb8
        rcases hof with ⟨hw0, _⟩ | ⟨jw, yw, rfl, hyw, hywt⟩
        · exact absurd hw0 (hwn (by omega))
        have hUk : U.getD k [] = rtx U R[k] := by
          have := hU.at_ k _ hRk
          simp [this]
        walk_at "ws"
        refine w_dputK (ke := nk k) hnb9 (by omega) fun H10 m10 h10 => ?_
        walk_at "ws"
        refine got ⟨_, _, _, _, _, ns ++ more, _, rfl, ?_, ?_, h10, ?_, N9.mlK m10 hnb9, by simp; omega, fun j hj => ?_⟩
        · intro b o hb ho
          exact m10 _ _ (ne_new ho n1) (M9 _ _ hb (M8 _ _ hb ho))
        · exact m10 _ _ Dnb (M9 _ _ rD hD8)
        · exact Nat.le_trans (put_len _ _ _) (by omega)
        · rw [List.take_succ, hk] at hj
          rw [valV_put]
          rcases List.mem_append.mp hj with hj | hj
          · have hjO : j ∈ O := List.mem_of_mem_take hj
            obtain ⟨m, y, hv1, hy1, hyt1⟩ := hdone j hj
            by_cases z : nk j = nk k
            · rw [if_pos z]
              have hjk : j = k := nm_inj j ((hOm j).mp hjO).1 k hk6 (S_inj.mp (Sum.inr.inj z))
              subst hjk
              exact ⟨jw, yw, rfl, hyw, by rw [hywt, hUk, hLr]⟩
            · rw [if_neg z]
              refine ⟨m, y, hv1, ?_, hyt1⟩
              rw [List.getElem?_append_left (List.getElem?_eq_some_iff.mp hy1).1]
              exact hy1
          · have hjk : j = k := by simpa using hj
            subst hjk
            rw [if_pos rfl]
            exact ⟨jw, yw, rfl, hyw, by rw [hywt, hUk, hLr]⟩
    · rintro σ H8 ⟨b6, b7, b8, b9, b10, ns, kv2, rfl, M8, hD8, hnb8, hkl, N8, hnl, hdone⟩
      rw [List.take_length] at hdone
      obtain ⟨m, y, hv1, hy1, hyt1⟩ := hdone root ((hOm root).mpr ⟨hroot, by simp⟩)
      walk_at "ws"
      refine w_dgetK (ke := nk root) hnb8 hv1 ?_
      exact q H8 ns m y M8 N8 hy1 hyt1 (by omega)
end
section
variable {K : PySem.W.Frag} {mg : Str → Option Value}
structure LsOk (ls : List Nat) : Prop where
  l2 : 2 ≤ ls.length
  l3 : ls.length ≤ 3
  nd : ls.Nodup
  sm : Sm ls
def LsV (x : V) (H : Hp) (Q : VK) : Prop := ∃ l : List Nat, x = .str (S l) ∧ l.Nodup ∧ l.length ≤ 1000 ∧ (∀ c ∈ l, c < 128) ∧ Q (.int l.length) H
theorem w_lenSet {ta : TE} {σ : SlS} {H : Hp} {Q : VK} (q : ta σ H fun x H1 => LsV x H1 Q) : tLenSetS ta σ H Q := q
theorem w_lsv {l : List Nat} {H : Hp} {Q : VK} (h : LsOk l) (q : Q (.int l.length) H) : LsV (.str (S l)) H Q := ⟨l, rfl, h.nd, by have := h.l3; omega, fun c hc => by have := h.sm c hc; omega, q⟩
theorem abc_in {c : Nat} : c ∈ abc ↔ 97 ≤ c ∧ c ≤ 122 := by
  simp
  constructor
  · rintro ⟨a, h1, rfl⟩; omega
  · intro h; exact ⟨c - 97, by omega, by omega⟩
def sp_check_letters (K : PySem.W.Frag) : Sp := fun vs H Q E => ∃ ls, vs = [.str (S ls)] ∧ LsOk ls ∧ ∀ H', Ex H H' → Q .non H'
theorem rd_check_letters (T : Tx K mg) : ∀ vs H Q E, sp_check_letters K vs H Q E → t_check_letters K { nx := fun _ H' => Q .non H', rt := Q } (start N_check_letters vs) H := by
  intro vs H Q E ⟨ls, hv, hok, q⟩
  subst hv
  show t_check_letters K { nx := fun _ H' => Q .non H', rt := Q } [some (.str (S ls)), none] H
  have l2 := hok.l2
  have l3 := hok.l3
  unfold t_check_letters
  rw [abc_S]
  walk_at "ws"
  refine w_lenSet ?_
  walk_at "ws"
  refine w_lsv hok ?_
  walk_at "ws"
  refine lcP (wl_str (l := ls)) (by walk_at "wp") (by omega) (fun _ => true) (fun _ => .bl true) (fun _ _ => trivial) ?_ ?_
  · intro c H1 hc e1 EE N hE hN
    walk_at "ws"
    rw [decide_eq_true (show c ∈ (S abc).cps.toList from abc_in.mpr (hok.sm c hc))]
    exact hE _ _ rfl rfl (Evl.Ex.refl _)
  · intro D H1 n1 e1 h1
    rw [filter_t] at h1
    walk_at "ws"
    refine w_all (bs := ls.map fun _ => true) (Evl.sq_of (by rw [h1, List.map_map]; rfl)) ?_
    rw [show (ls.map fun _ => true).all id = true by simp]
    walk_at "ws"
    exact q H1 e1
theorem NodesAt.mlW {H H' : Hp} {n r x C dx : Addr} {fs : List (Str × V)} {ns : List Nd} (m : Ml x H H') (hx : H x = some (.ins C dx fs)) (g1 : fs.length ≠ 5) (g2 : ∀ a b : V, fs ≠ ([("most", a), ("rows", b)] : List (Str × V))) (h : NodesAt K H n r ns) : NodesAt K H' n r ns := by
  obtain ⟨⟨dn, h1⟩, h0, as, h2, h3, h4⟩ := h
  refine ⟨⟨dn, m _ _ (ne_kind h1 hx (fun z => g2 _ _ (HO.ins.inj z).2.2.symm)) h1⟩, h0, as, m _ _ (ne_kind h2 hx (fun z => nomatch z)) h2, h3, fun i a n' y1 y2 => ?_⟩
  obtain ⟨da, e, k1, k2⟩ := h4 i a n' y1 y2
  exact ⟨da, e, m _ _ (ne_kind k1 hx (fun z => g1 (by rw [← (HO.ins.inj z).2.2]; rfl))) k1, m _ _ (ne_kind k2 hx (fun z => nomatch z)) k2⟩
def sp_Weave_init (K : PySem.W.Frag) : Sp := fun vs H Q E => ∃ x dx ls d kvs R U root, vs = [.ref x, .str (S ls), .ref d, .str (S (nm root))] ∧ H x = some (.ins (cWeave K) dx []) ∧ LsOk ls ∧ H d = some (.dK kvs) ∧ KvAt H kvs R ∧ RlOk ls R ∧ TxOk R U ∧ root < 6 ∧
  ∀ H' ns (k : Nat) (nd : Nd), Ml x H H' → WvAt K H' x ls ns k nd → nd.txt = U.getD root [] → Q .non H'
theorem rd_Weave_init (T : Tx K mg) : ∀ vs H Q E, sp_Weave_init K vs H Q E → t_Weave_init K (sp_check_letters K) (sp_check_rules K) (sp_names_in K) (sp_Nodes_init K) (sp_Weave_woven K) { nx := fun _ H' => Q .non H', rt := Q } (start N_Weave_init vs) H := by
  intro vs H Q E ⟨x, dx, ls, d, kvs, R, U, root, hv, hx, hls, hd, hkv, hok, hU, hroot, q⟩
  subst hv
  show t_Weave_init K (sp_check_letters K) (sp_check_rules K) (sp_names_in K) (sp_Nodes_init K) (sp_Weave_woven K) { nx := fun _ H' => Q .non H', rt := Q } [some (.ref x), some (.str (S ls)), some (.ref d), some (.str (S (nm root))), none, none] H
  have n6 := hok.n6
  have hs := hls.sm
  unfold t_Weave_init
  walk_at "ws"
  refine ⟨ls, rfl, hls, fun H1 e1 => ?_⟩
  walk_at "ws"
  refine ⟨ls, d, R, kvs, rfl, hs, e1 _ _ hd, hkv.up (.of e1), hok, fun H2 e2 => ?_⟩
  have E2 : Ex H H2 := ex_tr e2 e1
  walk_at "ws"
  refine ⟨d, kvs, (List.range 6).map fun i => S (nm i), rfl, .inl (E2 _ _ hd), by rw [hkv.ks, n6, List.map_map]; rfl, by simp, fun ys p hperm hsort np => ?_⟩
  generalize hH : upd H2 p (.lst (ys.map V.str)) = H3
  have e3 : Ex H2 H3 := by rw [← hH]; exact Evl.Ex.new np
  have h3 : H3 p = some (.lst (ys.map V.str)) := by rw [← hH]; exact upd_same
  have E3 : Ex H H3 := ex_tr e3 E2
  walk_at "ws"
  refine lcP (wl_list (L := ys) (enc := V.str)) (by walk_at "wp") (by rw [hperm.length_eq]; simp) (fun _ => false) V.str (fun H' e => Evl.sq_of (e _ _ h3)) ?_ ?_
  · intro z H4 hz e4 EE N hE hN
    obtain ⟨i, hi, rfl⟩ := List.mem_map.mp (hperm.mem_iff.mp hz)
    have hi := List.mem_range.mp hi
    have E4 : Ex H H4 := ex_tr e4 E3
    walk_at "ws"
    refine ⟨ls, d, R, i, rfl, hs, ⟨kvs, .inl (E4 _ _ hd), hkv.up (.of E4)⟩, hok, hi, fun p2 H5 L np2 e5 hp2 hNi => ?_⟩
    refine w_in (Evl.sq_of hp2) rfl (flat_nm _) ?_
    have e0 : inV (V.str (S (nm i))) (L.map encN) = false := by
      rw [inV_nm hi (fun k hk => by have := hNi.lt k hk; omega)]
      exact decide_eq_false fun hm => by have := hNi.lt i hm; omega
    rw [e0]
    walk1
    refine if_f rfl ?_
    exact hN _ rfl e5
  · intro D H4 n4 e4 h4
    have h4' : H4 D = some (.lst []) := by rw [h4]; simp
    have E4 : Ex H H4 := ex_tr e4 E3
    have hx4 := E4 _ _ hx
    walk_at "ws"
    obtain ⟨l, hl, _⟩ := hkv.at_ root R[root] (by simp [n6, hroot])
    refine w_dinR (ke := nk root) (.inl (E4 _ _ hd)) ?_
    rw [hl]
    walk_at "ws"
    intro H5 m5 h5
    walk_at "ws"
    refine w_mkv fun n dn H6 nn6 e6 h6 => ⟨n, dn, rfl, h6, fun r H7 nr7 m7 h7 hr7 => ⟨rfl, ?_⟩⟩
    have e7 : Ex H5 H7 := ml_new nn6 e6 m7
    have M7 : Ml x H H7 := ml_exR e7 (ml_trR m5 (ex_ml0 E4))
    have h7x : H7 x = some (.ins (cWeave K) dx [("letters", .str (S ls))]) := e7 _ _ h5
    walk_at "ws"
    intro H8 m8 h8
    have hnx : n ≠ x := ne_new' nn6 h5
    have hrx : r ≠ x := ne_kind hr7 h7x (fun z => nomatch z)
    have hn8 : H8 n = some (oNodes K dn r) := m8 _ _ hnx h7
    have hr8 : H8 r = some (.lst []) := m8 _ _ hrx hr7
    have M8 : Ml x H H8 := ml_tr M7 m8
    have hdx : d ≠ x := ne_kind hd hx (fun z => nomatch z)
    have N8 : NodesAt K H8 n r [] := ⟨⟨dn, hn8⟩, fun i n' h => by simp at h, [], hr8, rfl, fun i a n' h => by simp at h⟩
    walk_at "ws"
    refine ⟨x, dx, .str (S ls), n, r, d, kvs, ls, R, U, root, rfl, h8, N8, M8 _ _ hdx hd, hkv.up (.ml M8 hx rfl rfl), hs, hok, hU, hroot, fun H9 ns k nd m9 N9 hk hnd hnl => ?_⟩
    have xr : x ≠ r := fun z => hrx z.symm
    have h9x : H9 x = some (oWv2 K dx (.str (S ls)) n) := m9 _ _ xr h8
    walk_at "ws"
    intro H10 m10 h10
    have N10 : NodesAt K H10 n r ns := N9.mlW m10 h9x (by simp) (fun a b z => absurd (Prod.mk.inj (List.cons.inj z).1).1 (by decide +kernel))
    obtain ⟨⟨dn10, hn10⟩, hR10⟩ := id N10
    obtain ⟨xs, a, hr10, hxl, hxa, ⟨da, ea, ha, hea⟩⟩ := hR10.get hk
    walk_at "ws"
    refine w_ixL (by walk_at "sq") hxa ?_
    walk_at "ws"
    intro H11 m11 h11
    have N11 : NodesAt K H11 n r ns := N10.mlW m11 h10 (by simp) (fun a b z => absurd (Prod.mk.inj (List.cons.inj z).1).1 (by decide +kernel))
    obtain ⟨⟨dn11, hn11⟩, hR11⟩ := id N11
    refine q H11 ns k nd ?_ ⟨⟨dx, n, dn11, r, h11, hn11, hR11⟩, hk, hnl⟩ hnd
    have hr0 : H r = none := by
      cases hh : H r with
      | none => rfl
      | some o =>
        have := e6 _ _ (m5 r o hrx (E4 _ _ hh))
        rw [this] at nr7
        cases nr7
    have M9 : Ml x H H9 := fun b o hb ho => m9 b o (ne_new ho hr0) (M8 b o hb ho)
    exact ml_tr M9 (ml_tr m10 m11)
end
section
variable {K : PySem.W.Frag} {mg : Str → Option Value}
theorem for_enum {α : Type} {L : List α} {enc : α → V} {a : Addr} {g : TG} {tb : TS} {D : Ends} {σ : SlS} {H : Hp} (P : Nat → SlS → Hp → Prop) (h0 : P 0 σ H) (hG : ∀ i σ H, P i σ H → SqL K H a (L.map enc))
    (hs : ∀ i c σ H p H1, L[i]? = some c → P i σ H → H p = none → Ex H H1 → H1 p = some (.tup [.int (i : Nat), enc c]) → g (.ref p) σ H1 fun σ2 H2 => tb { D with nx := fun σ H => Got (P (i + 1) σ H), ct := fun σ H => Got (P (i + 1) σ H), bk := D.nx } σ2 H2) (hd : ∀ σ H, P L.length σ H → D.nx σ H) : ForV (Ite K a) g tb D σ H := by
  refine ⟨fun i m σ H => m = L.length - i ∧ i ≤ L.length ∧ P i σ H, ⟨L.length, by simp, Nat.zero_le _, h0⟩, ?_⟩
  rintro i m σ H ⟨rfl, hle, hp⟩
  have hq := hG i σ H hp
  by_cases hlt : i < L.length
  · have hc : L[i]? = some L[i] := by simp [hlt]
    have hx : (L.map enc)[i]? = some (enc L[i]) := by rw [List.getElem?_map, hc]; rfl
    refine .inr ⟨⟨_, _, hq, hx⟩, fun σ H => Got (P (i + 1) σ H), fun σ' H' h => ⟨L.length - (i + 1), by omega, rfl, hlt, h⟩, fun x H' y => ?_⟩
    obtain ⟨p, c, rfl, hn, rfl, hcx⟩ := y
    have e := hcx _ hq
    rw [hx] at e
    cases e
    exact hs i L[i] σ H p _ hc hp hn (Evl.Ex.new hn) upd_same
  · have e : i = L.length := by omega
    subst e
    exact .inl ⟨⟨_, hq, by simp⟩, hd σ H hp⟩
def EnV (K : PySem.W.Frag) (vs : List V) (H : Hp) (R : It → Hp → Prop) : Prop := ∃ a xs, vs = [.ref a] ∧ SqL K H a xs ∧ R (Ite K a) H
theorem w_iEnum {ts : TA} {σ : SlS} {H : Hp} {R : It → Hp → Prop} (q : ts σ H fun vs H1 => EnV K vs H1 R) : iEnum K ts σ H R := q
theorem w_env {a : Addr} {xs : List V} {H : Hp} {R : It → Hp → Prop} (h : SqL K H a xs) (q : R (Ite K a) H) : EnV K [.ref a] H R := ⟨a, xs, rfl, h, q⟩
def sp_is_word (K : PySem.W.Frag) : Sp := fun vs H Q E => ∃ ls w, vs = [.str (S ls), .str (S w)] ∧ 1 ≤ w.length ∧ w.length ≤ 8 ∧ (∀ c ∈ w, c ∈ ls) ∧ ∀ H', Ex H H' → Q (.bl true) H'
theorem rd_is_word (T : Tx K mg) : ∀ vs H Q E, sp_is_word K vs H Q E → t_is_word K { nx := fun _ H' => Q .non H', rt := Q } (start N_is_word vs) H := by
  intro vs H Q E ⟨ls, w, hv, h1, h8, hin, q⟩
  subst hv
  show t_is_word K { nx := fun _ H' => Q .non H', rt := Q } [some (.str (S ls)), some (.str (S w)), none] H
  unfold t_is_word
  walk_at "ws"
  refine lcP (wl_str (l := w)) (by walk_at "wp") (by omega) (fun _ => true) (fun _ => .bl true) (fun _ _ => trivial) ?_ ?_
  · intro c H1 hc e1 EE N hE hN
    walk_at "ws"
    rw [decide_eq_true (show c ∈ (S ls).cps.toList from hin c hc)]
    exact hE _ _ rfl rfl (Evl.Ex.refl _)
  · intro D H1 n1 e1 h1
    rw [filter_t] at h1
    walk_at "ws"
    refine w_all (bs := w.map fun _ => true) (Evl.sq_of (by rw [h1, List.map_map]; rfl)) ?_
    rw [show (w.map fun _ => true).all id = true by simp]
    exact q H1 e1
def sp_check_words (K : PySem.W.Frag) : Sp := fun vs H Q E => ∃ ls w l, vs = [.str (S ls), .ref l] ∧ LsOk ls ∧ H l = some (.lst [.str (S w)]) ∧ 1 ≤ w.length ∧ w.length ≤ 8 ∧ (∀ c ∈ w, c ∈ ls) ∧ ∀ H', Ex H H' → Q .non H'
theorem rd_check_words (T : Tx K mg) : ∀ vs H Q E, sp_check_words K vs H Q E → t_check_words K (sp_check_letters K) (sp_is_word K) { nx := fun _ H' => Q .non H', rt := Q } (start N_check_words vs) H := by
  intro vs H Q E ⟨ls, w, l, hv, hls, hl, h1, h8, hin, q⟩
  subst hv
  show t_check_words K (sp_check_letters K) (sp_is_word K) { nx := fun _ H' => Q .non H', rt := Q } [some (.str (S ls)), some (.ref l), none, none] H
  unfold t_check_words
  walk_at "ws"
  refine ⟨ls, rfl, hls, fun H1 e1 => ?_⟩
  walk_at "ws"
  refine w_iEnum ?_
  have hl1 := e1 _ _ hl
  walk_at "ws"
  refine w_env (Evl.sq_of hl1) ?_
  refine for_enum (L := [w]) (enc := fun w => .str (S w)) (fun i σ' H' => ∃ b2 b3, σ' = [some (.str (S ls)), some (.ref l), b2, b3] ∧ Ex H H') ⟨none, none, rfl, e1⟩ (fun i σ' H' ⟨_, _, _, e⟩ => Evl.sq_of (e _ _ hl)) ?_ ?_
  · rintro i c σ' H2 p H3 hi ⟨b2, b3, rfl, E2⟩ n3 e3 h3
    have hi0 : i = 0 := by
      have := (List.getElem?_eq_some_iff.mp hi).1
      simp at this
      exact this
    subst hi0
    have hc : c = w := by simpa using hi.symm
    subst hc
    have E3 : Ex H H3 := ex_tr e3 E2
    have hl3 := E3 _ _ hl
    walk_at "ws"
    refine ⟨ls, c, rfl, h1, h8, hin, fun H4 e4 => ?_⟩
    have hl4 := e4 _ _ hl3
    have E4 : Ex H H4 := ex_tr e4 E3
    walk_at "ws"
    refine w_slL (Evl.sq_of hl4) fun p5 H5 n5 e5 h5 => ?_
    walk_at "ws"
    refine w_in (xs := []) (Evl.sq_of h5) rfl rfl ?_
    walk_at "ws"
    exact got ⟨_, _, rfl, ex_tr e5 E4⟩
  · rintro σ' H2 ⟨b2, b3, rfl, E2⟩
    have hl2 := E2 _ _ hl
    walk_at "ws"
    exact q H2 E2
end
section
variable {K : PySem.W.Frag} {mg : Str → Option Value}
def sp_is_number (K : PySem.W.Frag) : Sp := fun vs H Q E => ∃ v a b : Int, vs = [.int v, .int a, .int b] ∧ a ≤ v ∧ v ≤ b ∧ Q (.bl true) H
theorem rd_is_number (T : Tx K mg) : ∀ vs H Q E, sp_is_number K vs H Q E → t_is_number K { nx := fun _ H' => Q .non H', rt := Q } (start N_is_number vs) H := by
  intro vs H Q E ⟨v, a, b, hv, h1, h2, q⟩
  subst hv
  show t_is_number K { nx := fun _ H' => Q .non H', rt := Q } [some (.int v), some (.int a), some (.int b)] H
  unfold t_is_number
  walk_at "ws"
  rw [decide_eq_true h2]
  exact q
def kids (k : Nat) : Tr → List Tr
  | .go _ _ => []
  | .tell _ t => [t]
  | .read _ f => (List.range k).map f
theorem sz_kids {k : Nat} (t : Tr) : sz k t = ((kids k t).map (sz k)).sum + 1 := by
  cases t with
  | go s q => rfl
  | tell n t => simp [sz, kids]
  | read p f => simp [sz, kids, Function.comp_def]
theorem OkT.kids {k m n d : Nat} {t : Tr} (h : OkT k m n t d) : ∀ u ∈ kids k t, OkT k m n u (d - 1) := by
  cases t with
  | go s q => intro u hu; cases hu
  | tell j t =>
    obtain ⟨d', e, _, h2⟩ := h
    intro u hu
    rw [List.mem_singleton.mp hu, show d - 1 = d' by omega]
    exact h2
  | read p f =>
    obtain ⟨d', e, _, h2⟩ := h
    intro u hu
    obtain ⟨i, hi, rfl⟩ := List.mem_map.mp hu
    rw [show d - 1 = d' by omega]
    exact h2 i (List.mem_range.mp hi)
/-- values of trees -/
def TrsAt (k : Nat) (H : Hp) (L : List (V × Tr)) : Prop := ∀ x ∈ L, TrAt k H x.2 x.1
theorem TrsAt.up {k : Nat} {H H' : Hp} {L : List (V × Tr)} (e : ExT H H') (h : TrsAt k H L) : TrsAt k H' L := fun x hx => (h x hx).up e
def sp_is_head (K : PySem.W.Frag) : Sp := fun vs H Q E => ∃ k m n t v d, vs = [v, .int (k : Nat), .int (m : Nat), .int (n : Nat)] ∧ TrAt k H t v ∧ OkT k m n t d ∧ ∀ H', Ex H H' → Q (.bl true) H'
theorem rd_is_head (T : Tx K mg) : ∀ vs H Q E, sp_is_head K vs H Q E → t_is_head K (sp_is_number K) { nx := fun _ H' => Q .non H', rt := Q } (start N_is_head vs) H := by
  intro vs H Q E ⟨k, m, n, t, v, d, hv, hT, hok, q⟩
  subst hv
  show t_is_head K (sp_is_number K) { nx := fun _ H' => Q .non H', rt := Q } [some v, some (.int k), some (.int m), some (.int n)] H
  unfold t_is_head
  cases t with
  | go s q' =>
    obtain ⟨a, rfl, ha⟩ := hT
    obtain ⟨_, h1, h2, h3⟩ := hok
    walk_at "ws"
    intro tp H1 n1 e1 h1'
    walk_at "ws"
    refine w_isiTt h1' (e1 _ _ ha) ?_
    have ha1 := e1 _ _ ha
    walk_at "ws"
    refine ⟨s, 1, _, rfl, by omega, by omega, ?_⟩
    walk_at "ws"
    refine ⟨q', 0, _, rfl, by omega, by omega, ?_⟩
    exact q H1 e1
  | tell j t =>
    obtain ⟨a, w, rfl, ha, hw⟩ := hT
    obtain ⟨_, _, h2, _⟩ := hok
    walk_at "ws"
    intro tp H1 n1 e1 h1'
    walk_at "ws"
    refine w_isiTt h1' (e1 _ _ ha) ?_
    have ha1 := e1 _ _ ha
    walk_at "ws"
    refine ⟨j, 0, _, rfl, by omega, by omega, ?_⟩
    exact q H1 e1
  | read p f =>
    obtain ⟨a, c, ws, rfl, ha, hc, hwl, hk⟩ := hT
    obtain ⟨_, _, h2, _⟩ := hok
    walk_at "ws"
    intro tp H1 n1 e1 h1'
    walk_at "ws"
    refine w_isiTt h1' (e1 _ _ ha) ?_
    have ha1 := e1 _ _ ha
    have hc1 := e1 _ _ hc
    walk_at "ws"
    refine ⟨p, 0, _, rfl, by omega, by omega, ?_⟩
    walk_at "ws"
    intro tp2 H2 n2 e2 h2'
    walk_at "ws"
    refine w_isiTt h2' (e2 _ _ hc1) ?_
    have ha2 := e2 _ _ ha1
    have hc2 := e2 _ _ hc1
    walk_at "ws"
    rw [decide_eq_true (by omega)]
    exact q H2 (ex_tr e2 e1)
def sp_within (K : PySem.W.Frag) : Sp := fun vs H Q E => ∃ k t v, vs = [v] ∧ TrAt k H t v ∧ ∀ p H', ∀ L : List (V × Tr), H p = none → Ex H H' → H' p = some (.lst (L.map Prod.fst)) → kids k t = L.map Prod.snd → TrsAt k H' L → Q (.ref p) H'
theorem zip_fst {α β : Type} : ∀ {a : List α} {b : List β}, a.length = b.length → (a.zip b).map Prod.fst = a
  | [], [], _ => rfl
  | x :: a, y :: b, h => by simp [zip_fst (show a.length = b.length by simpa using h)]
theorem zip_snd {α β : Type} : ∀ {a : List α} {b : List β}, a.length = b.length → (a.zip b).map Prod.snd = b
  | [], [], _ => rfl
  | x :: a, y :: b, h => by simp [zip_snd (show a.length = b.length by simpa using h)]
theorem kids_read {k : Nat} {H : Hp} {f : Nat → Tr} {ws : List V} (hwl : ws.length = k) (hk : ∀ i w, i < k → ws[i]? = some w → TrAt k H (f i) w) : ∃ L : List (V × Tr), L.map Prod.fst = ws ∧ L.map Prod.snd = (List.range k).map f ∧ TrsAt k H L := by
  have hl : ws.length = ((List.range k).map f).length := by simp [hwl]
  refine ⟨ws.zip ((List.range k).map f), zip_fst hl, zip_snd hl, fun x hx => ?_⟩
  obtain ⟨i, hi, rfl⟩ := List.getElem_of_mem hx
  rw [List.getElem_zip]
  rw [List.length_zip, List.length_map, List.length_range] at hi
  simp only [List.getElem_map, List.getElem_range]
  exact hk i _ (by omega) (by simp)
theorem rd_within (T : Tx K mg) : ∀ vs H Q E, sp_within K vs H Q E → t_within K { nx := fun _ H' => Q .non H', rt := Q } (start N_within vs) H := by
  intro vs H Q E ⟨k, t, v, hv, hT, q⟩
  subst hv
  show t_within K { nx := fun _ H' => Q .non H', rt := Q } [some v] H
  unfold t_within
  cases t with
  | go s q' =>
    obtain ⟨a, rfl, ha⟩ := hT
    walk_at "ws"
    intro p H1 n1 e1 h1
    exact q p H1 [] n1 e1 h1 rfl (fun x hx => nomatch hx)
  | tell j t =>
    obtain ⟨a, w, rfl, ha, hw⟩ := hT
    walk_at "ws"
    intro p H1 n1 e1 h1
    exact q p H1 [(w, t)] n1 e1 h1 rfl (fun x hx => by rw [List.mem_singleton.mp hx]; exact hw.up (Ex.t e1))
  | read pp f =>
    obtain ⟨a, c, ws, rfl, ha, hc, hwl, hk⟩ := hT
    obtain ⟨L, hL1, hL2, hL3⟩ := kids_read hwl hk
    walk_at "ws"
    refine w_listT (Evl.st_of hc) fun p H1 n1 e1 h1 => ?_
    exact q p H1 L n1 e1 (by rw [h1, hL1]) hL2.symm (hL3.up (Ex.t e1))
end
section
variable {K : PySem.W.Frag} {mg : Str → Option Value}
def sp_checked (K : PySem.W.Frag) (d : Nat) : Sp := fun vs H Q E => ∃ k m n t v d', ∃ lv num : Nat, vs = [v, .int (k : Nat), .int (m : Nat), .int (n : Nat), .int (lv : Int), .int (num : Int)] ∧ TrAt k H t v ∧ OkT k m n t d' ∧ d' ≤ d ∧ lv + d' ≤ 41 ∧
  ∀ p H', Ex H H' → H' p = some (.tup [.bl false, .int ((num + sz k t : Nat) : Int)]) → Q (.ref p) H'
theorem rd_checked (T : Tx K mg) (d : Nat) : ∀ vs H Q E, sp_checked K (d + 1) vs H Q E → t_checked K (sp_is_head K) (sp_within K) (sp_checked K d) { nx := fun _ H' => Q .non H', rt := Q } (start N_checked vs) H := by
  intro vs H Q E ⟨k, m, n, t, v, d', lv, num, hv, hT, hok, hd, hlv, q⟩
  subst hv
  show t_checked K (sp_is_head K) (sp_within K) (sp_checked K d) { nx := fun _ H' => Q .non H', rt := Q } [some v, some (.int k), some (.int m), some (.int n), some (.int lv), some (.int num), none, none] H
  have hpos := hok.pos
  unfold t_checked
  walk_at "ws"
  refine ⟨k, m, n, t, v, d', rfl, hT, hok, fun H1 e1 => ?_⟩
  walk_at "ws"
  refine ⟨k, t, v, rfl, hT.up (Ex.t e1), fun l H2 L nl e2 hl hk hL => ?_⟩
  have hcast : (num : Int) + 1 = ((num + 1 : Nat) : Int) := by omega
  rw [hcast]
  walk_at "ws"
  have E2 : Ex H H2 := ex_tr e2 e1
  refine forL (wl_list (L := L) (enc := Prod.fst)) (fun i σ H' => ∃ b6 b7, σ = [some v, some (.int k), some (.int m), some (.int n), some (.int lv), some (.int ((num + 1 + ((L.take i).map fun c => sz k c.2).sum : Nat) : Int)), b6, b7] ∧ Ex H2 H') ⟨none, none, by simp, Evl.Ex.refl _⟩ (fun i σ H' _ ⟨_, _, _, e⟩ => Evl.sq_of (e _ _ hl)) ?_ ?_
  · rintro i ⟨w, u⟩ σ H3 hi ⟨b6, b7, rfl, e3⟩
    have hcm : (w, u) ∈ L := List.mem_of_getElem? hi
    have hu : u ∈ kids k t := by rw [hk]; exact List.mem_map.mpr ⟨_, hcm, rfl⟩
    have hoku := hok.kids u hu
    show gName 6 w _ _ _
    walk_at "ws"
    have hc2 : (lv : Int) + 1 = ((lv + 1 : Nat) : Int) := by omega
    rw [hc2]
    refine ⟨k, m, n, u, w, d' - 1, lv + 1, _, rfl, (hL _ hcm).up (Ex.t e3), hoku, by omega, by omega, fun p H4 e4 h4 => ?_⟩
    walk_at "ws"
    have htk : (L.take (i + 1)).map (fun c => sz k c.2) = (L.take i).map (fun c => sz k c.2) ++ [sz k u] := by
      rw [List.take_succ, hi, List.map_append]
      rfl
    have hsum : num + 1 + ((L.take i).map fun c => sz k c.2).sum + sz k u = num + 1 + ((L.take (i + 1)).map fun c => sz k c.2).sum := by
      rw [htk, List.sum_append]
      simp [Nat.add_assoc]
    rw [hsum]
    exact got ⟨_, _, rfl, ex_tr e4 e3⟩
  · rintro σ H3 ⟨b6, b7, rfl, e3⟩
    walk_at "ws"
    intro p H4 n4 e4 h4
    refine q p H4 (ex_tr e4 (ex_tr e3 E2)) ?_
    rw [h4, sz_kids t, hk, List.take_length, List.map_map]
    congr 6
    rw [show (sz k ∘ Prod.snd : V × Tr → Nat) = fun c => sz k c.2 from rfl]
    omega
def sp_kept (K : PySem.W.Frag) (d : Nat) : Sp := fun vs H Q E => ∃ k m n t v, vs = [v] ∧ TrAt k H t v ∧ OkT k m n t d ∧ k ≤ 1000 ∧ ∀ v' H', Ex H H' → TrAt k H' t v' → Q v' H'
theorem rd_kept (T : Tx K mg) (d : Nat) : ∀ vs H Q E, sp_kept K (d + 1) vs H Q E → t_kept K (sp_kept K d) { nx := fun _ H' => Q .non H', rt := Q } (start N_kept vs) H := by
  intro vs H Q E ⟨k, m, n, t, v, hv, hT, hok, hk1000, q⟩
  subst hv
  show t_kept K (sp_kept K d) { nx := fun _ H' => Q .non H', rt := Q } [some v, none] H
  have hkd := hok.kids
  unfold t_kept
  cases t with
  | go s q' =>
    have hT0 := hT
    obtain ⟨a, rfl, ha⟩ := hT
    walk_at "ws"
    refine w_tupT (Evl.st_of ha) ?_
    exact q _ H (Evl.Ex.refl _) hT0
  | tell j t =>
    obtain ⟨a, w, rfl, ha, hw⟩ := hT
    have ho := hkd t (by simp [kids])
    walk_at "ws"
    refine ⟨k, m, n, t, w, rfl, hw, ho, hk1000, fun v' H1 e1 hT1 => ?_⟩
    walk_at "ws"
    intro p H2 n2 e2 h2
    exact q _ H2 (ex_tr e2 e1) ⟨p, v', rfl, h2, hT1.up (Ex.t e2)⟩
  | read pp f =>
    obtain ⟨a, c, ws, rfl, ha, hc, hwl, hk⟩ := hT
    obtain ⟨L, hL1, hL2, hL3⟩ := kids_read hwl hk
    have hLl : L.length = k := by rw [← hwl, ← hL1]; simp
    walk_at "ws"
    refine lcR (wl_tup (L := L) (enc := Prod.fst)) (by walk_at "wp") (by omega) (fun c y H => TrAt k H c.2 y) (fun c y H H' e h => h.up e) (fun H' e => Evl.st_of (by rw [hL1]; exact e _ _ hc)) ?_ ?_
    · intro x H1 hx e1 EE N hE
      have ho := hkd x.2 (by show x.2 ∈ (List.range k).map f; rw [← hL2]; exact List.mem_map.mpr ⟨x, hx, rfl⟩)
      walk_at "ws"
      refine ⟨k, m, n, x.2, x.1, rfl, (hL3 x hx).up (Ex.t e1), ho, hk1000, fun v' H2 e2 hT2 => ?_⟩
      exact hE _ _ hT2 e2
    · intro D ys H1 n1 e1 hyl hys h1
      walk_at "ws"
      refine w_tupL (Evl.sq_of h1) fun p H2 n2 e2 h2 => ?_
      walk_at "ws"
      intro p3 H3 n3 e3 h3
      refine q _ H3 (ex_tr e3 (ex_tr e2 e1)) ⟨p3, p, ys, rfl, h3, e3 _ _ h2, by rw [hyl, hLl], fun i w hi hw => ?_⟩
      have hLi : L[i]? = some L[i] := by simp [hLl, hi]
      have h4 := hys i L[i] w hLi hw
      have h5 : L[i].2 = f i := by
        have : (L.map Prod.snd)[i]? = ((List.range k).map f)[i]? := by rw [hL2]
        rw [List.getElem?_map, hLi, List.getElem?_map, List.getElem?_range hi] at this
        exact Option.some.inj this
      rw [← h5]
      exact h4.up (Ex.t (ex_tr e3 e2))
structure StsOk (ls : List Nat) (m n : Nat) (ts : List Tr) : Prop where
  n1 : 1 ≤ ts.length
  n5 : ts.length ≤ 5
  nn : n = ts.length
  ok : ∀ t ∈ ts, OkT ls.length m n t 12
  sz : ∀ t ∈ ts, Wk.sz ls.length t ≤ 200
def sp_Searcher_init (K : PySem.W.Frag) : Sp := fun vs H Q E => ∃ x dx ls m l, ∃ L : List (V × Tr), vs = [.ref x, .str (S ls), .int (m : Nat), .ref l] ∧ H x = some (.ins (cSearcher K) dx []) ∧ LsOk ls ∧ 1 ≤ m ∧ m ≤ 5 ∧ H l = some (.lst (L.map Prod.fst)) ∧ TrsAt ls.length H L ∧ StsOk ls m L.length (L.map Prod.snd) ∧
  ∀ H', Ml x H H' → SrAt K H' x ⟨ls, m, L.map Prod.snd⟩ → Q .non H'
theorem rd_Searcher_init (T : Tx K mg) : ∀ vs H Q E, sp_Searcher_init K vs H Q E → t_Searcher_init K (sp_check_letters K) (sp_is_number K) (sp_checked K 45) (sp_kept K 43) { nx := fun _ H' => Q .non H', rt := Q } (start N_Searcher_init vs) H := by
  intro vs H Q E ⟨x, dx, ls, m, l, L, hv, hx, hls, hm1, hm5, hl, hL, hst, q⟩
  subst hv
  show t_Searcher_init K (sp_check_letters K) (sp_is_number K) (sp_checked K 45) (sp_kept K 43) { nx := fun _ H' => Q .non H', rt := Q } [some (.ref x), some (.str (S ls)), some (.int m), some (.ref l), none, none, none, none, none] H
  have l3 := hls.l3
  have n1 := hst.n1
  have n5 := hst.n5
  rw [List.length_map] at n1 n5
  have hlen : (L.map Prod.fst).length = L.length := by simp
  unfold t_Searcher_init
  walk_at "ws"
  refine ⟨ls, rfl, hls, fun H1 e1 => ?_⟩
  walk_at "ws"
  refine ⟨m, 1, 8, rfl, by omega, by omega, ?_⟩
  have hl1 := e1 _ _ hl
  walk_at "ws"
  refine w_iEnum ?_
  walk_at "ws"
  refine w_env (Evl.sq_of hl1) ?_
  refine for_enum (L := L) (enc := Prod.fst) (fun i σ' H' => ∃ (tot : Nat) (b5 b6 b7 b8 : Option V), σ' = [some (.ref x), some (.str (S ls)), some (.int m), some (.ref l), some (.int (tot : Int)), b5, b6, b7, b8] ∧ Ex H H' ∧ tot ≤ 200 * i) ⟨0, none, none, none, none, rfl, e1, by omega⟩ (fun i σ' H' ⟨_, _, _, _, _, _, e, _⟩ => Evl.sq_of (e _ _ hl)) ?_ ?_
  · rintro i ⟨w, u⟩ σ' H2 p H3 hi ⟨tot, b5, b6, b7, b8, rfl, E2, htot⟩ n3 e3 h3
    have h3 : H3 p = some (.tup [.int (i : Nat), w]) := h3
    have hcm : (w, u) ∈ L := List.mem_of_getElem? hi
    have hus : u ∈ L.map Prod.snd := List.mem_map.mpr ⟨_, hcm, rfl⟩
    have E3 : Ex H H3 := ex_tr e3 E2
    have hl3 := E3 _ _ hl
    have hsz := hst.sz u hus
    walk_at "ws"
    rw [hlen]
    refine ⟨ls.length, m, L.length, u, w, 12, 1, 0, rfl, (hL _ hcm).up (Ex.t E3), hst.ok u hus, by omega, by omega, fun p2 H4 e4 h4 => ?_⟩
    walk_at "ws"
    have hc : (tot : Int) + ((0 + sz ls.length u : Nat) : Int) = ((tot + (0 + sz ls.length u) : Nat) : Int) := by omega
    rw [hc]
    exact got ⟨_, _, _, _, _, rfl, ex_tr e4 E3, by omega⟩
  · rintro σ' H2 ⟨tot, b5, b6, b7, b8, rfl, E2, htot⟩
    have hx2 := E2 _ _ hx
    walk_at "ws"
    intro H3 m3 h3
    walk_at "ws"
    intro H4 m4 h4
    have M4 : Ml x H H4 := ml_tr (ml_tr (ex_ml0 E2) m3) m4
    have lx : l ≠ x := ne_kind hl hx (fun z => nomatch z)
    have hl4 := M4 _ _ lx hl
    have hL4 : TrsAt ls.length H4 L := hL.up (ml_t M4 hx (fun _ z => nomatch z))
    walk_at "ws"
    refine lcR (wl_list (L := L) (enc := Prod.fst)) (by walk_at "wp") (by omega) (fun c y H => TrAt ls.length H c.2 y) (fun c y H H' e h => h.up e) (fun H' e => Evl.sq_of (e _ _ hl4)) ?_ ?_
    · intro c H5 hc e5 EE N hE
      have hus : c.2 ∈ L.map Prod.snd := List.mem_map.mpr ⟨_, hc, rfl⟩
      walk_at "ws"
      refine ⟨ls.length, m, L.length, c.2, c.1, rfl, (hL4 c hc).up (Ex.t e5), (hst.ok c.2 hus).up (by omega), by omega, fun v' H6 e6 hT6 => ?_⟩
      exact hE _ _ hT6 e6
    · intro D ys H5 n5' e5 hyl hys h5
      walk_at "ws"
      refine w_tupL (Evl.sq_of h5) fun p H6 n6 e6 h6 => ?_
      have h6x := e6 _ _ (e5 _ _ h4)
      walk_at "ws"
      intro H7 m7 h7
      walk_at "ws"
      intro H8 m8 h8
      have u68 : ExT H6 H8 := (ml_t m7 h6x (fun _ z => nomatch z)).trans (ml_t m8 h7 (fun _ z => nomatch z))
      have M8 : Ml x H H8 := ml_tr (ml_tr (ml_ex M4 (ex_tr e6 e5)) m7) m8
      refine q H8 M8 ⟨⟨hls.l2, hls.l3, hls.nd, hls.sm, hm1, hm5, hst.n1, hst.n5, by have := hst.ok; rwa [hst.nn] at this, hst.sz⟩, dx, p, _, ys, h8, u68 _ _ h6, by rw [hyl]; simp, fun i v t hv ht => ?_⟩
      rw [List.getElem?_map] at ht
      obtain ⟨c, hc, rfl⟩ := Option.map_eq_some_iff.mp ht
      exact ((hys i c v hc hv).up (Ex.t e6)).up u68
end
section
variable {K : PySem.W.Frag} {mg : Str → Option Value}
theorem w_max {H : Hp} {p : Addr} {ns : List Int} {Q : VK} (h : SqL K H p (ns.map V.int)) (hl : 0 < ns.length) (q : ∀ m, m ∈ ns → Q (.int m) H) : rMax K [.ref p] H Q := ⟨p, ns, rfl, h, hl, fun m hm _ => q m hm⟩
theorem getD_some {l : List Nat} {j : Nat} (h : j < l.length) : l[j]? = some (l.getD j 0) := by simp [h]
def sp_last_of (K : PySem.W.Frag) : Sp := fun vs H Q E => ∃ w c, ∃ e : Nat, vs = [.str (S w), .str (S [c]), .int (e : Int)] ∧ w.length ≤ 8 ∧ e ≤ w.length ∧ ∀ (r : Int) H', Ex H H' → -1 ≤ r → r < e → Q (.int r) H'
theorem rd_last_of (T : Tx K mg) : ∀ vs H Q E, sp_last_of K vs H Q E → t_last_of K { nx := fun _ H' => Q .non H', rt := Q } (start N_last_of vs) H := by
  intro vs H Q E ⟨w, c, e, hv, h8, hle, q⟩
  subst hv
  show t_last_of K { nx := fun _ H' => Q .non H', rt := Q } [some (.str (S w)), some (.str (S [c])), some (.int e), none] H
  unfold t_last_of
  walk_at "ws"
  intro l1 H1 n1 e1 h1
  walk_at "ws"
  refine lcP (wl_rng0 (n := e)) (by walk_at "wp") (by simp; omega) (fun j => decide (S [w.getD j 0] = S [c])) (fun (j : Nat) => .int (j : Int)) (fun _ _ => trivial) ?_ ?_
  · intro j H2 hj e2 EE N hE hN
    have hj : j < e := List.mem_range.mp hj
    walk_at "ws"
    refine w_ixSI (n := j) rfl (by omega) (getD_some (by omega)) ?_
    walk_at "ws"
    refine if_c (fun hb => ?_) (fun hb => ?_)
    · walk_at "ws"
      exact hE _ _ hb rfl (Evl.Ex.refl _)
    · exact hN _ hb (Evl.Ex.refl _)
  · intro D H2 n2 e2 h2
    have h12 := e2 _ _ h1
    have hl2 : ((List.range e).filter fun j => decide (S [w.getD j 0] = S [c])).length ≤ e := by
      have := List.length_filter_le (fun j => decide (S [w.getD j 0] = S [c])) (List.range e)
      simpa using this
    walk_at "ws"
    refine w_cat h12 h2 (by simp only [List.length_map, List.length_cons, List.length_nil]; omega) fun p3 H3 n3 e3 h3 => ?_
    walk_at "ws"
    refine w_max (ns := -1 :: ((List.range e).filter fun j => decide (S [w.getD j 0] = S [c])).map fun (j : Nat) => (j : Int)) (Evl.sq_of (by rw [h3, List.map_cons, List.map_map]; rfl)) (by simp) fun m hm => ?_
    refine q m H3 (ex_tr e3 (ex_tr e2 e1)) ?_ ?_
    · rcases List.mem_cons.mp hm with rfl | hm
      · omega
      · obtain ⟨j, hj, rfl⟩ := List.mem_map.mp hm
        omega
    · rcases List.mem_cons.mp hm with rfl | hm
      · omega
      · obtain ⟨j, hj, rfl⟩ := List.mem_map.mp hm
        have := List.mem_range.mp (List.mem_filter.mp hj).1
        omega
/-- borders -/
structure Bor (B : List Int) (m : Nat) : Prop where
  len : B.length = m + 1
  at_ : ∀ (k : Nat) x, B[k]? = some x → -1 ≤ x ∧ x < k ∧ (1 ≤ k → 0 ≤ x)
def sp_borders_of (K : PySem.W.Frag) : Sp := fun vs H Q E => ∃ w, vs = [.str (S w)] ∧ w.length ≤ 8 ∧ ∀ b H' B, H b = none → Ex H H' → H' b = some (.lst (B.map V.int)) → Bor B w.length → Q (.ref b) H'
theorem rd_borders_of (T : Tx K mg) : ∀ vs H Q E, sp_borders_of K vs H Q E → t_borders_of K { nx := fun _ H' => Q .non H', rt := Q } (start N_borders_of vs) H := by
  intro vs H Q E ⟨w, hv, h8, q⟩
  subst hv
  show t_borders_of K { nx := fun _ H' => Q .non H', rt := Q } [some (.str (S w)), none, none, none, none] H
  unfold t_borders_of
  walk_at "ws"
  intro b H1 n1 e1 h1
  walk_at "ws"
  have hn : ((w.length : Int) + 1 - 1).toNat = w.length := by omega
  rw [hn]
  refine forL wl_rng (fun i σ H' => ∃ (b2 b3 b4 : Option V) (B : List Int), σ = [some (.str (S w)), some (.ref b), b2, b3, b4] ∧ Ex H H' ∧ H' b = some (.lst (B.map V.int)) ∧ Bor B i) ⟨none, none, none, [-1], rfl, e1, h1, rfl, fun k x hk => ?_⟩ (fun _ _ _ _ _ => trivial) ?_ ?_
  · have : k = 0 := by
      have := (List.getElem?_eq_some_iff.mp hk).1
      simp at this
      exact this
    subst this
    simp at hk
    omega
  · rintro i c σ H2 hi ⟨b2, b3, b4, B, rfl, E2, hb, hB⟩
    have hil := (List.getElem?_eq_some_iff.mp hi).1
    rw [List.length_range] at hil
    have hc : c = i := by
      rw [List.getElem?_range hil] at hi
      exact (Option.some.inj hi).symm
    subst hc
    have hcast : (1 : Int) + (c : Int) = ((c + 1 : Nat) : Int) := by omega
    rw [hcast]
    walk_at "ws"
    refine lcP (wl_rng0 (n := c + 1)) (by walk_at "wp") (by simp; omega) (fun j => decide (S (w.take j) = S ((w.drop (c + 1 - j)).take j))) (fun (j : Nat) => .int (j : Int)) (fun _ _ => trivial) ?_ ?_
    · intro j H3 hj e3 EE N hE hN
      have hj : j < c + 1 := List.mem_range.mp hj
      walk_at "ws"
      refine w_slSe (by omega) (cut_take (n := j) rfl) ?_
      walk_at "ws"
      refine w_slSe (l' := (w.drop (c + 1 - j)).take j) (by omega) ?_ ?_
      · rw [cut_mid (a := c + 1 - j) (b := c + 1) (by omega) rfl (by omega)]
        congr 1
        omega
      walk_at "ws"
      refine if_c (fun hb => ?_) (fun hb => ?_)
      · walk_at "ws"
        exact hE _ _ hb rfl (Evl.Ex.refl _)
      · exact hN _ hb (Evl.Ex.refl _)
    · intro D H3 n3 e3 h3
      have hb3 := e3 _ _ hb
      have hBl := hB.len
      walk_at "ws"
      refine w_max (ns := ((List.range (c + 1)).filter fun j => decide (S (w.take j) = S ((w.drop (c + 1 - j)).take j))).map fun (j : Nat) => (j : Int)) (Evl.sq_of (by rw [h3, List.map_map]; rfl)) ?_ fun m hm => ?_
      · rw [List.length_map]
        exact List.length_pos_iff_exists_mem.mpr ⟨0, List.mem_filter.mpr ⟨by simp, by simp⟩⟩
      · walk_at "ws"
        refine w_append (xs := B.map V.int) hb3 (by simp; omega) fun H4 m4 h4 => ?_
        walk_at "ws"
        obtain ⟨j, hj, rfl⟩ := List.mem_map.mp hm
        have hj := List.mem_range.mp (List.mem_filter.mp hj).1
        refine got ⟨_, _, _, B ++ [(j : Int)], rfl, ml_new n1 (ex_tr e3 E2) m4, by rw [h4, List.map_append]; rfl, by simp [hBl], fun k x hk => ?_⟩
        by_cases hkl : k < B.length
        · rw [List.getElem?_append_left hkl] at hk
          exact hB.at_ k x hk
        · rw [List.getElem?_append_right (by omega)] at hk
          have hz := (List.getElem?_eq_some_iff.mp hk).1
          simp at hz
          rw [show k - B.length = 0 by omega] at hk
          simp at hk
          subst hk
          omega
  · rintro σ H2 ⟨b2, b3, b4, B, rfl, E2, hb, hB⟩
    walk_at "ws"
    rw [List.length_range] at hB
    exact q b H2 B n1 E2 hb hB
def sp_steps_down (K : PySem.W.Frag) : Sp := fun vs H Q E => ∃ b B m, ∃ s : Nat, vs = [.ref b, .int (s : Int)] ∧ H b = some (.lst (B.map V.int)) ∧ Bor B m ∧ s ≤ m ∧ m ≤ 8 ∧
  ∀ f H', ∀ St : List Int, H f = none → Ex H H' → H' f = some (.lst (St.map V.int)) → (∀ x ∈ St, -1 ≤ x ∧ x < s) → -1 ∈ St → St.length ≤ 10 → Q (.ref f) H'
theorem rd_steps_down (T : Tx K mg) : ∀ vs H Q E, sp_steps_down K vs H Q E → t_steps_down K { nx := fun _ H' => Q .non H', rt := Q } (start N_steps_down vs) H := by
  intro vs H Q E ⟨b, B, m, s, hv, hb, hB, hs, h8, q⟩
  subst hv
  show t_steps_down K { nx := fun _ H' => Q .non H', rt := Q } [some (.ref b), some (.int s), none, none] H
  unfold t_steps_down
  walk_at "ws"
  intro f H1 n1 e1 h1
  walk_at "ws"
  refine w_while (fun g σ H' => ∃ (St : List Int) (pt : Int), σ = [some (.ref b), some (.int s), some (.ref f), some (.int pt)] ∧ Ex H H' ∧ H' f = some (.lst (St.map V.int)) ∧ (∀ x ∈ St, -1 ≤ x ∧ x < s) ∧ -1 ≤ pt ∧ pt ≤ s ∧ (pt = -1 → -1 ∈ St) ∧ g = (pt + 1).toNat ∧ St.length + g ≤ s + 1) (s + 1)
    ⟨[], s, rfl, e1, h1, fun x hx => (nomatch hx), by omega, by omega, fun h => by omega, by omega, by simp⟩ ?_
  rintro g σ H2 ⟨St, pt, rfl, E2, hf, hSt, hp1, hp2, hpm, hg, hlen⟩
  walk_at "ws"
  refine whb_c (fun hc => ?_) (fun hc => ?_)
  · have hc := of_decide_eq_true hc
    have hb2 := E2 _ _ hb
    have hBl := hB.len
    have hi : pt.toNat < B.length := by omega
    have hx : B[pt.toNat]? = some B[pt.toNat] := by simp [hi]
    obtain ⟨x1, x2, x3⟩ := hB.at_ _ _ hx
    generalize B[pt.toNat] = x at hx x1 x2 x3
    walk_at "ws"
    refine w_ixLI (n := pt.toNat) (v := .int x) (by omega) (Evl.sq_of hb2) (by rw [List.getElem?_map, hx]; rfl) ?_
    walk_at "ws"
    refine w_append (xs := St.map V.int) hf (by simp; omega) fun H3 m3 h3 => ?_
    walk_at "ws"
    refine got ⟨(x + 1).toNat, by omega, St ++ [x], x, rfl, ml_new n1 E2 m3, by rw [h3, List.map_append]; rfl, ?_, by omega, by omega, fun h => by simp [h], rfl, by simp; omega⟩
    intro y hy
    rcases List.mem_append.mp hy with hy | hy
    · exact hSt y hy
    · rw [List.mem_singleton.mp hy]; omega
  · have hc := of_decide_eq_false hc
    walk_at "ws"
    exact q f H2 St n1 E2 hf hSt (hpm (by omega)) (by omega)
end
section
variable {K : PySem.W.Frag} {mg : Str → Option Value}
def sp_is_good_slide (K : PySem.W.Frag) : Sp := fun vs H Q E => ∃ w, ∃ pl b : Nat, vs = [.str (S w), .int (pl : Int), .int (b : Int)] ∧ w.length ≤ 8 ∧ pl < w.length ∧ 1 ≤ b ∧ b ≤ w.length ∧ ∀ (r : Bool) H', Ex H H' → (b = w.length → r = true) → Q (.bl r) H'
theorem rd_is_good_slide (T : Tx K mg) : ∀ vs H Q E, sp_is_good_slide K vs H Q E → t_is_good_slide K { nx := fun _ H' => Q .non H', rt := Q } (start N_is_good_slide vs) H := by
  intro vs H Q E ⟨w, pl, b, hv, h8, hpl, hb1, hbl, q⟩
  subst hv
  show t_is_good_slide K { nx := fun _ H' => Q .non H', rt := Q } [some (.str (S w)), some (.int pl), some (.int b), none, none] H
  obtain ⟨lo, hlo, h1, h2⟩ : ∃ lo : Nat, (if (b : Int) > (pl : Int) + 1 then (b : Int) else (pl : Int) + 1) = (lo : Int) ∧ b ≤ lo ∧ lo ≤ w.length := by
    split
    · exact ⟨b, rfl, by omega, by omega⟩
    · exact ⟨pl + 1, by omega, by omega, by omega⟩
  unfold t_is_good_slide
  walk_at "ws"
  rw [hlo]
  walk_at "ws"
  refine lcP wl_rng (by walk_at "wp") (by simp; omega) (fun _ => true) (fun i => .bl (!decide (S [w.getD (lo + i - b) 0] = S [w.getD (lo + i) 0]))) (fun _ _ => trivial) ?_ ?_
  · intro i H1 hi e1 EE N hE hN
    have hi : i < ((w.length : Int) - (lo : Int)).toNat := List.mem_range.mp hi
    walk_at "ws"
    refine w_ixSI (n := lo + i - b) (by omega) (by omega) (getD_some (by omega)) ?_
    walk_at "ws"
    refine w_ixSI (n := lo + i) (by omega) (by omega) (getD_some (by omega)) ?_
    walk_at "ws"
    exact hE _ _ rfl rfl (Evl.Ex.refl _)
  · intro D H1 n1 e1 h1
    rw [filter_t] at h1
    walk_at "ws"
    refine w_any (bs := (List.range ((w.length : Int) - (lo : Int)).toNat).map fun i => !decide (S [w.getD (lo + i - b) 0] = S [w.getD (lo + i) 0])) (Evl.sq_of (by rw [h1, List.map_map]; rfl)) ?_
    walk_at "ws"
    refine if_c (fun hc => ?_) (fun hc => ?_)
    · walk_at "ws"
      refine q false H1 e1 fun hbe => ?_
      have : ((w.length : Int) - (lo : Int)).toNat = 0 := by omega
      rw [this] at hc
      exact hc
    · walk_at "ws"
      refine if_c (fun hd => ?_) (fun hd => ?_)
      · exact q true H1 e1 fun _ => rfl
      · have hd := of_decide_eq_false hd
        walk_at "ws"
        refine w_ixSI (n := pl - b) (by omega) (by omega) (getD_some (by omega)) ?_
        walk_at "ws"
        refine w_ixSI (n := pl) rfl (by omega) (getD_some (by omega)) ?_
        walk_at "ws"
        exact q _ H1 e1 fun hbe => by omega
def sp_right_slide (K : PySem.W.Frag) : Sp := fun vs H Q E => ∃ w wy c, ∃ pl : Nat, vs = [.str (S w), .str wy, .int (pl : Int), .str (S [c])] ∧ w.length ≤ 8 ∧ pl < w.length ∧ ∀ (r : Nat) H', Ex H H' → 1 ≤ r → r ≤ w.length → Q (.int (r : Int)) H'
theorem rd_right_slide (T : Tx K mg) : ∀ vs H Q E, sp_right_slide K vs H Q E → t_right_slide K (sp_last_of K) (sp_is_good_slide K) { nx := fun _ H' => Q .non H', rt := Q } (start N_right_slide vs) H := by
  intro vs H Q E ⟨w, wy, c, pl, hv, h8, hpl, q⟩
  subst hv
  show t_right_slide K (sp_last_of K) (sp_is_good_slide K) { nx := fun _ H' => Q .non H', rt := Q } [some (.str (S w)), some (.str wy), some (.int pl), some (.str (S [c])), none, none, none] H
  unfold t_right_slide
  walk_at "ws"
  refine ⟨w, c, pl, rfl, h8, by omega, fun r H1 e1 hr1 hr2 => ?_⟩
  obtain ⟨bad, hbad, hb1, hb2⟩ : ∃ bad : Nat, (pl : Int) - r = (bad : Int) ∧ 1 ≤ bad ∧ bad ≤ w.length := ⟨((pl : Int) - r).toNat, by omega, by omega, by omega⟩
  walk_at "ws"
  rw [hbad]
  walk_at "ws"
  have hn : ((w.length : Int) + 1 - 1).toNat = w.length := by omega
  rw [hn]
  refine lcG wl_rng (by walk_at "wp") (by simp; omega) (fun i acc H => Ex H1 H ∧ (∀ v ∈ acc, ∃ j : Nat, v = .int (j : Int) ∧ 1 ≤ j ∧ j ≤ w.length) ∧ (w.length ≤ i → acc ≠ [])) (fun D hD => ⟨Evl.Ex.new hD, fun v hv => (nomatch hv), fun h => by omega⟩) (fun D i acc H ys ys' hD ⟨e, a, b⟩ hl => ⟨Evl.Ex.mut e hD, a, b⟩) (fun _ _ _ _ => trivial) ?_ ?_
  · intro D i cc acc H2 hD hi ⟨e2, ha, hne⟩ hl EE N hE hN
    have hil := (List.getElem?_eq_some_iff.mp hi).1
    rw [List.length_range] at hil
    have hc : cc = i := by
      rw [List.getElem?_range hil] at hi
      exact (Option.some.inj hi).symm
    subst hc
    have hcast : (1 : Int) + (cc : Int) = ((cc + 1 : Nat) : Int) := by omega
    rw [hcast]
    walk_at "ws"
    refine ⟨w, pl, cc + 1, rfl, h8, hpl, by omega, by omega, fun rb H3 e3 hrb => ?_⟩
    walk_at "ws"
    refine if_c (fun hb => ?_) (fun hb => ?_)
    · walk_at "ws"
      refine hE _ _ (e3 _ _ hl) ⟨ex_tr e3 e2, fun v hv => ?_, fun _ => by simp⟩
      rcases List.mem_append.mp hv with hv | hv
      · exact ha v hv
      · exact ⟨cc + 1, List.mem_singleton.mp hv, by omega, by omega⟩
    · refine hN _ (e3 _ _ hl) ⟨ex_tr e3 e2, ha, fun hlast => ?_⟩
      have := hrb (by omega)
      rw [hb] at this
      cases this
  · intro D acc H2 hD ⟨e2, ha, hne⟩ hl
    rw [List.length_range] at hne
    have hne := hne (Nat.le_refl _)
    cases acc with
    | nil => exact absurd rfl hne
    | cons v rest =>
      obtain ⟨good, rfl, hg1, hg2⟩ := ha v (by simp)
      have E2 : Ex H H2 := ex_tr e2 e1
      walk_at "ws"
      refine if_c (fun hb => ?_) (fun hb => ?_)
      · walk_at "ws"
        exact q bad H2 E2 hb1 hb2
      · walk_at "ws"
        refine if_c (fun hb => ?_) (fun hb => ?_)
        · walk_at "ws"
          exact q good H2 E2 hg1 hg2
        · walk_at "ws"
          by_cases hgt : (good : Int) > (bad : Int)
          · rw [if_pos hgt]
            exact q good H2 E2 hg1 hg2
          · rw [if_neg hgt]
            exact q bad H2 E2 hb1 hb2
def sp_left_step (K : PySem.W.Frag) : Sp := fun vs H Q E => ∃ w b B wy c, ∃ pl : Nat, vs = [.str (S w), .ref b, .str wy, .int (pl : Int), .str (S [c])] ∧ H b = some (.lst (B.map V.int)) ∧ Bor B w.length ∧ w.length ≤ 8 ∧ pl < w.length ∧
  ∀ p H', ∀ s q' : Nat, Ex H H' → H' p = some (.tup [.int (s : Int), .int (q' : Int)]) → 1 ≤ s → s ≤ w.length → q' < w.length → Q (.ref p) H'
theorem rd_left_step (T : Tx K mg) : ∀ vs H Q E, sp_left_step K vs H Q E → t_left_step K (sp_steps_down K) { nx := fun _ H' => Q .non H', rt := Q } (start N_left_step vs) H := by
  intro vs H Q E ⟨w, b, B, wy, c, pl, hv, hb, hB, h8, hpl, q⟩
  subst hv
  show t_left_step K (sp_steps_down K) { nx := fun _ H' => Q .non H', rt := Q } [some (.str (S w)), some (.ref b), some (.str wy), some (.int pl), some (.str (S [c])), none, none, none] H
  unfold t_left_step
  walk_at "ws"
  refine ⟨b, B, w.length, pl, rfl, hb, hB, by omega, h8, fun f H1 St n1 e1 h1 hSt hm1 hlen => ?_⟩
  ((repeat ((fail_if_success (with_reducible intro _)); (fail_if_success (with_reducible apply w_sq)); walk1)); with_reducible apply w_sq)
  have head : ∀ p : Int → Bool, p (-1) = true → ∃ x rest, (St.filter p) = x :: rest ∧ -1 ≤ x ∧ x < pl := fun p hp => by
    have hm : (-1 : Int) ∈ St.filter p := List.mem_filter.mpr ⟨hm1, hp⟩
    cases hf : St.filter p with
    | nil => rw [hf] at hm; cases hm
    | cons x rest =>
      have : x ∈ St.filter p := by rw [hf]; simp
      exact ⟨x, rest, rfl, (hSt x (List.mem_filter.mp this).1).1, (hSt x (List.mem_filter.mp this).1).2⟩
  refine w_cut (fun σ' H' => ∃ (pt : Int) (b7 : Option V), σ' = [some (.str (S w)), some (.ref b), some (.str wy), some (.int pl), some (.str (S [c])), some (.ref f), some (.int pt), b7] ∧ Ex H H' ∧ -1 ≤ pt ∧ pt < pl) ?_ (fun N' hN' => ?_)
  · rintro σ' H2 ⟨pt, b7, rfl, E2, hp1, hp2⟩
    obtain ⟨s, hs, hs1, hs2⟩ : ∃ s : Nat, (pl : Int) - pt = (s : Int) ∧ 1 ≤ s ∧ s ≤ w.length := ⟨((pl : Int) - pt).toNat, by omega, by omega, by omega⟩
    obtain ⟨q', hq, hq1⟩ : ∃ q' : Nat, (if pt > 0 then pt else 0) = (q' : Int) ∧ q' < w.length := by
      split
      · exact ⟨pt.toNat, by omega, by omega⟩
      · exact ⟨0, rfl, by omega⟩
    walk_at "ws"
    intro p H3 n3 e3 h3
    rw [hs, hq] at h3
    exact q p H3 s q' (ex_tr e3 E2) h3 hs1 hs2 hq1
  · walk_at "ws"
    refine if_c (fun hw => ?_) (fun hw => ?_)
    · obtain ⟨x, rest, hx, hx1, hx2⟩ := head (fun _ => true) rfl
      rw [filter_t] at hx
      rw [hx] at h1
      walk_at "ws"
      exact hN' _ _ ⟨x, _, rfl, e1, hx1, hx2⟩
    · walk_at "ws"
      refine if_c (fun hw => ?_) (fun hw => ?_)
      · walk_at "ws"
        refine lcP (wl_list (L := St) (enc := V.int)) (by walk_at "wp") (by omega) (fun x => decide (x = -1) || !decide (S [w.getD x.toNat 0] = S [w.getD pl 0])) V.int (fun H' e => Evl.sq_of (e _ _ h1)) ?_ ?_
        · intro x H2 hx e2 EE N hE hN
          obtain ⟨hx1, hx2⟩ := hSt x hx
          walk_at "ws"
          refine if_c (fun hb => ?_) (fun hb => ?_)
          · walk_at "ws"
            exact hE _ _ (by rw [hb]; rfl) rfl (Evl.Ex.refl _)
          · have hb' := of_decide_eq_false hb
            walk_at "ws"
            refine w_ixSI (n := x.toNat) (by omega) (by omega) (getD_some (by omega)) ?_
            walk_at "ws"
            refine w_ixSI (n := pl) rfl (by omega) (getD_some (by omega)) ?_
            walk_at "ws"
            refine if_c (fun hd => ?_) (fun hd => ?_)
            · walk_at "ws"
              exact hE _ _ (by rw [hb, hd]; rfl) rfl (Evl.Ex.refl _)
            · exact hN _ (by rw [hb, hd]; rfl) (Evl.Ex.refl _)
        · intro D H2 n2 e2 h2
          obtain ⟨x, rest, hx, hx1, hx2⟩ := head (fun x => decide (x = -1) || !decide (S [w.getD x.toNat 0] = S [w.getD pl 0])) rfl
          rw [hx] at h2
          walk_at "ws"
          exact hN' _ _ ⟨x, _, rfl, ex_tr e2 e1, hx1, hx2⟩
      · walk_at "ws"
        refine lcP (wl_list (L := St) (enc := V.int)) (by walk_at "wp") (by omega) (fun x => decide (x = -1) || decide (S [w.getD x.toNat 0] = S [c])) V.int (fun H' e => Evl.sq_of (e _ _ h1)) ?_ ?_
        · intro x H2 hx e2 EE N hE hN
          obtain ⟨hx1, hx2⟩ := hSt x hx
          walk_at "ws"
          refine if_c (fun hb => ?_) (fun hb => ?_)
          · walk_at "ws"
            exact hE _ _ (by rw [hb]; rfl) rfl (Evl.Ex.refl _)
          · have hb' := of_decide_eq_false hb
            walk_at "ws"
            refine w_ixSI (n := x.toNat) (by omega) (by omega) (getD_some (by omega)) ?_
            walk_at "ws"
            refine if_c (fun hd => ?_) (fun hd => ?_)
            · walk_at "ws"
              exact hE _ _ (by rw [hb, hd]; rfl) rfl (Evl.Ex.refl _)
            · exact hN _ (by rw [hb, hd]; rfl) (Evl.Ex.refl _)
        · intro D H2 n2 e2 h2
          obtain ⟨x, rest, hx, hx1, hx2⟩ := head (fun x => decide (x = -1) || decide (S [w.getD x.toNat 0] = S [c])) rfl
          rw [hx] at h2
          obtain ⟨s, hs, hs1, hs2⟩ : ∃ s : Nat, (pl : Int) - x = (s : Int) ∧ 1 ≤ s ∧ s ≤ w.length := ⟨((pl : Int) - x).toNat, by omega, by omega, by omega⟩
          obtain ⟨q', hq, hq1⟩ : ∃ q' : Nat, x + 1 = (q' : Int) ∧ q' < w.length := ⟨(x + 1).toNat, by omega, by omega⟩
          walk_at "ws"
          intro p H3 n3 e3 h3
          rw [hs, hq] at h3
          exact q p H3 s q' (ex_tr e3 (ex_tr e2 e1)) h3 hs1 hs2 hq1
end
section
variable {K : PySem.W.Frag} {mg : Str → Option Value}
theorem fchoice {k : Nat} {P : Nat → Tr → Prop} (h : ∀ i, i < k → ∃ t, P i t) : ∃ f : Nat → Tr, ∀ i, i < k → P i (f i) := by
  classical
  refine ⟨fun i => if h' : i < k then Classical.choose (h i h') else .go 1 0, fun i hi => ?_⟩
  simp only [hi, dif_pos]
  exact Classical.choose_spec (h i hi)
theorem sum_idx0 : ∀ (ls : List Nat) (g : Nat → Nat), (∀ i, i < ls.length → g i ≤ 4) → ((List.range ls.length).map g).sum ≤ 4 * ls.length
  | [], g, _ => by simp
  | c :: ls, g, h => by
    have ih := sum_idx0 ls (fun i => g (i + 1)) fun i hi => h (i + 1) (by simpa using hi)
    have h0 := h 0 (by simp)
    rw [List.length_cons, List.range_succ_eq_map, List.map_cons, List.map_map, List.sum_cons]
    have e : (g ∘ Nat.succ) = fun i => g (i + 1) := rfl
    rw [e]
    omega
theorem sum_idx {x A : Nat} : ∀ (ls : List Nat), ls.Nodup → ∀ g : Nat → Nat, (∀ i, i < ls.length → g i ≤ if ls.getD i 0 = x then A else 4) → ((List.range ls.length).map g).sum ≤ A + 4 * ls.length
  | [], _, g, _ => by simp
  | c :: ls, nd, g, h => by
    have nd' := List.nodup_cons.mp nd
    have h0 := h 0 (by simp)
    rw [List.length_cons, List.range_succ_eq_map, List.map_cons, List.map_map, List.sum_cons]
    have e : (g ∘ Nat.succ) = fun i => g (i + 1) := rfl
    rw [e]
    simp only [List.getD_cons_zero] at h0
    by_cases z : c = x
    · rw [if_pos z] at h0
      have h1 := sum_idx0 ls (fun i => g (i + 1)) fun i hi => by
        have h2 := h (i + 1) (by simpa using hi)
        simp only [List.getD_cons_succ] at h2
        rw [if_neg] at h2
        · exact h2
        · intro z2
          refine nd'.1 ?_
          rw [z, ← z2]
          rw [show ls.getD i 0 = ls[i] by simp [hi]]
          exact List.getElem_mem hi
      omega
    · rw [if_neg z] at h0
      have ih := sum_idx ls nd'.2 (fun i => g (i + 1)) fun i hi => by
        have h2 := h (i + 1) (by simpa using hi)
        simpa only [List.getD_cons_succ] using h2
      omega
def RvV (K : PySem.W.Frag) (x : V) (H : Hp) (Q : VK) : Prop := ∃ a xs, x = .ref a ∧ SqL K H a xs ∧ ∀ p, H p = none → Q (.ref p) (upd H p (.lst xs.reverse))
theorem w_revL {te : TE} {σ : SlS} {H : Hp} {Q : VK} (q : te σ H fun x H1 => RvV K x H1 Q) : tRevL K te σ H Q := q
theorem w_rvv {a : Addr} {xs : List V} {H : Hp} {Q : VK} (h : SqL K H a xs) (q : ∀ p H', H p = none → Ex H H' → H' p = some (.lst xs.reverse) → Q (.ref p) H') : RvV K (.ref a) H Q := ⟨a, xs, rfl, h, fun p hp => q p _ hp (Evl.Ex.new hp) upd_same⟩
def Rg1V (x : V) (H : Hp) (Q : VK) : Prop := ∃ n, x = .int n ∧ RgOk 0 n ∧ ∀ q, H q = none → Q (.ref q) (upd H q (.lst (rgV 0 n)))
theorem w_lstRg1 {ta : TE} {σ : SlS} {H : Hp} {Q : VK} (q : ta σ H fun x H1 => Rg1V x H1 Q) : tLstRg (tRg1 ta) σ H Q := q
abbrev encI (j : Nat) : V := .int (j : Int)
theorem w_rg1v {n : Nat} {H : Hp} {Q : VK} (hn : n ≤ 100000) (q : ∀ p H', H p = none → Ex H H' → H' p = some (.lst ((List.range n).map encI)) → Q (.ref p) H') : Rg1V (.int (n : Int)) H Q :=
  ⟨n, rfl, .of_le (by omega) (by omega) (by omega) (by omega), fun p hp => by
    have e : rgV 0 (n : Int) = (List.range n).map encI := by
      unfold rgV
      simp
    rw [e]
    exact q p _ hp (Evl.Ex.new hp) upd_same⟩
def Rg2V (x y : V) (H : Hp) (Q : VK) : Prop := ∃ i j, x = .int i ∧ y = .int j ∧ RgOk i j ∧ ∀ q, H q = none → Q (.ref q) (upd H q (.lst (rgV i j)))
theorem w_lstRg2 {ta tb : TE} {σ : SlS} {H : Hp} {Q : VK} (q : ta σ H fun x H1 => tb σ H1 fun y H2 => Rg2V x y H2 Q) : tLstRg (tRg2 ta tb) σ H Q := q
theorem w_rg2v {m n : Nat} {H : Hp} {Q : VK} (hm : m ≤ 100000) (hn : n ≤ 100000) (q : ∀ p H', H p = none → Ex H H' → H' p = some (.lst (((List.range (n - m)).map (m + ·)).map encI)) → Q (.ref p) H') : Rg2V (.int (m : Int)) (.int (n : Int)) H Q :=
  ⟨m, n, rfl, rfl, .of_le (by omega) (by omega) (by omega) (by omega), fun p hp => by
    have e : rgV (m : Int) (n : Int) = ((List.range (n - m)).map (m + ·)).map encI := by
      unfold rgV
      rw [show ((n : Int) - (m : Int)).toNat = n - m by omega, List.map_map]
      refine List.map_congr_left fun i _ => ?_
      show V.int _ = V.int _
      congr 1
    rw [e]
    exact q p _ hp (Evl.Ex.new hp) upd_same⟩
abbrev uk (p c : Nat) : List Key := [.inl (p : Int), .inr (S [c])]
/-- a short tree at the key -/
def Ent (k m n : Nat) (H : Hp) (kvs : List (List Key × V)) (p c : Nat) : Prop := ∃ v t, valV kvs (uk p c) = some v ∧ TrAt k H t v ∧ OkT k m n t 3 ∧ sz k t ≤ 4
theorem Ent.up {k m n : Nat} {H H' : Hp} {kvs : List (List Key × V)} {p c : Nat} (e : ExT H H') (h : Ent k m n H kvs p c) : Ent k m n H' kvs p c := by
  obtain ⟨v, t, h1, h2, h3⟩ := h
  exact ⟨v, t, h1, h2.up e, h3⟩
theorem Ent.put {k m n : Nat} {H : Hp} {kvs : List (List Key × V)} {p c : Nat} {ke : List Key} {v : V} {t : Tr} (h : Ent k m n H kvs p c) (hv : TrAt k H t v) (ho : OkT k m n t 3) (hz : sz k t ≤ 4) : Ent k m n H (putK kvs ke v) p c := by
  by_cases z : uk p c = ke
  · exact ⟨v, t, by rw [valV_put, if_pos z], hv, ho, hz⟩
  · obtain ⟨v', t', h1, h2⟩ := h
    exact ⟨v', t', by rw [valV_put, if_neg z]; exact h1, h2⟩
theorem Ent.new {k m n : Nat} {H : Hp} {kvs : List (List Key × V)} {p c : Nat} {v : V} {t : Tr} (hv : TrAt k H t v) (ho : OkT k m n t 3) (hz : sz k t ≤ 4) : Ent k m n H (putK kvs (uk p c) v) p c := ⟨v, t, by rw [valV_put, if_pos rfl], hv, ho, hz⟩
def sp_compared (K : PySem.W.Frag) : Sp := fun vs H Q E => ∃ ls w pl d vl lt, ∃ P : List Nat, ∃ kvs n, vs = [.str (S ls), .str (S w), .ref pl, .ref d, vl] ∧ LsOk ls ∧ w.length ≤ 8 ∧ H pl = some (.lst (P.map encI)) ∧ (∀ p ∈ P, p < w.length) ∧ P.length ≤ 8 ∧ H d = some (.dT kvs) ∧ (∀ p c, p < w.length → c ∈ ls → Ent ls.length w.length n H kvs p c) ∧ TrAt ls.length H lt vl ∧ OkT ls.length w.length n lt 3 ∧
  ∀ v t H', Ex H H' → TrAt ls.length H' t v → OkT ls.length w.length n t (3 + P.length) → sz ls.length t ≤ sz ls.length lt + 13 * P.length → Q v H'
theorem rd_compared (T : Tx K mg) : ∀ vs H Q E, sp_compared K vs H Q E → t_compared K { nx := fun _ H' => Q .non H', rt := Q } (start N_compared vs) H := by
  intro vs H Q E ⟨ls, w, pl, d, vl, lt, P, kvs, n, hv, hls, h8, hpl, hP, hP8, hd, hen, hlt, hlo, q⟩
  subst hv
  show t_compared K { nx := fun _ H' => Q .non H', rt := Q } [some (.str (S ls)), some (.str (S w)), some (.ref pl), some (.ref d), some vl, none, none, none, none] H
  have l3 := hls.l3
  unfold t_compared
  walk_at "ws"
  refine w_revL ?_
  walk_at "ws"
  refine w_rvv (Evl.sq_of hpl) fun pr H1 n1 e1 h1 => ?_
  rw [← List.map_reverse] at h1
  have hRl : P.reverse.length = P.length := by simp
  walk_at "ws"
  refine forL (wl_list (L := P.reverse) (enc := encI)) (fun i σ H' => ∃ (v : V) (t : Tr) (b6 b7 b8 : Option V), σ = [some (.str (S ls)), some (.str (S w)), some (.ref pl), some (.ref d), some vl, some v, b6, b7, b8] ∧ Ex H1 H' ∧ TrAt ls.length H' t v ∧ OkT ls.length w.length n t (3 + i) ∧ sz ls.length t ≤ sz ls.length lt + 13 * i)
    ⟨vl, lt, none, none, none, rfl, Evl.Ex.refl _, hlt.up (Ex.t e1), hlo, by omega⟩ (fun i σ H' _ ⟨_, _, _, _, _, _, e, _⟩ => Evl.sq_of (e _ _ h1)) ?_ ?_
  · rintro i pc σ H2 hi ⟨v, t, b6, b7, b8, rfl, e2, hT, hO, hz⟩
    have hpw : pc < w.length := hP pc (List.mem_reverse.mp (List.mem_of_getElem? hi))
    have E2 : Ex H H2 := ex_tr e2 e1
    show gName 6 (encI pc) _ _ _
    walk_at "ws"
    refine lcR (wl_str (l := ls)) (by walk_at "wp") (by omega) (fun c y H => ∃ t', TrAt ls.length H t' y ∧ OkT ls.length w.length n t' (3 + i) ∧ sz ls.length t' ≤ if c = w.getD pc 0 then sz ls.length t else 4) (fun c y H H' e ⟨t', h, r⟩ => ⟨t', h.up e, r⟩) (fun _ _ => trivial) ?_ ?_
    · intro c H3 hc e3 EE N hE
      have hd3 := e3 _ _ (E2 _ _ hd)
      walk_at "ws"
      refine w_ixSI (n := pc) rfl (by omega) (getD_some hpw) ?_
      walk_at "ws"
      refine if_c (fun hb => ?_) (fun hb => ?_)
      · have hb := S_inj.mp (of_decide_eq_true hb)
        have hb : c = w.getD pc 0 := by simpa using hb
        walk_at "ws"
        exact hE _ _ ⟨t, hT.up (Ex.t e3), hO, by rw [if_pos hb]; exact Nat.le_refl _⟩ (Evl.Ex.refl _)
      · have hb : c ≠ w.getD pc 0 := fun z => of_decide_eq_false hb (by rw [z])
        obtain ⟨ve, te, hv, hte, hto, htz⟩ := hen pc c hpw hc
        walk_at "ws"
        intro pk H4 n4 e4 h4
        refine w_dgetT (ke := uk pc c) (kvs := kvs) (e4 _ _ hd3) h4 hv ?_
        exact hE _ _ ⟨te, hte.up (Ex.t (ex_tr e4 (ex_tr e3 E2))), hto.up (by omega), by rw [if_neg hb]; exact htz⟩ e4
    · intro D ys H3 n3 e3 hyl hys h3
      walk_at "ws"
      refine w_tupL (Evl.sq_of h3) fun tp H4 n4 e4 h4 => ?_
      walk_at "ws"
      intro tr H5 n5 e5 h5
      walk_at "ws"
      have hlen : ys.length = ls.length := hyl
      obtain ⟨f, hf⟩ := fchoice (k := ls.length) (P := fun i' t' => ∀ y, ys[i']? = some y → TrAt ls.length H3 t' y ∧ OkT ls.length w.length n t' (3 + i) ∧ sz ls.length t' ≤ if ls.getD i' 0 = w.getD pc 0 then sz ls.length t else 4) fun i' hi' => by
        have h6 : ys[i']? = some (ys[i']'(by omega)) := by simp [hlen, hi']
        obtain ⟨t', a, b, c⟩ := hys i' (ls.getD i' 0) _ (by simp [hi']) h6
        refine ⟨t', fun y hy => ?_⟩
        rw [h6] at hy
        cases hy
        exact ⟨a, b, c⟩
      have hf' : ∀ i', i' < ls.length → OkT ls.length w.length n (f i') (3 + i) ∧ sz ls.length (f i') ≤ if ls.getD i' 0 = w.getD pc 0 then sz ls.length t else 4 := fun i' hi' => (hf i' hi' (ys[i']'(by omega)) (by simp [hlen, hi'])).2
      have hsum := sum_idx ls hls.nd (fun i' => sz ls.length (f i')) fun i' hi' => (hf' i' hi').2
      refine got ⟨.ref tr, .read pc f, _, _, _, rfl, ex_tr e5 (ex_tr e4 (ex_tr e3 e2)), ⟨tr, tp, ys, rfl, h5, e5 _ _ h4, hlen, fun i' y hi' hy => (hf i' hi' y hy).1.up (Ex.t (ex_tr e5 e4))⟩, ⟨3 + i, by omega, by omega, fun i' hi' => (hf' i' hi').1⟩, ?_⟩
      show ((List.range ls.length).map fun i' => sz ls.length (f i')).sum + 1 ≤ _
      omega
  · rintro σ H2 ⟨v, t, b6, b7, b8, rfl, e2, hT, hO, hz⟩
    rw [hRl] at hO hz
    walk_at "ws"
    exact q v t H2 (ex_tr e2 e1) hT hO hz
end
section
variable {K : PySem.W.Frag} {mg : Str → Option Value}
def StRes (ls : List Nat) (m : Nat) (H : Hp) (Q : VK) : Prop := ∀ l H', ∀ L : List (V × Tr), Ex H H' → H' l = some (.lst (L.map Prod.fst)) → TrsAt ls.length H' L → StsOk ls m L.length (L.map Prod.snd) → Q (.ref l) H'
def GoodT (k m n : Nat) (H : Hp) (y : V) : Prop := ∃ t, TrAt k H t y ∧ OkT k m n t 12 ∧ sz k t ≤ 200
theorem GoodT.up {k m n : Nat} {H H' : Hp} {y : V} (e : ExT H H') (h : GoodT k m n H y) : GoodT k m n H' y := by
  obtain ⟨t, h1, h2⟩ := h
  exact ⟨t, h1.up e, h2⟩
theorem st_of {ls : List Nat} {m n : Nat} {H : Hp} {ys : List V} (hl : ys.length = n) (h1 : 1 ≤ n) (h5 : n ≤ 5) (h : ∀ (i : Nat) y, ys[i]? = some y → GoodT ls.length m n H y) : ∃ L : List (V × Tr), L.map Prod.fst = ys ∧ TrsAt ls.length H L ∧ StsOk ls m L.length (L.map Prod.snd) := by
  obtain ⟨f, hf⟩ := fchoice (k := n) (P := fun i t => ∀ y, ys[i]? = some y → TrAt ls.length H t y ∧ OkT ls.length m n t 12 ∧ sz ls.length t ≤ 200) fun i hi => by
    have h6 : ys[i]? = some (ys[i]'(by omega)) := by simp [hl, hi]
    obtain ⟨t', a⟩ := h i _ h6
    refine ⟨t', fun y hy => ?_⟩
    rw [h6] at hy
    cases hy
    exact a
  have hz : ys.length = ((List.range n).map f).length := by simp [hl]
  have hmem : ∀ x ∈ ys.zip ((List.range n).map f), ∃ i, i < n ∧ ys[i]? = some x.1 ∧ x.2 = f i := by
    intro x hx
    obtain ⟨i, hi, rfl⟩ := List.getElem_of_mem hx
    rw [List.getElem_zip]
    rw [List.length_zip, List.length_map, List.length_range] at hi
    exact ⟨i, by omega, by simp, by simp⟩
  have hlen : (ys.zip ((List.range n).map f)).length = n := by simp [hl]
  refine ⟨ys.zip ((List.range n).map f), zip_fst hz, fun x hx => ?_, ?_⟩
  · obtain ⟨i, hi, hy, e⟩ := hmem x hx
    rw [e]
    exact (hf i hi _ hy).1
  · rw [zip_snd hz, hlen]
    have hok : ∀ t ∈ (List.range n).map f, OkT ls.length m n t 12 ∧ sz ls.length t ≤ 200 := fun t ht => by
      obtain ⟨i, hi, rfl⟩ := List.mem_map.mp ht
      have hi := List.mem_range.mp hi
      exact (hf i hi (ys[i]'(by omega)) (by simp [hl, hi])).2
    exact ⟨by simp; omega, by simp; omega, by simp, fun t ht => (hok t ht).1, fun t ht => (hok t ht).2⟩
theorem put_lenT (c : List (List Key × V)) (k : List Key) (x : V) : (putK c k x).length ≤ c.length + 1 := by
  unfold putK
  split <;> simp
def sp_from_left (K : PySem.W.Frag) : Sp := fun vs H Q E => ∃ ls w wy, vs = [.str (S ls), .str (S w), .str wy] ∧ LsOk ls ∧ 1 ≤ w.length ∧ w.length ≤ 5 ∧ StRes ls w.length H Q
theorem rd_from_left (T : Tx K mg) : ∀ vs H Q E, sp_from_left K vs H Q E → t_from_left K (sp_borders_of K) (sp_left_step K) (sp_compared K) { nx := fun _ H' => Q .non H', rt := Q } (start N_from_left vs) H := by
  intro vs H Q E ⟨ls, w, wy, hv, hls, h1', h5', q⟩
  subst hv
  show t_from_left K (sp_borders_of K) (sp_left_step K) (sp_compared K) { nx := fun _ H' => Q .non H', rt := Q } [some (.str (S ls)), some (.str (S w)), some (.str wy), none, none, none, none, none, none, none] H
  have l3 := hls.l3
  have l2 := hls.l2
  unfold t_from_left
  walk_at "ws"
  refine ⟨w, rfl, by omega, fun b H1 B n1 e1 hb hB => ?_⟩
  obtain ⟨bd, hbd, hbdl⟩ : ∃ bd : Nat, B[w.length]? = some (bd : Int) ∧ bd < w.length := by
    have hl := hB.len
    have hx : B[w.length]? = some (B[w.length]'(by omega)) := by simp [hl]
    obtain ⟨a1, a2, a3⟩ := hB.at_ _ _ hx
    have a3 := a3 h1'
    refine ⟨(B[w.length]'(by omega)).toNat, ?_, by omega⟩
    rw [hx]
    congr 1
    omega
  have hbv : (B.map V.int)[w.length]? = some (.int (bd : Int)) := by rw [List.getElem?_map, hbd]; rfl
  have hc : (w.length : Int) - (bd : Int) = ((w.length - bd : Nat) : Int) := by omega
  walk_at "ws"
  intro p2 H2 n2 e2 h2
  have hb2 := e2 _ _ hb
  walk_at "ws"
  refine w_ixL (n := w.length) (Evl.sq_of hb2) hbv ?_
  walk_at "ws"
  refine w_ixL (n := w.length) (Evl.sq_of hb2) hbv ?_
  walk_at "ws"
  rw [hc]
  intro tg H3 n3 e3 h3
  walk_at "ws"
  intro tl H4 n4 e4 h4
  walk_at "ws"
  refine w_dnewT fun d H5 n5 e5 h5 => ?_
  walk_at "ws"
  intro tp H6 n6 e6 h6
  have hd6 : H6 d = some (.dT []) := e6 _ _ h5
  have E5 : Ex H H4 := (by walk_at "ex")
  have nd : H d = none := nn_back E5 n5
  have E6 : Ex H H6 := ex_tr e6 (ex_tr e5 E5)
  have hb6 : H6 b = some (.lst (B.map V.int)) := e6 _ _ (e5 _ _ (e4 _ _ (e3 _ _ hb2)))
  have hlike : TrAt ls.length H6 (.tell 0 (.go (w.length - bd) bd)) (.ref tl) := ⟨tl, .ref tg, rfl, e6 _ _ (e5 _ _ h4), tg, rfl, e6 _ _ (e5 _ _ (e4 _ _ h3))⟩
  have hlo : OkT ls.length w.length w.length (.tell 0 (.go (w.length - bd) bd)) 3 := ⟨2, rfl, by omega, by omega, by omega, by omega, hbdl⟩
  walk_at "ws"
  refine forL (wl_rng0 (n := w.length)) (fun i σ H' => ∃ (b7 b8 : Option V) (kvs : List (List Key × V)), σ = [some (.str (S ls)), some (.str (S w)), some (.str wy), some (.ref b), some (.int (w.length : Nat)), some (.ref tl), some (.ref d), b7, b8, none] ∧ Ml d H6 H' ∧ H' d = some (.dT kvs) ∧ kvs.length ≤ i * ls.length ∧ ∀ p c, p < i → c ∈ ls → Ent ls.length w.length w.length H' kvs p c)
    ⟨none, none, [], rfl, ml_refl, hd6, by simp, fun p c h => by omega⟩ (fun _ _ _ _ _ => trivial) ?_ ?_
  · rintro i pc σ H7 hi ⟨b7, b8, kvs, rfl, M7, hd7, hkl, hen⟩
    have hil := (List.getElem?_eq_some_iff.mp hi).1
    rw [List.length_range] at hil
    have hpc : pc = i := by
      rw [List.getElem?_range hil] at hi
      exact (Option.some.inj hi).symm
    subst hpc
    walk_at "ws"
    refine forL (wl_str (l := ls)) (fun j σ H' => ∃ (b8 : Option V) (kvs : List (List Key × V)), σ = [some (.str (S ls)), some (.str (S w)), some (.str wy), some (.ref b), some (.int (w.length : Nat)), some (.ref tl), some (.ref d), some (.int (pc : Int)), b8, none] ∧ Ml d H6 H' ∧ H' d = some (.dT kvs) ∧ kvs.length ≤ pc * ls.length + j ∧ (∀ p c, p < pc → c ∈ ls → Ent ls.length w.length w.length H' kvs p c) ∧ ∀ c ∈ ls.take j, Ent ls.length w.length w.length H' kvs pc c)
      ⟨b8, kvs, rfl, M7, hd7, by omega, hen, fun c h => by simp at h⟩ (fun _ _ _ _ _ => trivial) ?_ ?_
    · rintro j c σ H8 hj ⟨b8, kvs, rfl, M8, hd8, hkl, hen, hen2⟩
      have hb8 : H8 b = some (.lst (B.map V.int)) := M8 _ _ (ne_kind hb6 hd6 (fun z => nomatch z)) hb6
      have hjl := (List.getElem?_eq_some_iff.mp hj).1
      have hpl3 : pc * ls.length ≤ 5 * 3 := Nat.mul_le_mul (by omega) l3
      walk_at "ws"
      intro p1 H9 n9 e9 h9
      walk_at "ws"
      refine ⟨w, b, B, wy, c, pc, rfl, e9 _ _ hb8, hB, by omega, hil, fun p2 H10 s q' e10 h10 hs1 hs2 hq => ?_⟩
      refine w_catT (Evl.st_of (e10 _ _ h9)) (Evl.st_of h10) (by simp) (by simp) (by simp) fun p3 H11 n11 e11 h11 => ?_
      walk_at "ws"
      intro p4 H12 n12 e12 h12
      have E12 : Ex H8 H12 := (by walk_at "ex")
      refine w_dputT (ke := uk pc c) (kvs := kvs) (E12 _ _ hd8) h12 (by omega) fun H13 m13 h13 => ?_
      have u13 : ExT H8 H13 := (Ex.t E12).trans (ml_t m13 (E12 _ _ hd8) (fun _ z => nomatch z))
      have u12 : ExT H12 H13 := ml_t m13 (E12 _ _ hd8) (fun _ z => nomatch z)
      have hT : TrAt ls.length H13 (.go s q') (.ref p3) := ⟨p3, rfl, u12 _ _ (e12 _ _ h11)⟩
      have hO : OkT ls.length w.length w.length (.go s q') 3 := ⟨by omega, hs1, by omega, hq⟩
      have hZ : sz ls.length (.go s q') ≤ 4 := by simp [sz]
      walk_at "ws"
      refine got ⟨_, _, rfl, ml_tr (ml_ex M8 E12) m13, h13, Nat.le_trans (put_lenT _ _ _) (by omega), fun p c' hp hc' => ((hen p c' hp hc').up u13).put hT hO hZ, fun c' hc' => ?_⟩
      rw [List.take_succ, hj] at hc'
      rcases List.mem_append.mp hc' with hc' | hc'
      · exact ((hen2 c' hc').up u13).put hT hO hZ
      · have : c' = c := by simpa using hc'
        subst this
        exact Ent.new hT hO hZ
    · rintro σ H8 ⟨b8, kvs, rfl, M8, hd8, hkl, hen, hen2⟩
      refine got ⟨_, _, kvs, rfl, M8, hd8, by rw [Nat.succ_mul]; exact hkl, fun p c hp hc => ?_⟩
      by_cases z : p < pc
      · exact hen p c z hc
      · have : p = pc := by omega
        subst this
        rw [List.take_length] at hen2
        exact hen2 c hc
  · rintro σ H7 ⟨b7, b8, kvs, rfl, M7, hd7, hkl, hen⟩
    rw [List.length_range] at hen
    have u7 : ExT H6 H7 := ml_t M7 hd6 (fun _ z => nomatch z)
    have E7 : Ex H H7 := ml_new nd E6 M7
    walk_at "ws"
    refine lcR (wl_rng0 (n := w.length)) (by walk_at "wp") (by simp; omega) (fun _ y H => GoodT ls.length w.length w.length H y) (fun _ y H H' e h => h.up e) (fun _ _ => trivial) ?_ ?_
    · intro j H8 hj e8 EE N hE
      have hj : j < w.length := List.mem_range.mp hj
      walk_at "ws"
      refine w_lstRg2 ?_
      walk_at "ws"
      refine w_rg2v (by omega) (by omega) fun pr H9 n9 e9 h9 => ?_
      have E9 : Ex H7 H9 := ex_tr e9 e8
      walk_at "ws"
      refine ⟨ls, w, pr, d, .ref tl, .tell 0 (.go (w.length - bd) bd), (List.range (w.length - j)).map (j + ·), kvs, w.length, rfl, hls, by omega, h9, fun p hp => ?_, by simp; omega, E9 _ _ hd7, fun p c hp hc => (hen p c hp hc).up (Ex.t E9), (hlike.up u7).up (Ex.t E9), hlo, fun v t H10 e10 hT hO hZ => ?_⟩
      · obtain ⟨i, hi, rfl⟩ := List.mem_map.mp hp
        have := List.mem_range.mp hi
        omega
      · refine hE _ _ ⟨t, hT, hO.up (by simp; omega), ?_⟩ (ex_tr e10 e9)
        refine Nat.le_trans hZ ?_
        simp [sz]
        omega
    · intro D ys H8 n8 e8 hyl hys h8
      rw [List.length_range] at hyl
      obtain ⟨L, hL1, hL2, hL3⟩ := st_of (ls := ls) (m := w.length) (n := w.length) (H := H8) hyl h1' h5' fun i y hy => hys i i y (by
        have := (List.getElem?_eq_some_iff.mp hy).1
        rw [List.getElem?_range (by omega)]) hy
      exact q D H8 L (ex_tr e8 E7) (by rw [hL1]; exact h8) hL2 hL3
end
section
variable {K : PySem.W.Frag} {mg : Str → Option Value}
def PutV (D : Addr) (N : Hp → Prop) (y z : V) (H8 : Hp) : Prop := ∃ kvs k b, y = .ref b ∧ H8 b = some (.tup (k.map kV)) ∧ H8 D = some (.dT kvs) ∧ kvs.length < sizeLine ∧ N (upd H8 D (.dT (putK kvs k z)))
def Dc2I (J1 : It) (g1 : TG) (tk tv : TE) (vs1 : List Nat) (D : Addr) (Nx : Hp → Prop) (σ2 : SlS) (H4 : Hp) : Prop := ∃ W1 : Nat → Nat → Hp → Prop, (∃ m, W1 0 m H4) ∧ ∀ j k H, W1 j k H →
      (J1.stop j H ∧ Nx H) ∨ (J1.go j H ∧ ∃ Nx1 : Hp → Prop, (∀ H', Nx1 H' → ∃ k', k' < k ∧ W1 (j + 1) k' H') ∧ ∀ x H', J1.yld j H x H' → g1 x (wipe σ2 vs1) H' fun σ3 H6 => WpV vs1 (wipe σ2 vs1) σ3 (tk σ3 H6 fun y H7 => tv σ3 H7 fun z H8 => PutV D Nx1 y z H8))
def Dc2V (J : It) (g : TG) (wi1 : TI) (g1 : TG) (tk tv : TE) (vs vs1 : List Nat) (σ : SlS) (H1 : Hp) (Q : VK) : Prop := ∀ D, H1 D = none → ∃ W : Nat → Nat → Hp → Prop, (∃ m, W 0 m (upd H1 D (.dT []))) ∧ ∀ i m H, W i m H →
  (J.stop i H ∧ Q (.ref D) H) ∨ (J.go i H ∧ ∃ Nx : Hp → Prop, (∀ H', Nx H' → ∃ m', m' < m ∧ W (i + 1) m' H') ∧ ∀ x H', J.yld i H x H' → g x (wipe σ vs) H' fun σ2 H3 => WpV vs (wipe σ vs) σ2 (wi1 σ2 H3 fun J1 H4 => Dc2I J1 g1 tk tv vs1 D Nx σ2 H4))
theorem w_dc2 {wi wi1 : TI} {g g1 : TG} {tk tv : TE} {vs vs1 : List Nat} {σ : SlS} {H : Hp} {Q : VK} (q : wi σ H fun J H1 => Dc2V J g wi1 g1 tk tv vs vs1 σ H1 Q) : tDc2 wi g wi1 g1 tk tv vs vs1 σ H Q := q
theorem sum_ones {α : Type} (l : List α) : (l.map fun _ => 1).sum = l.length := by
  induction l with
  | nil => rfl
  | cons a l ih => simp only [List.map_cons, List.sum_cons, List.length_cons]; omega
/-- the last tree of a searcher by one letter -/
def LastV (ls : List Nat) (m : Nat) (H : Hp) (y : V) : Prop := ∃ t, TrAt ls.length H t y ∧ OkT ls.length m 1 t 2 ∧ sz ls.length t ≤ 4
theorem LastV.up {ls : List Nat} {m : Nat} {H H' : Hp} {y : V} (e : ExT H H') (h : LastV ls m H y) : LastV ls m H' y := by
  obtain ⟨t, h1, h2⟩ := h
  exact ⟨t, h1.up e, h2⟩
/-- a go to state 0 -/
def Go0 (k m : Nat) (H : Hp) (y : V) : Prop := ∃ s : Nat, TrAt k H (.go s 0) y ∧ 1 ≤ s ∧ s ≤ m + 1
theorem Go0.up {k m : Nat} {H H' : Hp} {y : V} (e : ExT H H') (h : Go0 k m H y) : Go0 k m H' y := by
  obtain ⟨t, h1, h2⟩ := h
  exact ⟨t, h1.up e, h2⟩
theorem LastV.read {ls : List Nat} {m pl : Nat} {H : Hp} {p tp : Addr} {ys : List V} (h3 : ls.length ≤ 3) (hpl : pl ≤ m) (hy : ys.length = ls.length) (h : ∀ (i : Nat) y, ys[i]? = some y → Go0 ls.length m H y) (hp : H p = some (.tup [.str "read", .int (pl : Int), .ref tp])) (ht : H tp = some (.tup ys)) : LastV ls m H (.ref p) := by
  obtain ⟨f, hf⟩ := fchoice (k := ls.length) (P := fun i t => ∃ s : Nat, t = .go s 0 ∧ 1 ≤ s ∧ s ≤ m + 1 ∧ ∀ y, ys[i]? = some y → TrAt ls.length H t y) fun i hi => by
    have h6 : ys[i]? = some (ys[i]'(by omega)) := by simp [hy, hi]
    obtain ⟨s, a, b, c⟩ := h i _ h6
    refine ⟨_, s, rfl, b, c, fun y hy => ?_⟩
    rw [h6] at hy
    cases hy
    exact a
  refine ⟨.read pl f, ⟨p, tp, ys, rfl, hp, ht, hy, fun i w hi hw => ?_⟩, ⟨1, rfl, hpl, fun i hi => ?_⟩, ?_⟩
  · obtain ⟨s, _, _, _, d⟩ := hf i hi
    exact d w hw
  · obtain ⟨s, e, b, c, _⟩ := hf i hi
    rw [e]
    exact ⟨Nat.le_refl _, b, c, by omega⟩
  · show ((List.range ls.length).map fun i => sz ls.length (f i)).sum + 1 ≤ 4
    have e : (List.range ls.length).map (fun i => sz ls.length (f i)) = (List.range ls.length).map fun _ => 1 := by
      refine List.map_congr_left fun i hi => ?_
      obtain ⟨s, e, _⟩ := hf i (List.mem_range.mp hi)
      rw [e]
      rfl
    rw [e, sum_ones, List.length_range]
    omega
def sp_by_one_letter (K : PySem.W.Frag) : Sp := fun vs H Q E => ∃ ls w wy, vs = [.str (S ls), .str (S w), .str wy] ∧ LsOk ls ∧ 1 ≤ w.length ∧ w.length ≤ 5 ∧ StRes ls w.length H Q
theorem rd_by_one_letter (T : Tx K mg) : ∀ vs H Q E, sp_by_one_letter K vs H Q E → t_by_one_letter K (sp_last_of K) (sp_compared K) { nx := fun _ H' => Q .non H', rt := Q } (start N_by_one_letter vs) H := by
  intro vs H Q E ⟨ls, w, wy, hv, hls, h1', h5', q⟩
  subst hv
  show t_by_one_letter K (sp_last_of K) (sp_compared K) { nx := fun _ H' => Q .non H', rt := Q } [some (.str (S ls)), some (.str (S w)), some (.str wy), none, none, none, none, none, none] H
  have l3 := hls.l3
  have l2 := hls.l2
  unfold t_by_one_letter
  walk_at "ws"
  intro p1 H1 n1 e1 h1
  ((repeat ((fail_if_success (with_reducible intro _)); (fail_if_success (with_reducible apply w_sq)); walk1)); with_reducible apply w_sq)
  refine w_cut (fun σ' H' => ∃ (lv : V) (b6 : Option V), σ' = [some (.str (S ls)), some (.str (S w)), some (.str wy), some (.int (w.length : Nat)), some lv, none, b6, none, none] ∧ Ex H H' ∧ LastV ls w.length H' lv) ?_ (fun N hN => ?_)
  · rintro σ' H2 ⟨lv, b6, rfl, E2, hlv⟩
    with_reducible apply w_sq
    refine w_cut (fun σ' H' => ∃ (lv : V) (b6 : Option V), σ' = [some (.str (S ls)), some (.str (S w)), some (.str wy), some (.int (w.length : Nat)), some lv, none, b6, none, none] ∧ Ex H H' ∧ LastV ls w.length H' lv) ?_ (fun N hN => ?_)
    · clear hlv E2
      rintro σ' H3 ⟨lv, b6, rfl, E3, lt, hlt, hlo, hlz⟩
      walk_at "ws"
      refine w_dc2 ?_
      walk_at "ws"
      intro D hD
      have hw0 : wipe [some (V.str (S ls)), some (.str (S w)), some (.str wy), some (.int (w.length : Nat)), some lv, none, b6, none, none] [7, 8] = [some (V.str (S ls)), some (.str (S w)), some (.str wy), some (.int (w.length : Nat)), some lv, none, b6, none, none] := rfl
      refine ⟨fun i mm H => mm = w.length - i ∧ i ≤ w.length ∧ Ex H3 H ∧ ∃ kvs, H D = some (.dT kvs) ∧ kvs.length ≤ i * ls.length ∧ ∀ p c, p < i → c ∈ ls → valV kvs (uk p c) = some lv, ⟨w.length, by simp, Nat.zero_le _, Evl.Ex.new hD, [], upd_same, by simp, fun p c h => by omega⟩, ?_⟩
      rintro i mm H4 ⟨rfl, hi, e4, kvs, hd, hl, hv⟩
      have hpl3 : i * ls.length ≤ 5 * 3 := Nat.mul_le_mul (by omega) l3
      by_cases hlt' : i < w.length
      · refine .inr ⟨(wl_rng0 (n := w.length)).goes i H4 (by simpa using hlt') trivial, fun H => Ex H3 H ∧ ∃ kvs, H D = some (.dT kvs) ∧ kvs.length ≤ (i + 1) * ls.length ∧ ∀ p c, p < i + 1 → c ∈ ls → valV kvs (uk p c) = some lv, fun H' h => ⟨w.length - (i + 1), by omega, rfl, hlt', h⟩, fun x H' y => ?_⟩
        obtain ⟨e, c, hc, hx⟩ := (wl_rng0 (n := w.length)).yields i H4 x H' (by simpa using hlt') trivial y
        have hci : c = i := by
          rw [List.getElem?_range hlt'] at hc
          exact (Option.some.inj hc).symm
        subst e
        subst hci
        subst hx
        rw [hw0]
        walk_at "ws"
        refine ⟨fun j k H => k = ls.length - j ∧ j ≤ ls.length ∧ Ex H3 H ∧ ∃ kvs, H D = some (.dT kvs) ∧ kvs.length ≤ c * ls.length + j ∧ (∀ p c', p < c → c' ∈ ls → valV kvs (uk p c') = some lv) ∧ ∀ c' ∈ ls.take j, valV kvs (uk c c') = some lv, ⟨ls.length, by simp, Nat.zero_le _, e4, kvs, hd, hl, hv, fun c h => by simp at h⟩, ?_⟩
        rintro j k H5 ⟨rfl, hj, e5, kvs5, hd5, hl5, hv5, hv5'⟩
        by_cases hjl : j < ls.length
        · refine .inr ⟨(wl_str (l := ls)).goes j H5 hjl trivial, fun H => Ex H3 H ∧ ∃ kvs, H D = some (.dT kvs) ∧ kvs.length ≤ c * ls.length + (j + 1) ∧ (∀ p c', p < c → c' ∈ ls → valV kvs (uk p c') = some lv) ∧ ∀ c' ∈ ls.take (j + 1), valV kvs (uk c c') = some lv, fun H' h => ⟨ls.length - (j + 1), by omega, rfl, hjl, h⟩, fun x H' y => ?_⟩
          obtain ⟨e, d, hd', hx⟩ := (wl_str (l := ls)).yields j H5 x H' hjl trivial y
          subst e
          subst hx
          rw [show wipe [some (V.str (S ls)), some (.str (S w)), some (.str wy), some (.int (w.length : Nat)), some lv, none, b6, some (.int (c : Int)), none] [8] = [some (V.str (S ls)), some (.str (S w)), some (.str wy), some (.int (w.length : Nat)), some lv, none, b6, some (.int (c : Int)), none] from rfl]
          walk_at "ws"
          intro tp H6 n6 e6 h6
          walk_at "ws"
          refine ⟨kvs5, uk c d, tp, rfl, h6, e6 _ _ hd5, ?_, Evl.Ex.mut (ex_tr e6 e5) hD, _, upd_same, Nat.le_trans (put_lenT _ _ _) (by omega), fun p c' hp hc' => ?_, fun c' hc' => ?_⟩
          · have : (sizeLine : Nat) = 16777216 := sizeLine_eq
            omega
          · rw [valV_put]
            split
            · rfl
            · exact hv5 p c' hp hc'
          · rw [valV_put]
            split
            · rfl
            · rename_i z
              rw [List.take_succ, hd'] at hc'
              rcases List.mem_append.mp hc' with hc' | hc'
              · exact hv5' c' hc'
              · have : c' = d := by simpa using hc'
                subst this
                exact absurd rfl z
        · have ej : j = ls.length := by omega
          subst ej
          refine .inl ⟨(wl_str (l := ls)).stops H5 trivial, e5, kvs5, hd5, by rw [Nat.succ_mul]; exact hl5, fun p c' hp hc' => ?_⟩
          by_cases z : p < c
          · exact hv5 p c' z hc'
          · have : p = c := by omega
            subst this
            rw [List.take_length] at hv5'
            exact hv5' c' hc'
      · have ei : i = w.length := by omega
        subst ei
        refine .inl ⟨by simpa using (wl_rng0 (n := w.length)).stops H4 trivial, ?_⟩
        have u4 : ExT H3 H4 := Ex.t e4
        walk_at "ws"
        refine w_lstRg1 ?_
        walk_at "ws"
        refine w_rg1v (by omega) fun pr H5 n5 e5 h5 => ?_
        walk_at "ws"
        intro tl H6 n6 e6 h6
        have E6 : Ex H3 H6 := ex_tr e6 (ex_tr e5 e4)
        refine ⟨ls, w, pr, D, .ref tl, .tell 0 lt, List.range w.length, kvs, 1, rfl, hls, by omega, e6 _ _ h5, fun p hp => List.mem_range.mp hp, by simp; omega, e6 _ _ (e5 _ _ hd), fun p c hp hc => ⟨lv, lt, hv p c hp hc, hlt.up (Ex.t E6), hlo.up (by omega), hlz⟩, ⟨tl, lv, rfl, h6, hlt.up (Ex.t E6)⟩, ⟨2, rfl, by omega, hlo⟩, fun v t H7 e7 hT hO hZ => ?_⟩
        walk_at "ws"
        intro l H8 n8 e8 h8
        have hG : GoodT ls.length w.length 1 H8 v := ⟨t, hT.up (Ex.t e8), hO.up (by simp; omega), by simp [sz] at hZ; omega⟩
        obtain ⟨L, hL1, hL2, hL3⟩ := st_of (ls := ls) (m := w.length) (n := 1) (H := H8) (ys := [v]) rfl (Nat.le_refl _) (by omega) fun i y hy => by
          have := (List.getElem?_eq_some_iff.mp hy).1
          have hi0 : i = 0 := by simpa using this
          subst hi0
          cases hy
          exact hG
        exact q l H8 L (ex_tr e8 (ex_tr e7 (ex_tr E6 E3))) (by rw [hL1]; exact h8) hL2 hL3
    · walk_at "ws"
      refine if_c (fun hb => ?_) (fun hb => ?_)
      · walk_at "ws"
        refine lcR (wl_str (l := ls)) (by walk_at "wp") (by omega) (fun _ y H => Go0 ls.length w.length H y) (fun _ y H H' e h => h.up e) (fun _ _ => trivial) ?_ ?_
        · intro c H3 hc e3 EE N' hE
          walk_at "ws"
          refine ⟨w, c, w.length, rfl, by omega, Nat.le_refl _, fun r H4 e4 hr1 hr2 => ?_⟩
          have hcast : (w.length : Int) - r = (((w.length : Int) - r).toNat : Nat) := by omega
          walk_at "ws"
          rw [hcast]
          intro p H5 n5 e5 h5
          exact hE _ _ ⟨_, ⟨p, rfl, h5⟩, by omega, by omega⟩ (ex_tr e5 e4)
        · intro D ys H3 n3 e3 hyl hys h3
          walk_at "ws"
          refine w_tupL (Evl.sq_of h3) fun tp H4 n4 e4 h4 => ?_
          walk_at "ws"
          intro p H5 n5 e5 h5
          walk_at "ws"
          refine hN _ _ ⟨_, _, rfl, ex_tr e5 (ex_tr e4 (ex_tr e3 E2)), LastV.read l3 (Nat.le_refl _) hyl (fun i y hy => ?_) h5 (e5 _ _ h4)⟩
          have hi := (List.getElem?_eq_some_iff.mp hy).1
          exact (hys i (ls.getD i 0) y (by simp [show i < ls.length by omega]) hy).up (Ex.t (ex_tr e5 e4))
      · walk_at "ws"
        exact hN _ _ ⟨lv, b6, rfl, E2, hlv⟩
  · walk_at "ws"
    refine if_c (fun hb => ?_) (fun hb => ?_)
    · have hcast1 : (w.length : Int) - 1 = ((w.length - 1 : Nat) : Int) := by omega
      walk_at "ws"
      refine lcR (wl_str (l := ls)) (by walk_at "wp") (by omega) (fun _ y H => Go0 ls.length w.length H y) (fun _ y H H' e h => h.up e) (fun _ _ => trivial) ?_ ?_
      · intro c H3 hc e3 EE N' hE
        walk_at "ws"
        rw [hcast1]
        refine ⟨w, c, w.length - 1, rfl, by omega, by omega, fun r H4 e4 hr1 hr2 => ?_⟩
        have hcast : ((w.length - 1 : Nat) : Int) - r = ((((w.length - 1 : Nat) : Int) - r).toNat : Nat) := by omega
        walk_at "ws"
        rw [hcast]
        intro p H5 n5 e5 h5
        exact hE _ _ ⟨_, ⟨p, rfl, h5⟩, by omega, by omega⟩ (ex_tr e5 e4)
      · intro D ys H3 n3 e3 hyl hys h3
        walk_at "ws"
        rw [hcast1]
        refine w_tupL (Evl.sq_of h3) fun tp H4 n4 e4 h4 => ?_
        walk_at "ws"
        intro p H5 n5 e5 h5
        walk_at "ws"
        refine hN _ _ ⟨_, _, rfl, ex_tr e5 (ex_tr e4 (ex_tr e3 e1)), LastV.read l3 (by omega) hyl (fun i y hy => ?_) h5 (e5 _ _ h4)⟩
        have hi := (List.getElem?_eq_some_iff.mp hy).1
        exact (hys i (ls.getD i 0) y (by simp [show i < ls.length by omega]) hy).up (Ex.t (ex_tr e5 e4))
    · walk_at "ws"
      exact hN _ _ ⟨.ref p1, _, rfl, e1, .go 1 0, ⟨p1, rfl, h1⟩, ⟨by omega, by omega, by omega, by omega⟩, by simp [sz]⟩
end
section
variable {K : PySem.W.Frag} {mg : Str → Option Value}
theorem OkT.nm {k m n n' : Nat} (hn : n ≤ n') : ∀ {t : Tr} {d : Nat}, OkT k m n t d → OkT k m n' t d
  | .go s q, d, h => ⟨h.1, h.2.1, h.2.2.1, Nat.lt_of_lt_of_le h.2.2.2 hn⟩
  | .tell j t, d, ⟨d1, e1, h1, h2⟩ => ⟨d1, e1, h1, OkT.nm hn h2⟩
  | .read p f, d, ⟨d1, e1, h1, h2⟩ => ⟨d1, e1, h1, fun i hi => OkT.nm hn (h2 i hi)⟩
theorem Ent.nm {k m n n' : Nat} {H : Hp} {kvs : List (List Key × V)} {p c : Nat} (hn : n ≤ n') (h : Ent k m n H kvs p c) : Ent k m n' H kvs p c := by
  obtain ⟨v, t, h1, h2, h3, h4⟩ := h
  exact ⟨v, t, h1, h2, h3.nm hn, h4⟩
theorem cutV_take {xs : List V} {i : Int} {n : Nat} (h : i = (n : Int)) : cutV xs none (some i) = xs.take n := by
  subst h
  unfold cutV
  rw [HT.sIx_none, HT.sIx_nat]
  simp only [Nat.sub_zero, List.drop_zero]
  rcases Nat.le_total n xs.length with h | h
  · rw [Nat.min_eq_left h]
  · rw [Nat.min_eq_right h, List.take_of_length_le (Nat.le_refl _), List.take_of_length_le h]
def sp_from_right (K : PySem.W.Frag) : Sp := fun vs H Q E => ∃ ls w wy, vs = [.str (S ls), .str (S w), .str wy] ∧ LsOk ls ∧ 1 ≤ w.length ∧ w.length ≤ 5 ∧ StRes ls w.length H Q
theorem rd_from_right (T : Tx K mg) : ∀ vs H Q E, sp_from_right K vs H Q E → t_from_right K (sp_right_slide K) (sp_borders_of K) (sp_compared K) { nx := fun _ H' => Q .non H', rt := Q } (start N_from_right vs) H := by
  intro vs H Q E ⟨ls, w, wy, hv, hls, h1', h5', q⟩
  subst hv
  show t_from_right K (sp_right_slide K) (sp_borders_of K) (sp_compared K) { nx := fun _ H' => Q .non H', rt := Q } [some (.str (S ls)), some (.str (S w)), some (.str wy), none, none, none, none, none, none, none, none, none] H
  have l3 := hls.l3
  have l2 := hls.l2
  unfold t_from_right
  walk_at "ws"
  refine w_dnewT fun d H5 n5 e5 h5 => ?_
  walk_at "ws"
  refine forL (wl_rng0 (n := w.length)) (fun i σ H' => ∃ (b5 b11 : Option V) (kvs : List (List Key × V)), σ = [some (.str (S ls)), some (.str (S w)), some (.str wy), some (.int (w.length : Nat)), some (.ref d), b5, none, none, none, none, none, b11] ∧ Ml d H5 H' ∧ H' d = some (.dT kvs) ∧ kvs.length ≤ i * ls.length ∧ ∀ p c, p < i → c ∈ ls → Ent ls.length w.length 1 H' kvs p c)
    ⟨none, none, [], rfl, ml_refl, h5, by simp, fun p c h => by omega⟩ (fun _ _ _ _ _ => trivial) ?_ ?_
  · rintro i pc σ H7 hi ⟨b5, b11, kvs, rfl, M7, hd7, hkl, hen⟩
    have hil := (List.getElem?_eq_some_iff.mp hi).1
    rw [List.length_range] at hil
    have hpc : pc = i := by
      rw [List.getElem?_range hil] at hi
      exact (Option.some.inj hi).symm
    subst hpc
    walk_at "ws"
    refine forL (wl_str (l := ls)) (fun j σ H' => ∃ (b11 : Option V) (kvs : List (List Key × V)), σ = [some (.str (S ls)), some (.str (S w)), some (.str wy), some (.int (w.length : Nat)), some (.ref d), some (.int (pc : Int)), none, none, none, none, none, b11] ∧ Ml d H5 H' ∧ H' d = some (.dT kvs) ∧ kvs.length ≤ pc * ls.length + j ∧ (∀ p c, p < pc → c ∈ ls → Ent ls.length w.length 1 H' kvs p c) ∧ ∀ c ∈ ls.take j, Ent ls.length w.length 1 H' kvs pc c)
      ⟨b11, kvs, rfl, M7, hd7, by omega, hen, fun c h => by simp at h⟩ (fun _ _ _ _ _ => trivial) ?_ ?_
    · rintro j c σ H8 hj ⟨b11, kvs, rfl, M8, hd8, hkl, hen, hen2⟩
      have hjl := (List.getElem?_eq_some_iff.mp hj).1
      have hpl3 : pc * ls.length ≤ 5 * 3 := Nat.mul_le_mul (by omega) l3
      walk_at "ws"
      refine ⟨w, wy, c, pc, rfl, by omega, hil, fun r H9 e9 hr1 hr2 => ?_⟩
      walk_at "ws"
      intro p3 H11 n11 e11 h11
      walk_at "ws"
      intro p4 H12 n12 e12 h12
      have E12 : Ex H8 H12 := (by walk_at "ex")
      refine w_dputT (ke := uk pc c) (kvs := kvs) (E12 _ _ hd8) h12 (by omega) fun H13 m13 h13 => ?_
      have u13 : ExT H8 H13 := (Ex.t E12).trans (ml_t m13 (E12 _ _ hd8) (fun _ z => nomatch z))
      have u12 : ExT H12 H13 := ml_t m13 (E12 _ _ hd8) (fun _ z => nomatch z)
      have hT : TrAt ls.length H13 (.go r 0) (.ref p3) := ⟨p3, rfl, u12 _ _ (e12 _ _ h11)⟩
      have hO : OkT ls.length w.length 1 (.go r 0) 3 := ⟨by omega, hr1, by omega, by omega⟩
      have hZ : sz ls.length (.go r 0) ≤ 4 := by simp [sz]
      walk_at "ws"
      refine got ⟨_, _, rfl, ml_tr (ml_ex M8 E12) m13, h13, Nat.le_trans (put_lenT _ _ _) (by omega), fun p c' hp hc' => ((hen p c' hp hc').up u13).put hT hO hZ, fun c' hc' => ?_⟩
      rw [List.take_succ, hj] at hc'
      rcases List.mem_append.mp hc' with hc' | hc'
      · exact ((hen2 c' hc').up u13).put hT hO hZ
      · have : c' = c := by simpa using hc'
        subst this
        exact Ent.new hT hO hZ
    · rintro σ H8 ⟨b11, kvs, rfl, M8, hd8, hkl, hen, hen2⟩
      refine got ⟨_, _, kvs, rfl, M8, hd8, by rw [Nat.succ_mul]; exact hkl, fun p c hp hc => ?_⟩
      by_cases z : p < pc
      · exact hen p c z hc
      · have : p = pc := by omega
        subst this
        rw [List.take_length] at hen2
        exact hen2 c hc
  · rintro σ H7 ⟨b5, b11, kvs, rfl, M7, hd7, hkl, hen⟩
    rw [List.length_range] at hen
    have E7 : Ex H H7 := ml_new n5 e5 M7
    walk_at "ws"
    refine ⟨w, rfl, by omega, fun b H8 B n8 e8 hb hB => ?_⟩
    obtain ⟨bd, hbd, hbdl⟩ : ∃ bd : Nat, B[w.length]? = some (bd : Int) ∧ bd < w.length := by
      have hl := hB.len
      have hx : B[w.length]? = some (B[w.length]'(by omega)) := by simp [hl]
      obtain ⟨a1, a2, a3⟩ := hB.at_ _ _ hx
      have a3 := a3 h1'
      refine ⟨(B[w.length]'(by omega)).toNat, ?_, by omega⟩
      rw [hx]
      congr 1
      omega
    have hbv : (B.map V.int)[w.length]? = some (.int (bd : Int)) := by rw [List.getElem?_map, hbd]; rfl
    have hc : (w.length : Int) - (bd : Int) = ((w.length - bd : Nat) : Int) := by omega
    walk_at "ws"
    refine w_ixL (n := w.length) (Evl.sq_of hb) hbv ?_
    ((repeat ((fail_if_success (with_reducible intro _)); (fail_if_success (with_reducible apply w_sq)); walk1)); with_reducible apply w_sq)
    have E8 : Ex H H8 := ex_tr e8 E7
    -- behind is_known
    refine w_cut (fun σ' H' => ∃ kb : Bool, σ' = [some (.str (S ls)), some (.str (S w)), some (.str wy), some (.int (w.length : Nat)), some (.ref d), b5, some (.int (bd : Int)), some (.bl kb), none, none, none, b11] ∧ H' = H8) ?_ (fun N hN => ?_)
    · rintro σ' H9 ⟨kb, rfl, rfl⟩
      obtain ⟨n, hn1, hn2, hn⟩ : ∃ n : Nat, 1 ≤ n ∧ n ≤ 2 ∧ ((if kb then (1 : Int) else 0) = ((n - 1 : Nat) : Int)) := by
        cases kb
        · exact ⟨1, by omega, by omega, rfl⟩
        · exact ⟨2, by omega, by omega, rfl⟩
      -- the rest, from like on
      with_reducible apply w_sq
      refine w_cut (fun σ' H' => ∃ vl lt, σ' = [some (.str (S ls)), some (.str (S w)), some (.str wy), some (.int (w.length : Nat)), some (.ref d), b5, some (.int (bd : Int)), some (.bl kb), some vl, none, none, b11] ∧ Ex H9 H' ∧ TrAt ls.length H' lt vl ∧ OkT ls.length w.length n lt 3 ∧ sz ls.length lt ≤ 4) ?_ (fun N hN => ?_)
      · rintro σ' H10 ⟨vl, lt, rfl, e10, hlt, hlo, hlz⟩
        have hd10 : H10 d = some (.dT kvs) := e10 _ _ (e8 _ _ hd7)
        walk_at "ws"
        refine w_revL ?_
        walk_at "ws"
        refine w_lstRg1 ?_
        walk_at "ws"
        refine w_rg1v (by omega) fun pr H11 n11 e11 h11 => ?_
        refine w_rvv (Evl.sq_of h11) fun pv H12 n12 e12 h12 => ?_
        rw [← List.map_reverse] at h12
        have E12 : Ex H7 H12 := ex_tr e12 (ex_tr e11 (ex_tr e10 e8))
        have hPl : (List.range w.length).reverse.length = w.length := by simp
        walk_at "ws"
        refine ⟨ls, w, pv, d, vl, lt, (List.range w.length).reverse, kvs, n, rfl, hls, by omega, h12, fun p hp => List.mem_range.mp (List.mem_reverse.mp hp), by omega, e12 _ _ (e11 _ _ hd10), fun p c hp hc => ((hen p c hp hc).nm hn1).up (Ex.t E12), (hlt.up (Ex.t e11)).up (Ex.t e12), hlo, fun v t H13 e13 hT hO hZ => ?_⟩
        have hG : GoodT ls.length w.length n H13 v := ⟨t, hT, hO.up (by omega), by omega⟩
        walk_at "ws"
        intro l H14 n14 e14 h14
        have hG14 := hG.up (Ex.t e14)
        have E14 : Ex H12 H14 := ex_tr e14 e13
        have F14 : Ex H H14 := ex_tr E14 (ex_tr E12 E7)
        walk_at "ws"
        cases kb with
        | false =>
          have hn1' : n = 1 := by
            simp at hn
            omega
          subst hn1'
          walk_at "ws"
          obtain ⟨L, hL1, hL2, hL3⟩ := st_of (ls := ls) (m := w.length) (n := 1) (H := H14) (ys := [v]) rfl (Nat.le_refl _) (by omega) fun i y hy => by
            have := (List.getElem?_eq_some_iff.mp hy).1
            have hi0 : i = 0 := by simpa using this
            subst hi0
            cases hy
            exact hG14
          exact q l H14 L F14 (by rw [hL1]; exact h14) hL2 hL3
        | true =>
          have hn2' : n = 2 := by
            simp at hn
            omega
          subst hn2'
          have h12' := E14 _ _ h12
          walk_at "ws"
          refine w_slL (Evl.sq_of h12') fun ps H15 n15 e15 h15 => ?_
          rw [cutV_take hc, ← List.map_take] at h15
          have E15 : Ex H12 H15 := ex_tr e15 E14
          walk_at "ws"
          refine ⟨ls, w, ps, d, vl, lt, (List.range w.length).reverse.take (w.length - bd), kvs, 2, rfl, hls, by omega, h15, fun p hp => List.mem_range.mp (List.mem_reverse.mp (List.mem_of_mem_take hp)), by simp; omega, E15 _ _ (e12 _ _ (e11 _ _ hd10)), fun p c hp hc => ((hen p c hp hc).nm hn1).up (Ex.t (ex_tr E15 E12)), ((hlt.up (Ex.t e11)).up (Ex.t e12)).up (Ex.t E15), hlo, fun v2 t2 H16 e16 hT2 hO2 hZ2 => ?_⟩
          have hPl2 : ((List.range w.length).reverse.take (w.length - bd)).length ≤ 5 := by simp; omega
          have hG2 : GoodT ls.length w.length 2 H16 v2 := ⟨t2, hT2, hO2.up (by omega), by omega⟩
          have h16 : H16 l = some (.lst [v]) := e16 _ _ (e15 _ _ h14)
          walk_at "ws"
          refine w_append (xs := [v]) h16 (by simp) fun H17 m17 h17 => ?_
          have u17 : ExT H16 H17 := ml_t m17 h16 (fun _ z => nomatch z)
          have nl : H l = none := nn_back (ex_tr e13 (ex_tr E12 E7)) n14
          walk_at "ws"
          obtain ⟨L, hL1, hL2, hL3⟩ := st_of (ls := ls) (m := w.length) (n := 2) (H := H17) (ys := [v, v2]) rfl (by omega) (by omega) fun i y hy => by
            have := (List.getElem?_eq_some_iff.mp hy).1
            have hi0 : i = 0 ∨ i = 1 := by simp at this; omega
            rcases hi0 with rfl | rfl
            · cases hy
              exact (hG14.up (Ex.t (ex_tr e16 e15))).up u17
            · cases hy
              exact hG2.up u17
          exact q l H17 L (ml_new nl (ex_tr e16 (ex_tr e15 F14)) m17) (by rw [hL1]; exact h17) hL2 hL3
      · walk_at "ws"
        refine if_c (fun hb => ?_) (fun hb => ?_)
        · walk_at "ws"
          rw [hn]
          intro tg H10 n10 e10 h10
          walk_at "ws"
          intro tl H11 n11 e11 h11
          walk_at "ws"
          exact hN _ _ ⟨_, .tell 0 (.go 1 (n - 1)), rfl, ex_tr e11 e10, ⟨tl, .ref tg, rfl, h11, tg, rfl, e11 _ _ h10⟩, ⟨2, rfl, by omega, by omega, by omega, by omega, by omega⟩, by simp [sz]⟩
        · walk_at "ws"
          rw [hn, hc]
          intro tg H10 n10 e10 h10
          walk_at "ws"
          intro tl H11 n11 e11 h11
          walk_at "ws"
          exact hN _ _ ⟨_, .tell 0 (.go (w.length - bd) (n - 1)), rfl, ex_tr e11 e10, ⟨tl, .ref tg, rfl, h11, tg, rfl, e11 _ _ h10⟩, ⟨2, rfl, by omega, by omega, by omega, by omega, by omega⟩, by simp [sz]⟩
    · walk_at "ws"
      refine if_c (fun hb => ?_) (fun hb => ?_)
      · walk_at "ws"
        exact hN _ _ ⟨_, rfl, rfl⟩
      · walk_at "ws"
        exact hN _ _ ⟨_, rfl, rfl⟩
abbrev wFL : List V := [.str "borders", .str "strict borders", .str "by letters"]
abbrev wBO : List V := [.str "plain", .str "last letter", .str "letter behind"]
abbrev wFR : List V := [.str "bad letter", .str "good end", .str "both", .str "both and known"]
structure WayOk (wy : Str) : Prop where
  all : inV (.str wy) (wFL ++ wBO ++ wFR ++ [.str "all knowledge"]) = true
  some : (inV (.str wy) wFL || inV (.str wy) wBO || inV (.str wy) wFR) = true
theorem w_inT {H : Hp} {p : Addr} {xs : List V} {x : V} {neg : Bool} {Q : VK} (h : SqT K H p xs) (fx : flatV x = true) (fs : xs.all flatV = true) (q : Q (.bl (if neg then !inV x xs else inV x xs)) H) : rIn K neg x (.ref p) H Q := ⟨p, xs, rfl, .inr h, fx, fs, q⟩
def sp_made (K : PySem.W.Frag) : Sp := fun vs H Q E => ∃ ls w wy, vs = [.str (S ls), .str (S w), .str wy] ∧ LsOk ls ∧ 1 ≤ w.length ∧ w.length ≤ 5 ∧ (∀ c ∈ w, c ∈ ls) ∧ WayOk wy ∧ ∀ x H' s, Ex H H' → SrAt K H' x s → s.ls = ls → Q (.ref x) H'
theorem rd_made (T : Tx K mg) : ∀ vs H Q E, sp_made K vs H Q E → t_made K (sp_check_words K) (sp_from_left K) (sp_by_one_letter K) (sp_from_right K) (sp_Searcher_init K) { nx := fun _ H' => Q .non H', rt := Q } (start N_made vs) H := by
  intro vs H Q E ⟨ls, w, wy, hv, hls, h1', h5', hin, hwy, q⟩
  subst hv
  show t_made K (sp_check_words K) (sp_from_left K) (sp_by_one_letter K) (sp_from_right K) (sp_Searcher_init K) { nx := fun _ H' => Q .non H', rt := Q } [some (.str (S ls)), some (.str (S w)), some (.str wy), none] H
  unfold t_made
  walk_at "ws"
  intro l1 H1 n1 e1 h1
  walk_at "ws"
  refine ⟨ls, w, l1, rfl, hls, h1, h1', by omega, hin, fun H2 e2 => ?_⟩
  walk_at "ws"
  refine w_catT (T.q_FROM_LEFT _) (T.q_BY_ONE_STATE _) (by simp) (by simp) (by simp) fun p3 H3 n3 e3 h3 => ?_
  walk_at "ws"
  refine w_catT (Evl.st_of h3) (T.q_FROM_RIGHT _) (by simp) (by simp) (by simp) fun p4 H4 n4 e4 h4 => ?_
  walk_at "ws"
  intro p5 H5 n5 e5 h5
  refine w_catT (Evl.st_of (e5 _ _ h4)) (Evl.st_of h5) (by simp) (by simp) (by simp) fun p6 H6 n6 e6 h6 => ?_
  have E6 : Ex H H6 := (by walk_at "ex")
  refine w_inT (xs := wFL ++ wBO ++ wFR ++ [.str "all knowledge"]) (Evl.st_of h6) rfl rfl ?_
  rw [hwy.all]
  walk1
  refine if_f rfl ?_
  ((repeat ((fail_if_success (with_reducible intro _)); (fail_if_success (with_reducible apply w_sq)); walk1)); with_reducible apply w_sq)
  refine w_cut (fun σ' H' => ∃ (l : Addr) (L : List (V × Tr)), σ' = [some (.str (S ls)), some (.str (S w)), some (.str wy), some (.ref l)] ∧ Ex H H' ∧ H' l = some (.lst (L.map Prod.fst)) ∧ TrsAt ls.length H' L ∧ StsOk ls w.length L.length (L.map Prod.snd)) ?_ (fun N hN => ?_)
  · rintro σ' H7 ⟨l, L, rfl, E7, hl, hL, hst⟩
    have hl5 : L.length ≤ 5 := by have := hst.n5; simpa using this
    have hlen : (L.map Prod.fst).length = L.length := by simp
    walk_at "ws"
    refine w_mkv fun x dx H8 nx e8 h8 => ⟨x, dx, ls, w.length, l, L, rfl, h8, hls, h1', h5', e8 _ _ hl, hL.up (Ex.t e8), hst, fun H9 m9 hS => ⟨rfl, q x H9 _ ?_ hS rfl⟩⟩
    exact ml_new (nn_back E7 nx) (ex_tr e8 E7) m9
  · have hso := hwy.some
    walk_at "ws"
    refine w_inT (T.q_FROM_LEFT _) rfl rfl ?_
    walk_at "ws"
    refine if_c (fun hb => ?_) (fun hb => ?_)
    · walk_at "ws"
      exact ⟨ls, w, wy, rfl, hls, h1', h5', fun l H7 L e7 hl hL hst => hN _ _ ⟨l, L, rfl, ex_tr e7 E6, hl, hL, hst⟩⟩
    · have hb : inV (.str wy) wFL = false := hb
      walk_at "ws"
      refine w_inT (T.q_BY_ONE_STATE _) rfl rfl ?_
      walk_at "ws"
      refine if_c (fun hb2 => ?_) (fun hb2 => ?_)
      · walk_at "ws"
        exact ⟨ls, w, wy, rfl, hls, h1', h5', fun l H7 L e7 hl hL hst => hN _ _ ⟨l, L, rfl, ex_tr e7 E6, hl, hL, hst⟩⟩
      · have hb2 : inV (.str wy) wBO = false := hb2
        walk_at "ws"
        refine w_inT (T.q_FROM_RIGHT _) rfl rfl ?_
        walk_at "ws"
        refine if_c (fun hb3 => ?_) (fun hb3 => ?_)
        · walk_at "ws"
          exact ⟨ls, w, wy, rfl, hls, h1', h5', fun l H7 L e7 hl hL hst => hN _ _ ⟨l, L, rfl, ex_tr e7 E6, hl, hL, hst⟩⟩
        · have hb3 : inV (.str wy) wFR = false := hb3
          rw [hb, hb2, hb3] at hso
          cases hso
end
section
variable {K : PySem.W.Frag} {mg : Str → Option Value}
def sp_law_word (K : PySem.W.Frag) : Sp := fun vs H Q E => ∃ pn pc n ls, ∃ sz : Nat, vs = [.ref pn, .str (S ls), .int (sz : Int)] ∧ PenAt H pn pc n ∧ n < 900000 ∧ ls ≠ [] ∧ ls.length ≤ 1000 ∧ sz ≤ 5 ∧
  ∀ (l : List Nat) H', l.length = sz → (∀ c ∈ l, c ∈ ls) → Ml pn H H' → PenAt H' pn pc (n + 2 * sz) → Q (.str (S l)) H'
theorem rd_law_word (T : Tx K mg) : ∀ vs H Q E, sp_law_word K vs H Q E → t_law_word K (sp_law_draw K) (sp_law_pick K) { nx := fun _ H' => Q .non H', rt := Q } (start N_law_word vs) H := by
  intro vs H Q E ⟨pn, pc, n, ls, sz, hv, hp, hn, hne, hl, hsz, q⟩
  subst hv
  show t_law_word K (sp_law_draw K) (sp_law_pick K) { nx := fun _ H' => Q .non H', rt := Q } [some (.ref pn), some (.str (S ls)), some (.int sz), none] H
  have hpos : 0 < ls.length := List.length_pos_iff.mpr hne
  unfold t_law_word
  rw [nil_S]
  walk_at "ws"
  refine lcG (wl_rng0 (n := sz)) (by walk_at "wp") (by simp; omega) (fun i acc H' => Ml pn H H' ∧ PenAt H' pn pc (n + 2 * i) ∧ ∃ l : List Nat, acc = l.map (fun c => V.str (S [c])) ∧ l.length = i ∧ ∀ c ∈ l, c ∈ ls) (fun D hD => ⟨ex_ml0 (Evl.Ex.new hD), hp.up (Evl.Ex.new hD), [], rfl, rfl, fun c h => nomatch h⟩) (fun D i acc H' ys ys' hD ⟨m, p, r⟩ hl' => ⟨fun b o hb ho => by rw [upd_ne (ne_new ho hD)]; exact m b o hb ho, p.ml ml_upd (hp.ne hD).1 (hp.ne hD).2, r⟩) (fun _ _ _ _ => trivial) ?_ ?_
  · rintro D i c acc H1 hD hi ⟨m1, p1, l, rfl, hll, hls⟩ hD1 EE N hE hN
    have hil := (List.getElem?_eq_some_iff.mp hi).1
    rw [List.length_range] at hil
    have nD := hp.ne hD
    walk_at "ws"
    refine ⟨pn, pc, n + 2 * i, 3, rfl, p1, by omega, by omega, by omega, fun r H2 m2 p2 hr => ?_⟩
    have hD2 := m2 _ _ (fun z => nD.1 z.symm) hD1
    walk_at "ws"
    refine if_c (fun hb => ?_) (fun hb => ?_)
    · walk_at "ws"
      refine w_ixSI (n := 0) rfl (by omega) (c := ls[0]'hpos) (by simp) ?_
      refine hE _ _ hD2 ⟨ml_tr m1 m2, p2.le (by omega), l ++ [ls[0]'hpos], by simp, by simp [hll], fun c hc => ?_⟩
      rcases List.mem_append.mp hc with hc | hc
      · exact hls c hc
      · rw [List.mem_singleton.mp hc]; exact List.getElem_mem _
    · walk_at "ws"
      refine ⟨pn, pc, n + 2 * i + 1, .str (S ls), rfl, p2, by omega, .inl ⟨ls, rfl, hne, hl, fun c H3 hc m3 p3 => ?_⟩⟩
      have hD3 := m3 _ _ (fun z => nD.1 z.symm) hD2
      refine hE _ _ hD3 ⟨ml_tr (ml_tr m1 m2) m3, p3.le (by omega), l ++ [c], by simp, by simp [hll], fun c' hc' => ?_⟩
      rcases List.mem_append.mp hc' with hc' | hc'
      · exact hls c' hc'
      · rw [List.mem_singleton.mp hc']; exact hc
  · rintro D acc H1 hD ⟨m1, p1, l, rfl, hll, hls⟩ hD1
    rw [List.length_range] at hll p1
    walk_at "ws"
    refine w_joinL (l := l) rfl (Evl.sq_of hD1) (by omega) ?_
    exact q l H1 hll hls m1 p1
def sp_law_ways (K : PySem.W.Frag) : Sp := fun vs H Q E => vs = [] ∧ ∀ l H', H l = none → Ex H H' → H' l = some (.lst [.str "plain", .str "borders", .str "strict borders", .str "by letters", .str "last letter", .str "letter behind", .str "bad letter", .str "good end", .str "both", .str "both and known", .str "all knowledge"]) → Q (.ref l) H'
theorem rd_law_ways (T : Tx K mg) : ∀ vs H Q E, sp_law_ways K vs H Q E → t_law_ways K { nx := fun _ H' => Q .non H', rt := Q } (start N_law_ways vs) H := by
  intro vs H Q E ⟨hv, q⟩
  subst hv
  show t_law_ways K { nx := fun _ H' => Q .non H', rt := Q } [none] H
  unfold t_law_ways
  walk_at "ws"
  intro l1 H1 n1 e1 h1
  walk_at "ws"
  intro l2 H2 n2 e2 h2
  refine w_cat (e2 _ _ h1) h2 (by simp) fun l3 H3 n3 e3 h3 => ?_
  exact q l3 H3 (nn_back e1 (nn_back e2 n3)) (ex_tr e3 (ex_tr e2 e1)) h3
end
section
variable {K : PySem.W.Frag} {mg : Str → Option Value}
theorem sum_mono {f g : Nat → Nat} : ∀ l : List Nat, (∀ i ∈ l, f i ≤ g i) → (l.map f).sum ≤ (l.map g).sum
  | [], _ => Nat.le_refl _
  | c :: l, h => by
    have h1 := h c (by simp)
    have h2 := sum_mono l fun i hi => h i (by simp [hi])
    simp only [List.map_cons, List.sum_cons]
    omega
def sp_law_bent_tree (K : PySem.W.Frag) (d : Nat) : Sp := fun vs H Q E => ∃ pn pc nn k m n v t d', vs = [.ref pn, v, .int (m : Nat), .int (n : Nat)] ∧ PenAt H pn pc nn ∧ nn + 3 * d' < 900000 ∧ TrAt k H t v ∧ OkT k m n t d' ∧ d' ≤ d ∧ 1 ≤ k ∧ k ≤ 1000 ∧ 1 ≤ n ∧ n ≤ 1000 ∧ m ≤ 1000 ∧
  ∀ v' t' H', Ml pn H H' → PenAt H' pn pc (nn + 3 * d') → TrAt k H' t' v' → OkT k m n t' d' → sz k t' ≤ sz k t → Q v' H'
theorem rd_law_bent_tree (T : Tx K mg) (d : Nat) : ∀ vs H Q E, sp_law_bent_tree K (d + 1) vs H Q E → t_law_bent_tree K (sp_law_draw K) (sp_law_bent_tree K d) { nx := fun _ H' => Q .non H', rt := Q } (start N_law_bent_tree vs) H := by
  intro vs H Q E ⟨pn, pc, nn, k, m, n, v, t, d', hv, hp, hnn, hT, hok, hd, hk1, hk1000, hn1, hn1000, hm1000, q⟩
  subst hv
  show t_law_bent_tree K (sp_law_draw K) (sp_law_bent_tree K d) { nx := fun _ H' => Q .non H', rt := Q } [some (.ref pn), some v, some (.int m), some (.int n), none, none] H
  have hpos := hok.pos
  have upT : ∀ {H' : Hp}, Ml pn H H' → ExT H H' := fun {H'} mm => by
    obtain ⟨a, r, cs, h1, _⟩ := hp
    exact ml_t mm h1 (fun _ z => nomatch z)
  unfold t_law_bent_tree
  cases t with
  | go s q0 =>
    obtain ⟨a, rfl, ha⟩ := hT
    obtain ⟨o1, o2, o3, o4⟩ := hok
    walk_at "ws"
    refine ⟨pn, pc, nn, 3, rfl, hp, by omega, by omega, by omega, fun r H1 m1 p1 hr => ?_⟩
    have ha1 := upT m1 _ _ ha
    walk_at "ws"
    refine if_c (fun hb => ?_) (fun hb => ?_)
    · walk_at "ws"
      refine ⟨pn, pc, nn + 1, n, rfl, p1, by omega, by omega, by omega, fun r2 H2 m2 p2 hr2 => ?_⟩
      walk_at "ws"
      intro p H3 n3 e3 h3
      exact q _ (.go s r2) H3 (ml_ex (ml_tr m1 m2) e3) ((p2.up e3).le (by omega)) ⟨p, rfl, h3⟩ ⟨o1, o2, o3, hr2⟩ (by simp [sz])
    · have hc : (m : Int) + 1 = ((m + 1 : Nat) : Int) := by omega
      walk_at "ws"
      rw [hc]
      refine ⟨pn, pc, nn + 1, m + 1, rfl, p1, by omega, by omega, by omega, fun r2 H2 m2 p2 hr2 => ?_⟩
      have ha2 := upT (ml_tr m1 m2) _ _ ha
      have hc2 : (1 : Int) + (r2 : Int) = ((1 + r2 : Nat) : Int) := by omega
      walk_at "ws"
      rw [hc2]
      intro p H3 n3 e3 h3
      exact q _ (.go (1 + r2) q0) H3 (ml_ex (ml_tr m1 m2) e3) ((p2.up e3).le (by omega)) ⟨p, rfl, h3⟩ ⟨o1, by omega, by omega, o4⟩ (by simp [sz])
  | tell j t =>
    obtain ⟨a, w, rfl, ha, hw⟩ := hT
    obtain ⟨d1, o1, o2, o3⟩ := hok
    walk_at "ws"
    refine ⟨pn, pc, nn, 4, rfl, hp, by omega, by omega, by omega, fun r H1 m1 p1 hr => ?_⟩
    have ha1 := upT m1 _ _ ha
    walk_at "ws"
    refine if_c (fun hb => ?_) (fun hb => ?_)
    · walk_at "ws"
      exact q w t H1 m1 (p1.le (by omega)) (hw.up (upT m1)) (o3.up (by omega)) (by simp [sz])
    · walk_at "ws"
      refine ⟨pn, pc, nn + 1, k, m, n, w, t, d1, rfl, p1, by omega, hw.up (upT m1), o3, by omega, hk1, hk1000, hn1, hn1000, hm1000, fun v' t' H2 m2 p2 hT2 hO2 hZ2 => ?_⟩
      walk_at "ws"
      intro p H3 n3 e3 h3
      exact q _ (.tell j t') H3 (ml_ex (ml_tr m1 m2) e3) ((p2.up e3).le (by omega)) ⟨p, v', rfl, h3, hT2.up (Ex.t e3)⟩ ⟨d1, o1, o2, hO2⟩ (by simp [sz]; omega)
  | read pl f =>
    obtain ⟨a, c, ws, rfl, ha, hc, hwl, hk⟩ := hT
    obtain ⟨d1, o1, o2, o3⟩ := hok
    walk_at "ws"
    refine ⟨pn, pc, nn, 8, rfl, hp, by omega, by omega, by omega, fun r H1 m1 p1 hr => ?_⟩
    have ha1 := upT m1 _ _ ha
    have hc1 := upT m1 _ _ hc
    walk_at "ws"
    refine if_c (fun hb => ?_) (fun hb => ?_)
    · have hcc : (m : Int) + 1 = ((m + 1 : Nat) : Int) := by omega
      walk_at "ws"
      rw [hcc]
      refine ⟨pn, pc, nn + 1, m + 1, rfl, p1, by omega, by omega, by omega, fun r2 H2 m2 p2 hr2 => ?_⟩
      have ha2 := upT (ml_tr m1 m2) _ _ ha
      walk_at "ws"
      intro p H3 n3 e3 h3
      have u3 : ExT H H3 := (upT (ml_tr m1 m2)).trans (Ex.t e3)
      exact q _ (.read r2 f) H3 (ml_ex (ml_tr m1 m2) e3) ((p2.up e3).le (by omega)) ⟨p, c, ws, rfl, h3, u3 _ _ hc, hwl, fun i w hi hw => (hk i w hi hw).up u3⟩ ⟨d1, o1, by omega, o3⟩ (by simp [sz])
    · walk_at "ws"
      refine w_listT (Evl.st_of hc1) fun tl H2 n2 e2 h2 => ?_
      have M2 : Ml pn H H2 := ml_ex m1 e2
      have p2 := p1.up e2
      have ha2 := e2 _ _ ha1
      have hc2 := e2 _ _ hc1
      walk_at "ws"
      rw [hwl]
      refine ⟨pn, pc, nn + 1, k, rfl, p2, by omega, hk1, by omega, fun at_ H3 m3 p3 hat => ?_⟩
      have M3 : Ml pn H H3 := ml_tr M2 m3
      have ntl := p1.ne n2
      have h3 : H3 tl = some (.lst ws) := m3 _ _ (fun z => ntl.1 z.symm) h2
      have hw : ws[at_]? = some (ws[at_]'(by omega)) := by simp [hwl, hat]
      have ntl0 : H tl = none := by
        cases hh : H tl with
        | none => rfl
        | some o =>
          have := m1 tl o (fun z => ntl.1 z.symm) hh
          rw [this] at n2
          cases n2
      walk_at "ws"
      refine w_ixL (n := at_) (Evl.sq_of h3) hw ?_
      walk_at "ws"
      refine ⟨pn, pc, nn + 2, k, m, n, _, f at_, d1, rfl, p3, by omega, (hk at_ _ hat hw).up (upT M3), o3 at_ hat, by omega, hk1, hk1000, hn1, hn1000, hm1000, fun v' t' H4 m4 p4 hT4 hO4 hZ4 => ?_⟩
      have M4 : Ml pn H H4 := ml_tr M3 m4
      have h4 : H4 tl = some (.lst ws) := m4 _ _ (fun z => ntl.1 z.symm) h3
      walk_at "ws"
      refine w_setL (xs := ws) h4 (by omega) fun H5 m5 h5 => ?_
      have M5 : Ml pn H H5 := fun b o hb ho => m5 _ _ (ne_new ho ntl0) (M4 b o hb ho)
      have p5 := p4.ml m5 ntl.1 ntl.2
      have ha5 := upT M5 _ _ ha
      walk_at "ws"
      refine w_tupL (Evl.sq_of h5) fun tp H6 n6 e6 h6 => ?_
      walk_at "ws"
      intro p H7 n7 e7 h7
      have u57 : ExT H5 H7 := Ex.t (ex_tr e7 e6)
      have u07 : ExT H H7 := (upT M5).trans u57
      have u45 : ExT H4 H5 := ml_t m5 h4 (fun _ z => nomatch z)
      refine q _ (.read pl fun i => if i = at_ then t' else f i) H7 (ml_ex M5 (ex_tr e7 e6)) ((p5.up (ex_tr e7 e6)).le (by omega)) ⟨p, tp, ws.set at_ v', rfl, h7, e7 _ _ h6, by simp [hwl], fun i w hi hw' => ?_⟩ ⟨d1, o1, o2, fun i hi => ?_⟩ ?_
      · show TrAt k H7 (if i = at_ then t' else f i) w
        by_cases z : i = at_
        · subst z
          rw [if_pos rfl]
          rw [List.getElem?_set_self (by omega)] at hw'
          cases hw'
          exact (hT4.up u45).up u57
        · rw [if_neg z]
          rw [List.getElem?_set_ne (fun y => z y.symm)] at hw'
          exact (hk i w hi hw').up u07
      · show OkT k m n (if i = at_ then t' else f i) d1
        by_cases z : i = at_
        · rw [if_pos z]; exact hO4
        · rw [if_neg z]; exact o3 i hi
      · show ((List.range k).map fun i => sz k (if i = at_ then t' else f i)).sum + 1 ≤ ((List.range k).map fun i => sz k (f i)).sum + 1
        refine Nat.succ_le_succ (sum_mono _ fun i _ => ?_)
        by_cases z : i = at_
        · subst z; rw [if_pos rfl]; exact hZ4
        · rw [if_neg z]; exact Nat.le_refl _
def sp_law_bent (K : PySem.W.Frag) : Sp := fun vs H Q E => ∃ pn pc nn a s, vs = [.ref pn, .ref a] ∧ PenAt H pn pc nn ∧ nn < 800000 ∧ SrAt K H a s ∧
  ∀ x H' s', Ml pn H H' → PenAt H' pn pc (nn + 40) → SrAt K H' x s' → s'.ls = s.ls → Q (.ref x) H'
theorem rd_law_bent (T : Tx K mg) : ∀ vs H Q E, sp_law_bent K vs H Q E → t_law_bent K (sp_law_draw K) (sp_law_bent_tree K 44) (sp_Searcher_init K) { nx := fun _ H' => Q .non H', rt := Q } (start N_law_bent vs) H := by
  intro vs H Q E ⟨pn, pc, nn, a, s, hv, hp, hnn, hS, q⟩
  subst hv
  show t_law_bent K (sp_law_draw K) (sp_law_bent_tree K 44) (sp_Searcher_init K) { nx := fun _ H' => Q .non H', rt := Q } [some (.ref pn), some (.ref a), none, none] H
  have upT : ∀ {H' : Hp}, Ml pn H H' → ExT H H' := fun {H'} mm => by
    obtain ⟨a, r, cs, h1, _⟩ := hp
    exact ml_t mm h1 (fun _ z => nomatch z)
  obtain ⟨hok, dS, pS, tot, vS, hSa, hSp, hvl, hvt⟩ := id hS
  have hls : LsOk s.ls := ⟨hok.k2, hok.k4, hok.nd, hok.small⟩
  have han : a ≠ pn := by
    obtain ⟨x, r, cs, h1, _⟩ := hp
    exact ne_kind hSa h1 (fun z => nomatch z)
  have n1 := hok.n1
  have n5 := hok.n5
  have m8 := hok.m8
  have k2 := hok.k2
  have k4 := hok.k4
  unfold t_law_bent
  walk_at "ws"
  refine w_listT (Evl.st_of hSp) fun tl H1 nl1 e1 h1 => ?_
  have ha1 := e1 _ _ hSa
  have hp1 := e1 _ _ hSp
  have P1 := hp.up e1
  have ntl := hp.ne nl1
  walk_at "ws"
  rw [hvl]
  refine ⟨pn, pc, nn, s.ts.length, rfl, P1, by omega, by omega, by omega, fun at_ H2 m2 p2 hat => ?_⟩
  have M2 : Ml pn H H2 := ex_ml e1 m2
  have ha2 := M2 _ _ han hSa
  have h2 : H2 tl = some (.lst vS) := m2 _ _ (fun z => ntl.1 z.symm) h1
  obtain ⟨w0, hw⟩ : ∃ w0, vS[at_]? = some w0 := ⟨vS[at_]'(by omega), by simp [hvl, hat]⟩
  have ht : s.ts[at_]? = some s.ts[at_] := by simp [hat]
  have hlen : vS.length = s.ts.length := hvl
  walk_at "ws"
  refine w_ixL (n := at_) (Evl.sq_of h2) hw ?_
  walk_at "ws"
  rw [hlen]
  refine ⟨pn, pc, nn + 1, s.ls.length, s.m, s.ts.length, _, s.ts[at_], 12, rfl, p2, by omega, (hvt at_ _ _ hw ht).up (upT M2), hok.ok _ (List.getElem_mem hat), by omega, by omega, by omega, n1, by omega, by omega, fun v' t' H3 m3 p3 hT3 hO3 hZ3 => ?_⟩
  have M3 : Ml pn H H3 := ml_tr M2 m3
  have h3 : H3 tl = some (.lst vS) := m3 _ _ (fun z => ntl.1 z.symm) h2
  walk_at "ws"
  refine w_setL (xs := vS) h3 (by omega) fun H4 m4 h4 => ?_
  have M4 : Ml pn H H4 := fun b o hb ho => m4 _ _ (ne_new ho nl1) (M3 b o hb ho)
  have p4 := p3.ml m4 ntl.1 ntl.2
  have ha4 := M4 _ _ han hSa
  have u34 : ExT H3 H4 := ml_t m4 h3 (fun _ z => nomatch z)
  have hz : (vS.set at_ v').length = (s.ts.set at_ t').length := by simp [hvl]
  have hT4 : TrsAt s.ls.length H4 ((vS.set at_ v').zip (s.ts.set at_ t')) := fun x hx => by
    obtain ⟨i, hi, rfl⟩ := List.getElem_of_mem hx
    rw [List.getElem_zip]
    simp only [List.length_zip, List.length_set] at hi
    simp only [List.getElem_set]
    by_cases z : at_ = i
    · rw [if_pos z, if_pos z]
      exact hT3.up u34
    · rw [if_neg z, if_neg z]
      exact (hvt i _ _ (by simp [show i < vS.length by omega]) (by simp [show i < s.ts.length by omega])).up (upT M4)
  have hst : StsOk s.ls s.m ((vS.set at_ v').zip (s.ts.set at_ t')).length (((vS.set at_ v').zip (s.ts.set at_ t')).map Prod.snd) := by
    rw [zip_snd hz]
    have hl' : ((vS.set at_ v').zip (s.ts.set at_ t')).length = s.ts.length := by simp [hvl]
    rw [hl']
    refine ⟨by simpa using n1, by simpa using n5, by simp, fun t h => ?_, fun t h => ?_⟩
    · rcases List.mem_or_eq_of_mem_set h with h | h
      · exact hok.ok t h
      · rw [h]; exact hO3
    · rcases List.mem_or_eq_of_mem_set h with h | h
      · exact hok.sz t h
      · rw [h]; exact Nat.le_trans hZ3 (hok.sz _ (List.getElem_mem hat))
  walk_at "ws"
  refine w_mkv fun x dx H5 nx e5 h5 => ⟨x, dx, s.ls, s.m, tl, (vS.set at_ v').zip (s.ts.set at_ t'), rfl, h5, hls, hok.m1, hok.m8, by rw [zip_fst hz]; exact e5 _ _ h4, hT4.up (Ex.t e5), hst, fun H6 m6 hS6 => ⟨rfl, q x H6 _ ?_ ?_ hS6 rfl⟩⟩
  · have E6 : Ex H4 H6 := ml_new nx e5 m6
    exact ml_ex M4 E6
  · have E6 : Ex H4 H6 := ml_new nx e5 m6
    exact (p4.up E6).le (by omega)
end
section
variable {K : PySem.W.Frag} {mg : Str → Option Value}
/-- the one is the other, or both are long -/
def TE (a b : List Nat) : Prop := a = b ∨ (4001 ≤ a.length ∧ 4001 ≤ b.length)
theorem TE.app {a b c d : List Nat} (h : TE a b) (h' : TE c d) : TE (a ++ c) (b ++ d) := by
  rcases h with rfl | ⟨h1, h2⟩
  · rcases h' with rfl | ⟨h3, h4⟩
    · exact .inl rfl
    · exact .inr ⟨by simp; omega, by simp; omega⟩
  · exact .inr ⟨by simp; omega, by simp; omega⟩
theorem TE.rep {a b : List Nat} {n : Nat} (hn : 1 ≤ n) (h : TE a b) : TE (repS a n) (repS b n) := by
  rcases h with rfl | ⟨h1, h2⟩
  · exact .inl rfl
  · refine .inr ⟨?_, ?_⟩
    · rw [repS_length]; exact Nat.le_trans h1 (Nat.le_mul_of_pos_left _ hn)
    · rw [repS_length]; exact Nat.le_trans h2 (Nat.le_mul_of_pos_left _ hn)
theorem TE.take {a b : List Nat} (h : TE a b) : TE (a.take 4001) b := by
  rcases h with rfl | ⟨h1, h2⟩
  · by_cases z : a.length ≤ 4001
    · exact .inl (List.take_of_length_le z)
    · exact .inr ⟨by simp; omega, by omega⟩
  · exact .inr ⟨by simp; omega, h2⟩
structure TvAt (tvs : List (Key × V)) (U : List (List Nat)) : Prop where
  ks : tvs.map (·.1) = (List.range U.length).map nk
  at_ : ∀ (j : Nat) u, U[j]? = some u → ∃ t', valV tvs (nk j) = some (.str (S t')) ∧ TE t' u ∧ t'.length ≤ 4001
theorem val_new {kvs : List (Key × V)} {n i : Nat} (ks : kvs.map (·.1) = (List.range n).map nk) (hn : n ≤ i) (hi : i < 6) : valV kvs (nk i) = none := by
  cases h : valV kvs (nk i) with
  | none => rfl
  | some v =>
    have h1 := valV_in h
    rw [ks] at h1
    obtain ⟨j, hj, e⟩ := List.mem_map.mp h1
    have hj := List.mem_range.mp hj
    have := nm_inj j (by omega) i hi (S_inj.mp (Sum.inr.inj e))
    omega
theorem val_word {kvs : List (Key × V)} {n : Nat} (ks : kvs.map (·.1) = (List.range n).map nk) (hn : n ≤ 6) {w : List Nat} (hw : PtN (.w w)) : valV kvs (.inr (S w)) = none := by
  cases h : valV kvs (.inr (S w)) with
  | none => rfl
  | some v =>
    have h1 := valV_in h
    rw [ks] at h1
    obtain ⟨j, hj, e⟩ := List.mem_map.mp h1
    have hj := List.mem_range.mp hj
    have e := S_inj.mp (Sum.inr.inj e)
    obtain ⟨a, b, c⟩ := hw
    cases w with
    | nil => simp at a
    | cons x w =>
      have h2 := nm_cap j (by omega) x (by rw [e]; simp)
      have h3 := c x (by simp)
      omega
theorem KvAt.snoc {H : Hp} {kvs : List (Key × V)} {R : List Rule} {l : Addr} {r : Rule} (h : KvAt H kvs R) (hr : RuAt H l r) (hn : valV kvs (nk R.length) = none) : KvAt H (putK kvs (nk R.length) (.ref l)) (R ++ [r]) := by
  refine ⟨?_, fun i r' hi => ?_⟩
  · rw [putK_new _ hn, List.map_append, h.ks, List.length_append, List.length_cons, List.length_nil, List.range_succ, List.map_append]
    rfl
  · rw [valV_put]
    by_cases hlt : i < R.length
    · rw [List.getElem?_append_left hlt] at hi
      obtain ⟨l', h1, h2⟩ := h.at_ i r' hi
      by_cases z : nk i = nk R.length
      · rw [z] at h1
        rw [hn] at h1
        cases h1
      · exact ⟨l', by rw [if_neg z]; exact h1, h2⟩
    · rw [List.getElem?_append_right (by omega)] at hi
      have hz := (List.getElem?_eq_some_iff.mp hi).1
      simp at hz
      rw [show i - R.length = 0 by omega] at hi
      have e : i = R.length := by omega
      subst e
      simp at hi
      subst hi
      exact ⟨l, by rw [if_pos rfl], hr⟩
theorem TvAt.snoc {tvs : List (Key × V)} {U : List (List Nat)} {t u : List Nat} (h : TvAt tvs U) (ht : TE t u) (hl : t.length ≤ 4001) (hn : valV tvs (nk U.length) = none) : TvAt (putK tvs (nk U.length) (.str (S t))) (U ++ [u]) := by
  refine ⟨?_, fun i r' hi => ?_⟩
  · rw [putK_new _ hn, List.map_append, h.ks, List.length_append, List.length_cons, List.length_nil, List.range_succ, List.map_append]
    rfl
  · rw [valV_put]
    by_cases hlt : i < U.length
    · rw [List.getElem?_append_left hlt] at hi
      obtain ⟨l', h1, h2⟩ := h.at_ i r' hi
      by_cases z : nk i = nk U.length
      · rw [z] at h1
        rw [hn] at h1
        cases h1
      · exact ⟨l', by rw [if_neg z]; exact h1, h2⟩
    · rw [List.getElem?_append_right (by omega)] at hi
      have hz := (List.getElem?_eq_some_iff.mp hi).1
      simp at hz
      rw [show i - U.length = 0 by omega] at hi
      have e : i = U.length := by omega
      subst e
      simp at hi
      subst hi
      exact ⟨t, by rw [if_pos rfl], ht, hl⟩
theorem rtx_ext {ls : List Nat} {i : Nat} {U : List (List Nat)} (z : List Nat) (hi : i ≤ U.length) : ∀ r : Rule, (∀ x ∈ r, PtOk ls i x.1) → rtx (U ++ [z]) r = rtx U r
  | [], _ => rfl
  | x :: r, h => by
    have ih := rtx_ext z hi r fun y hy => h y (by simp [hy])
    have hx := h x (by simp)
    have e : ptx (U ++ [z]) x.1 = ptx U x.1 := by
      rcases hxe : x.1 with l | j
      · rfl
      · rw [hxe] at hx
        have hj : j < i := hx
        show (U ++ [z]).getD j [] = U.getD j []
        simp [List.getD_eq_getElem?_getD, List.getElem?_append_left (show j < U.length by omega)]
    unfold rtx at ih ⊢
    rw [List.flatMap_cons, List.flatMap_cons, ih, e]
theorem TxOk.snoc {ls : List Nat} {R : List Rule} {U : List (List Nat)} {r : Rule} (h : TxOk R U) (hR : ∀ (i : Nat) r, R[i]? = some r → RuOk ls i r) (hr : RuOk ls R.length r) : TxOk (R ++ [r]) (U ++ [rtx U r]) := by
  refine ⟨by simp [h.len], fun i r' hi => ?_⟩
  by_cases hlt : i < R.length
  · rw [List.getElem?_append_left hlt] at hi
    rw [List.getElem?_append_left (by rw [h.len]; exact hlt), h.at_ i r' hi, rtx_ext _ (by rw [h.len]; omega : i ≤ U.length) r' fun x hx => ((hR i r' hi).pt x hx).2.2]
  · rw [List.getElem?_append_right (by omega)] at hi
    have hz := (List.getElem?_eq_some_iff.mp hi).1
    simp at hz
    rw [show i - R.length = 0 by omega] at hi
    have e : i = R.length := by omega
    subst e
    simp at hi
    subst hi
    rw [← h.len, List.getElem?_append_right (Nat.le_refl _), rtx_ext _ (Nat.le_refl _) r fun x hx => by rw [h.len]; exact (hr.pt x hx).2.2]
    simp
theorem w_slS9 {l l' : List Nat} {lo hi : Option Int} {H : Hp} {Q : VK} (hl : l.length ≤ 10000000) (e : cut l lo hi = l') (q : Q (.str (S l')) H) : rSlS (.str (S l)) lo hi H Q := ⟨S l, rfl, by rw [S_len]; have : (sizeLine : Nat) = 16777216 := sizeLine_eq; omega, by rw [cutS_S, e]; exact q⟩
theorem nm_S0 : Str.ofString "A" = S (nm 0) := by decide +kernel
theorem nm_S1 : Str.ofString "BC" = S (nm 1) := by decide +kernel
theorem nm_S2 : Str.ofString "D" = S (nm 2) := by decide +kernel
theorem nm_S3 : Str.ofString "EFGHIJKL" = S (nm 3) := by decide +kernel
theorem nm_S4 : Str.ofString "M" = S (nm 4) := by decide +kernel
theorem nm_S5 : Str.ofString "NO" = S (nm 5) := by decide +kernel
/-- the rules and the texts that were drawn -/
structure RtAt (H : Hp) (d td : Addr) (ls : List Nat) (R : List Rule) (U : List (List Nat)) : Prop where
  kv : ∃ kvs, H d = some (.dK kvs) ∧ KvAt H kvs R
  ok : ∀ (i : Nat) r, R[i]? = some r → RuOk ls i r
  tx : TxOk R U
  tv : ∃ tvs, H td = some (.dK tvs) ∧ TvAt tvs U
theorem RtAt.up {H H' : Hp} {d td : Addr} {ls : List Nat} {R : List Rule} {U : List (List Nat)} (e : ExL H H') (hd : ∀ o, H d = some o → H' d = some o) (ht : ∀ o, H td = some o → H' td = some o) (h : RtAt H d td ls R U) : RtAt H' d td ls R U := by
  obtain ⟨⟨kvs, h1, h2⟩, h3, h4, tvs, h5, h6⟩ := h
  exact ⟨⟨kvs, hd _ h1, h2.up e⟩, h3, h4, tvs, ht _ h5, h6⟩
def sp_law_rules (K : PySem.W.Frag) : Sp := fun vs H Q E => ∃ pn pc nn ls, vs = [.ref pn, .str (S ls)] ∧ PenAt H pn pc nn ∧ nn < 800000 ∧ LsOk ls ∧
  ∀ p d td H' R U, Ml pn H H' → PenAt H' pn pc (nn + 400) → H' p = some (.tup [.ref d, .ref td]) → RtAt H' d td ls R U → R.length = 6 → Q (.ref p) H'
theorem rd_law_rules (T : Tx K mg) : ∀ vs H Q E, sp_law_rules K vs H Q E → t_law_rules K (sp_law_draw K) (sp_law_word K) { nx := fun _ H' => Q .non H', rt := Q } (start N_law_rules vs) H := by
  intro vs H Q E ⟨pn, pc, nn, ls, hv, hp, hnn, hls, q⟩
  subst hv
  show t_law_rules K (sp_law_draw K) (sp_law_word K) { nx := fun _ H' => Q .non H', rt := Q } [some (.ref pn), some (.str (S ls)), none, none, none, none, none, none, none, none, none, none] H
  have l2 := hls.l2
  have l3 := hls.l3
  have hne : ls ≠ [] := fun z => by rw [z] at l2; simp at l2
  unfold t_law_rules
  rw [nil_S]
  walk_at "ws"
  intro nl H1 n1 e1 h1
  have h1 : H1 nl = some (.lst ((List.range 6).map encN)) := by rw [h1, nm_S0, nm_S1, nm_S2, nm_S3, nm_S4, nm_S5]; rfl
  walk_at "ws"
  refine w_dnewK fun d H2 n2 e2 h2 => ?_
  walk_at "ws"
  refine w_dnewK fun td H3 n3 e3 h3 => ?_
  have h13 : H3 nl = some (.lst ((List.range 6).map encN)) := e3 _ _ (e2 _ _ h1)
  have h23 : H3 d = some (.dK []) := e3 _ _ h2
  have E3 : Ex H H3 := (by walk_at "ex")
  have nd0 : H d = none := nn_back e1 n2
  have nt0 : H td = none := nn_back e1 (nn_back e2 n3)
  have dtd : d ≠ td := ne_new h2 n3
  have pnd := hp.ne nd0
  have pnt := hp.ne nt0
  have pnl := hp.ne n1
  walk_at "ws"
  refine w_iEnum ?_
  walk_at "ws"
  refine w_env (Evl.sq_of h13) ?_
  refine for_enum (L := List.range 6) (enc := encN) (fun i σ H' => ∃ (b5 b6 b7 b8 b9 b10 b11 : Option V) (R : List Rule) (U : List (List Nat)), σ = [some (.ref pn), some (.str (S ls)), some (.ref nl), some (.ref d), some (.ref td), b5, b6, b7, b8, b9, b10, b11] ∧ Ml pn H H' ∧ PenAt H' pn pc (nn + 50 * i) ∧ H' nl = some (.lst ((List.range 6).map encN)) ∧ RtAt H' d td ls R U ∧ R.length = i)
    ⟨none, none, none, none, none, none, none, [], [], rfl, ex_ml0 E3, hp.up E3, h13, ⟨⟨[], h23, rfl, fun i r h => by simp at h⟩, fun i r h => by simp at h, ⟨rfl, fun i r h => by simp at h⟩, [], h3, rfl, fun i r h => by simp at h⟩, rfl⟩ (fun i σ' H' ⟨_, _, _, _, _, _, _, _, _, _, _, _, h, _⟩ => Evl.sq_of h) ?_ ?_
  · rintro i c σ H4 tp H5 hi ⟨b5, b6, b7, b8, b9, b10, b11, R, U, rfl, M4, P4, hnl4, RT4, hRl⟩ n5 e5 h5
    have hil := (List.getElem?_eq_some_iff.mp hi).1
    rw [List.length_range] at hil
    have hci : c = i := by
      rw [List.getElem?_range hil] at hi
      exact (Option.some.inj hi).symm
    subst hci
    have M5 : Ml pn H H5 := ml_ex M4 e5
    have P5 := P4.up e5
    have RT5 : RtAt H5 d td ls R U := RT4.up (.of e5) (fun o h => e5 _ _ h) (fun o h => e5 _ _ h)
    have hnl5 := e5 _ _ hnl4
    walk_at "ws"
    intro pl H6 n6 e6 h6
    have nUl : U.length = c := by rw [RT5.tx.len, hRl]
    have pnpl := P5.ne n6
    walk_at "ws"
    refine ⟨pn, pc, nn + 50 * c, 3, rfl, P5.up e6, by omega, by omega, by omega, fun r3 H7 m7 p7 hr3 => ?_⟩
    have M57 : Ml pn H5 H7 := ex_ml e6 m7
    have h7 : H7 pl = some (.lst []) := m7 _ _ (fun z => pnpl.1 z.symm) h6
    have hc1 : (1 : Int) + (r3 : Int) = ((1 + r3 : Nat) : Int) := by omega
    walk_at "ws"
    rw [hc1]
    refine forL (wl_rng0 (n := 1 + r3)) (fun t σ H' => ∃ (b9 b10 b11 : Option V) (L : List (V × (Pt × Nat))) (X : List Nat), σ = [some (.ref pn), some (.str (S ls)), some (.ref nl), some (.ref d), some (.ref td), some (.int (c : Int)), some (encN c), some (.ref pl), some (.str (S X)), b9, b10, b11] ∧ Ml pn H5 H' ∧ PenAt H' pn pc (nn + 50 * c + 1 + 15 * t) ∧ H' pl = some (.lst (L.map Prod.fst)) ∧ (∀ x ∈ L, PtAt H' x.1 x.2) ∧ L.length = t ∧ (∀ x ∈ L.map Prod.snd, 1 ≤ x.2 ∧ x.2 ≤ 9 ∧ PtOk ls c x.1) ∧ TE X (rtx U (L.map Prod.snd)) ∧ X.length ≤ 36009 * t)
      ⟨b9, b10, b11, [], [], rfl, M57, p7, h7, fun x hx => (nomatch hx), rfl, fun x hx => (nomatch hx), .inl rfl, by simp⟩ (fun _ _ _ _ _ => trivial) ?_ ?_
    · rintro t c2 σ H8 ht ⟨b9, b10, b11, L, X, rfl, M8, P8, hpl8, hL, hLl, hLok, hTE, hXl⟩
      have htl := (List.getElem?_eq_some_iff.mp ht).1
      rw [List.length_range] at htl
      have upL : ∀ {H' : Hp}, Ml pn H8 H' → ExT H8 H' := fun {H'} mm => by
        obtain ⟨a, r, cs, h1, _⟩ := P8
        exact ml_t mm h1 (fun _ z => nomatch z)
      walk_at "ws"
      refine ⟨pn, pc, _, 4, rfl, P8, by omega, by omega, by omega, fun r4 H9 m9 p9 hr4 => ?_⟩
      have hc2 : (1 : Int) + (r4 : Int) = ((1 + r4 : Nat) : Int) := by omega
      walk_at "ws"
      rw [hc2]
      refine ⟨pn, pc, _, ls, 1 + r4, rfl, p9, by omega, hne, by omega, by omega, fun w H10 hwl hwin m10 p10 => ?_⟩
      ((repeat ((fail_if_success (with_reducible intro _)); (fail_if_success (with_reducible apply w_sq)); walk1)); with_reducible apply w_sq)
      have M10 : Ml pn H8 H10 := ml_tr m9 m10
      refine w_cut (fun σ' H' => ∃ p : Pt, σ' = [some (.ref pn), some (.str (S ls)), some (.ref nl), some (.ref d), some (.ref td), some (.int (c : Int)), some (encN c), some (.ref pl), some (.str (S X)), some (.int (c2 : Int)), some (.str (S p.txt)), b11] ∧ Ml pn H8 H' ∧ PenAt H' pn pc (nn + 50 * c + 1 + 15 * t + 12) ∧ PtOk ls c p) ?_ (fun N hN => ?_)
      · rintro σ' H11 ⟨p, rfl, M11, P11, hpo⟩
        have hpn : PtN p := hpo.n hls.sm (by omega)
        walk_at "ws"
        refine ⟨pn, pc, _, 9, rfl, P11, by omega, by omega, by omega, fun r9 H12 m12 p12 hr9 => ?_⟩
        have hc9 : (1 : Int) + (r9 : Int) = ((1 + r9 : Nat) : Int) := by omega
        have M12 : Ml pn H8 H12 := ml_tr M11 m12
        have hpl12 : H12 pl = some (.lst (L.map Prod.fst)) := M12 _ _ (fun z => pnpl.1 z.symm) hpl8
        walk_at "ws"
        rw [hc9]
        intro tq H13 n13 e13 h13'
        walk_at "ws"
        refine w_append (xs := L.map Prod.fst) (e13 _ _ hpl12) (by simp; omega) fun H14 m14 h14 => ?_
        have hpl5 : H5 pl = none := n6
        have M512 : Ml pn H5 H12 := ml_tr M8 M12
        have M14 : Ml pn H5 H14 := fun b o hb ho => m14 _ _ (ne_new ho hpl5) (e13 _ _ (M512 b o hb ho))
        have u14 : ExT H13 H14 := ml_t m14 (e13 _ _ hpl12) (fun _ z => nomatch z)
        have P14 : PenAt H14 pn pc (nn + 50 * c + 1 + 15 * t + 13) := (p12.up e13).ml m14 pnpl.1 pnpl.2
        obtain ⟨_, _, hTx5, tvs, htv5, hTv⟩ := RT5
        have htv14 : H14 td = some (.dK tvs) := M14 _ _ (fun z => pnt.1 z.symm) htv5
        walk_at "ws"
        have hget : ∃ g, (valV tvs (.inr (S p.txt))).getD (.str (S p.txt)) = .str (S g) ∧ TE g (ptx U p) ∧ g.length ≤ 4001 := by
          rcases p with w | j
          · show ∃ g, (valV tvs (.inr (S w))).getD (.str (S w)) = .str (S g) ∧ TE g w ∧ g.length ≤ 4001
            rw [val_word hTv.ks (by omega) hpn]
            exact ⟨w, rfl, .inl rfl, by have : w.length ≤ 4 := hpn.2.1; omega⟩
          · have hj : j < c := hpo
            obtain ⟨t', g1, g2, g3⟩ := hTv.at_ j U[j] (by simp [show j < U.length by omega])
            refine ⟨t', ?_, ?_, g3⟩
            · show (valV tvs (nk j)).getD _ = _
              rw [g1]
              rfl
            · show TE t' (U.getD j [])
              rw [show U.getD j [] = U[j] by simp [show j < U.length by omega]]
              exact g2
        obtain ⟨g, hg1, hg2, hg3⟩ := hget
        refine w_d2w (ke := .inr (S p.txt)) htv14 ?_
        rw [hg1]
        walk_at "ws"
        refine w_mulS (n := 1 + r9) (by omega) (by omega) (by omega) ?_
        have hrl : (repS g (1 + r9)).length ≤ 36009 := by
          rw [repS_length]
          exact Nat.le_trans (Nat.mul_le_mul (show 1 + r9 ≤ 9 by omega) hg3) (by decide)
        walk_at "ws"
        refine w_addS (by omega) ?_
        walk_at "ws"
        refine got ⟨_, _, _, L ++ [(.ref tq, (p, 1 + r9))], X ++ repS g (1 + r9), rfl, M14, P14.le (by omega), by rw [h14]; simp, fun x hx => ?_, by simp [hLl], fun x hx => ?_, ?_, by rw [List.length_append]; omega⟩
        · rcases List.mem_append.mp hx with hx | hx
          · exact ((hL x hx).up (upL M12)).up ((Ex.t e13).trans u14)
          · rw [List.mem_singleton.mp hx]
            exact ⟨tq, rfl, u14 _ _ h13'⟩
        · rw [List.map_append] at hx
          rcases List.mem_append.mp hx with hx | hx
          · exact hLok x hx
          · have : x = (p, 1 + r9) := by simpa using hx
            rw [this]
            exact ⟨by show 1 ≤ 1 + r9; omega, by show 1 + r9 ≤ 9; omega, hpo⟩
        · rw [List.map_append]
          show TE (X ++ repS g (1 + r9)) (rtx U (L.map Prod.snd ++ [(p, 1 + r9)]))
          rw [rtx_snoc]
          exact hTE.app (hg2.rep (by omega))
      · walk_at "ws"
        refine if_c (fun hat => ?_) (fun hat => ?_)
        · have hat := of_decide_eq_true hat
          walk_at "ws"
          refine ⟨pn, pc, _, 2, rfl, p10, by omega, by omega, by omega, fun r2 H11 m11 p11 hr2 => ?_⟩
          walk_at "ws"
          refine if_c (fun hb2 => ?_) (fun hb2 => ?_)
          · walk_at "ws"
            refine ⟨pn, pc, _, c, rfl, p11, by omega, by omega, by omega, fun rj H12 m12 p12 hrj => ?_⟩
            have M12 : Ml pn H8 H12 := ml_tr (ml_tr M10 m11) m12
            have hnl12 : H12 nl = some (.lst ((List.range 6).map encN)) := ml_tr M8 M12 _ _ (fun z => pnl.1 z.symm) hnl5
            refine w_ixL (n := rj) (v := encN rj) (Evl.sq_of hnl12) (by rw [List.getElem?_map, List.getElem?_range (by omega)]; rfl) ?_
            walk_at "ws"
            exact hN _ _ ⟨.n rj, rfl, M12, p12.le (by omega), hrj⟩
          · walk_at "ws"
            exact hN _ _ ⟨.w w, rfl, ml_tr M10 m11, p11.le (by omega), by omega, by omega, hwin⟩
        · walk_at "ws"
          exact hN _ _ ⟨.w w, rfl, M10, p10.le (by omega), by omega, by omega, hwin⟩
    · rintro σ H8 ⟨b9, b10, b11, L, X, rfl, M8, P8, hpl8, hL, hLl, hLok, hTE, hXl⟩
      rw [List.length_range] at hLl hXl P8
      obtain ⟨⟨kvs, hd5, hKv⟩, hRok, hTx, tvs, htv5, hTv⟩ := RT5
      have hd8 : H8 d = some (.dK kvs) := M8 _ _ (fun z => pnd.1 z.symm) hd5
      have htv8 : H8 td = some (.dK tvs) := M8 _ _ (fun z => pnt.1 z.symm) htv5
      have u58 : ExL H5 H8 := by
        obtain ⟨a, r, cs, h1, _⟩ := P5
        exact .ml M8 h1 rfl rfl
      have hkl : kvs.length = c := by rw [hKv.len, hRl]
      have htl : tvs.length = c := by
        have := congrArg List.length hTv.ks
        simp at this
        omega
      walk_at "ws"
      refine w_slS9 (l' := X.take 4001) (by omega) (cut_take (n := 4001) rfl) ?_
      walk_at "ws"
      intro tp2 H9 n9 e9 h9
      walk_at "ws"
      refine w_setD (ke := nk c) (kvs := kvs) (e9 _ _ hd8) (by omega) fun H10 m10 h10 => ?_
      have htv10 : H10 td = some (.dK tvs) := m10 _ _ (fun z => dtd z.symm) (e9 _ _ htv8)
      walk_at "ws"
      refine w_setD (ke := nk c) (kvs := tvs) htv10 (by omega) fun H11 m11 h11 => ?_
      have hd11 : H11 d = some (.dK (putK kvs (nk c) (.ref pl))) := m11 _ _ dtd h10
      have hlr : RuOk ls c (L.map Prod.snd) := ⟨by simp; omega, by simp; omega, hLok⟩
      have u911 : ExL H8 H11 := ((ExL.of e9).tr (.ml m10 (e9 _ _ hd8) rfl rfl)).tr (.ml m11 htv10 rfl rfl)
      have hRu : RuAt H11 pl (L.map Prod.snd) := ⟨L, u911.l _ _ hpl8, rfl, fun x hx => (hL x hx).up u911.t⟩
      have M11 : Ml pn H H11 := fun b o hb ho => m11 _ _ (ne_new ho nt0) (m10 _ _ (ne_new ho nd0) (e9 _ _ (M8 b o hb (M5 b o hb ho))))
      have P11 : PenAt H11 pn pc (nn + 50 * c + 1 + 15 * (1 + r3)) := ((P8.up e9).ml m10 pnd.1 pnd.2).ml m11 pnt.1 pnt.2
      have hnl11 : H11 nl = some (.lst ((List.range 6).map encN)) := u911.l _ _ (u58.l _ _ hnl5)
      have K11 : KvAt H11 (putK kvs (nk c) (.ref pl)) (R ++ [L.map Prod.snd]) := by
        have := ((hKv.up u58).up u911).snoc hRu (by rw [hRl]; exact val_new hKv.ks (by omega) (by omega))
        rwa [hRl] at this
      have V11 : TvAt (putK tvs (nk c) (.str (S (X.take 4001)))) (U ++ [rtx U (L.map Prod.snd)]) := by
        have := hTv.snoc hTE.take (by simp; omega) (by rw [nUl]; exact val_new hTv.ks (by omega) (by omega))
        rwa [nUl] at this
      walk_at "ws"
      refine got ⟨_, _, _, _, _, _, _, R ++ [L.map Prod.snd], U ++ [rtx U (L.map Prod.snd)], rfl, M11, P11.le (by omega), hnl11, ⟨⟨_, hd11, K11⟩, fun i r hi => ?_, hTx.snoc hRok (by rw [hRl]; exact hlr), _, h11, V11⟩, by simp [hRl]⟩
      by_cases hlt : i < R.length
      · rw [List.getElem?_append_left hlt] at hi
        exact hRok i r hi
      · rw [List.getElem?_append_right (by omega)] at hi
        have hz := (List.getElem?_eq_some_iff.mp hi).1
        simp at hz
        rw [show i - R.length = 0 by omega] at hi
        simp at hi
        subst hi
        rw [show i = c by omega]
        exact hlr
  · rintro σ H4 ⟨b5, b6, b7, b8, b9, b10, b11, R, U, rfl, M4, P4, hnl4, RT4, hRl⟩
    rw [List.length_range] at hRl P4
    walk_at "ws"
    intro p H5 n5 e5 h5
    exact q p d td H5 R U (ml_ex M4 e5) ((P4.up e5).le (by omega)) h5 (RT4.up (.of e5) (fun o h => e5 _ _ h) (fun o h => e5 _ _ h)) hRl
end
/-! ### plain facts of the law -/
theorem repS_mem {l : List Nat} {n c : Nat} (h : c ∈ repS l n) : c ∈ l := by
  unfold repS at h
  rw [List.mem_flatten] at h
  obtain ⟨m, hm, hc⟩ := h
  rw [(List.mem_replicate.mp hm).2] at hc
  exact hc
theorem tx_in {ls : List Nat} {R : List Rule} {U : List (List Nat)} (h : TxOk R U) (hR : ∀ (i : Nat) r, R[i]? = some r → RuOk ls i r) : ∀ (n i : Nat), i < n → ∀ u, U[i]? = some u → (∀ c ∈ u, c ∈ ls) ∧ 1 ≤ u.length
  | 0, i, hi, _, _ => by omega
  | n + 1, i, hi, u, hu => by
    have hl := (List.getElem?_eq_some_iff.mp hu).1
    have hRi : R[i]? = some (R[i]'(by rw [← h.len]; exact hl)) := by simp [← h.len, hl]
    have hr := hR i _ hRi
    have hu2 := h.at_ i _ hRi
    rw [hu] at hu2
    generalize R[i]'(by rw [← h.len]; exact hl) = r at hr hu2
    have hu2 := Option.some.inj hu2
    have hp : ∀ x ∈ r, (∀ c ∈ ptx U x.1, c ∈ ls) ∧ 1 ≤ (ptx U x.1).length := fun x hx => by
      have h1 := (hr.pt x hx).2.2
      rcases hxe : x.1 with l | j
      · rw [hxe] at h1
        exact ⟨h1.2.2, h1.1⟩
      · rw [hxe] at h1
        have hj : j < i := h1
        have e : U[j]? = some (U.getD j []) := by simp [show j < U.length by omega]
        exact tx_in h hR n j (by omega) _ e
    subst hu2
    constructor
    · intro c hc
      obtain ⟨x, hx, hc⟩ := List.mem_flatMap.mp hc
      exact (hp x hx).1 c (repS_mem hc)
    · have l1 := hr.l1
      cases r with
      | nil => simp at l1
      | cons x r =>
        have h1 := (hp x (by simp)).2
        have h2 := (hr.pt x (by simp)).1
        unfold rtx
        rw [List.flatMap_cons, List.length_append, repS_length]
        have := Nat.mul_le_mul h2 h1
        omega
theorem tx_zero {ls : List Nat} {U : List (List Nat)} : ∀ r : Rule, (∀ x ∈ r, 1 ≤ x.2 ∧ x.2 ≤ 9 ∧ PtOk ls 0 x.1) → (rtx U r).length ≤ 36 * r.length
  | [], _ => by simp [rtx]
  | x :: r, h => by
    have ih := tx_zero (U := U) r fun y hy => h y (by simp [hy])
    obtain ⟨h1, h2, h3⟩ := h x (by simp)
    unfold rtx at ih ⊢
    rw [List.flatMap_cons, List.length_append, repS_length, List.length_cons]
    have h4 : (ptx U x.1).length ≤ 4 := by
      rcases hxe : x.1 with l | j
      · rw [hxe] at h3
        exact h3.2.1
      · rw [hxe] at h3
        have : j < 0 := h3
        omega
    have := Nat.mul_le_mul h2 h4
    omega
section
variable {K : PySem.W.Frag} {mg : Str → Option Value}
/-- all but the dicts with plain keys stays -/
def ExD (H H' : Hp) : Prop := ∀ a o, (hoK o == 2) = false → H a = some o → H' a = some o
theorem ExD.ml {H H' : Hp} {l : Addr} {kvs : List (Key × V)} (m : Ml l H H') (h : H l = some (.dK kvs)) : ExD H H' := fun a o n ha => m a o (ne_kind ha h (fun z => by rw [z] at n; simp [hoK] at n)) ha
theorem ExD.u {H H' : Hp} (e : ExD H H') : ExU H H' := ⟨fun a xs h => e a _ rfl h, fun a C dx fs h => e a _ rfl h⟩
theorem ExD.x {H H' : Hp} (e : ExD H H') : ExL H H' := ⟨fun a xs h => e a _ rfl h, fun a xs h => e a _ rfl h⟩
theorem RowsAt.upD {H H' : Hp} {r : Addr} {ns : List Nd} (e : ExD H H') (h : RowsAt K H r ns) : RowsAt K H' r ns := by
  obtain ⟨h0, as, h1, h2, h3⟩ := h
  exact ⟨h0, as, e _ _ rfl h1, h2, fun i a n x y => (h3 i a n x y).up e.u⟩
theorem WvAt.upD {H H' : Hp} {wv : Addr} {ls : List Nat} {ns : List Nd} {root : Nat} {nd : Nd} (e : ExD H H') (h : WvAt K H wv ls ns root nd) : WvAt K H' wv ls ns root nd := by
  obtain ⟨⟨dx, n, dn, r, h1, h2, h3⟩, h4, h5⟩ := h
  exact ⟨⟨dx, n, dn, r, e _ _ rfl h1, e _ _ rfl h2, h3.upD e⟩, h4, h5⟩
theorem PenAt.exd {H H' : Hp} {pn pc : Addr} {n : Nat} (m : Ml pn H H') (h : PenAt H pn pc n) : ExD H H' := by
  obtain ⟨a, r, cs, h1, _⟩ := h
  exact .ml m h1
/-- the data of told pairs -/
def prD (x : Nat × Nat) : PyData := .tuple [.int (x.1 : Int), .int (x.2 : Int)]
theorem prD_lay : ∀ xs : List (Nat × Nat), PyData.canLayAll0 (xs.map prD) = true
  | [] => by simp [PyData.canLayAll0]
  | c :: cs => by simp [PyData.canLayAll0, PyData.canLay0, prD, prD_lay cs]
theorem prD_depth : ∀ xs : List (Nat × Nat), PyData.depthAll (xs.map prD) ≤ 1
  | [] => by simp [PyData.depthAll]
  | c :: cs => by
    have := prD_depth cs
    simp [PyData.depthAll, PyData.depth, prD]
    omega
theorem prD_shaped (xs : List (Nat × Nat)) : SeqAt.shaped (.list (xs.map prD)) = true := by
  unfold SeqAt.shaped
  rw [Bool.and_eq_true]
  refine ⟨by simpa [PyData.canLay0] using prD_lay xs, decide_eq_true ?_⟩
  have := prD_depth xs
  simp [PyData.depth]
  omega
theorem dp_prs {H : Hp} : ∀ {ys : List V} {xs : List (Nat × Nat)}, ys.length = xs.length → (∀ (i : Nat) x y, xs[i]? = some x → ys[i]? = some y → PrAt H y x) → DpAll K H ys (xs.map prD)
  | [], [], _, _ => .nil
  | y :: ys, x :: xs, hl, h => by
    obtain ⟨a, rfl, ha⟩ := h 0 x y rfl rfl
    exact .cons (.tup (Evl.st_of ha) (.cons (.int _) (.cons (.int _) .nil))) (dp_prs (by simpa using hl) fun i x y h1 h2 => h (i + 1) x y h1 h2)
  | [], x :: xs, hl, _ => by simp at hl
  | y :: ys, [], hl, _ => by simp at hl
def int3 (a b c : Int) : PyData := .tuple [.int a, .int b, .int c]
theorem int3_shaped (a b c : Int) : SeqAt.shaped (int3 a b c) = true := by
  unfold SeqAt.shaped
  rw [Bool.and_eq_true]
  refine ⟨by simp [int3, PyData.canLay0, PyData.canLayAll0], decide_eq_true ?_⟩
  simp [int3, PyData.depth, PyData.depthAll]
theorem dp_int3 {H : Hp} {p : Addr} {a b c : Int} (h : H p = some (.tup [.int a, .int b, .int c])) : Dp K H (.ref p) (int3 a b c) := .tup (Evl.st_of h) (.cons (.int _) (.cons (.int _) (.cons (.int _) .nil)))
theorem w_neSame {H : Hp} {x y : V} {d : PyData} {Q : VK} (h1 : Dp K H x d) (h2 : Dp K H y d) (hs : SeqAt.shaped d = true) (q : Q (.bl false) H) : rNeD K x y H Q :=
  ⟨d, d, h1, h2, hs, hs, by
    have e : PyData.eqv d d = true := SeqAt.eqv_refl d (SeqAt.canLay_of_shaped hs)
    rw [e]
    exact q⟩
end
theorem wayOk : ∀ v ∈ ([.str "plain", .str "borders", .str "strict borders", .str "by letters", .str "last letter", .str "letter behind", .str "bad letter", .str "good end", .str "both", .str "both and known"] : List V), ∃ wy, v = .str wy ∧ WayOk wy := by
  intro v hv
  simp only [List.mem_cons, List.not_mem_nil, or_false] at hv
  rcases hv with rfl | rfl | rfl | rfl | rfl | rfl | rfl | rfl | rfl | rfl <;> exact ⟨_, rfl, by decide +kernel, by decide +kernel⟩
section
variable {K : PySem.W.Frag} {mg : Str → Option Value}
theorem TrcAt.up {H H' : Hp} {t : Addr} {ws : List Wn} (e : Ex H H') (h : TrcAt K H t ws) : TrcAt K H' t ws := by
  obtain ⟨dx, wt, tt, ys, h1, ⟨vs, h2, h3⟩, h4, h5, h6⟩ := h.ob
  exact ⟨dx, wt, tt, ys, e _ _ h1, ⟨vs, e _ _ h2, h3⟩, e _ _ h4, h5, fun i x v a b => (h6 i x v a b).up (Ex.t e)⟩
theorem TE.short {a b : List Nat} (h : TE a b) (hl : a.length ≤ 2000) : a = b := by
  rcases h with h | ⟨h, _⟩
  · exact h
  · omega
def fitP (tvs : List (Key × V)) (kv : Key × V) : Bool := match valV tvs kv.1 with
  | some (.str z) => decide ((z.length : Int) ≤ 2000)
  | _ => false
theorem fitP_eq {tvs : List (Key × V)} {i : Nat} {v : V} {t : List Nat} (h : valV tvs (nk i) = some (.str (S t))) : fitP tvs (nk i, v) = decide ((t.length : Int) ≤ 2000) := by
  unfold fitP
  rw [h]
  show decide (((S t).length : Int) ≤ 2000) = _
  rw [S_len]
def sp_law (K : PySem.W.Frag) : Sp := fun vs H Q E => ∃ (a : Addr) (ns : List Int), vs = [.ref a] ∧ SqL K H a (ns.map V.int) ∧ ∀ H', Q (.bl true) H'
theorem rd_law (T : Tx K mg) : ∀ vs H Q E, sp_law K vs H Q E → t_law K (sp_law_pen K) (sp_law_letters K) (sp_law_draw K) (sp_law_rules K) (sp_law_word K) (sp_law_pick K) (sp_made K) (sp_law_ways K) (sp_law_bent K) (sp_Weave_init K) (sp_trace K) (sp_far K) (sp_Weave_part K) (sp_Far_told_at K) (sp_Weave_letter K) { nx := fun _ H' => Q .non H', rt := Q } (start N_law vs) H := by
  intro vs H Q E ⟨a, cs, hv, ha, q⟩
  subst hv
  show t_law K (sp_law_pen K) (sp_law_letters K) (sp_law_draw K) (sp_law_rules K) (sp_law_word K) (sp_law_pick K) (sp_made K) (sp_law_ways K) (sp_law_bent K) (sp_Weave_init K) (sp_trace K) (sp_far K) (sp_Weave_part K) (sp_Far_told_at K) (sp_Weave_letter K) { nx := fun _ H' => Q .non H', rt := Q } [some (.ref a), none, none, none, none, none, none, none, none, none, none, none, none, none, none, none, none, none, none] H
  unfold t_law
  walk_at "ws"
  refine ⟨a, cs, rfl, ha, fun pn pc H1 npn npc e1 P1 => ?_⟩
  walk_at "ws"
  refine ⟨pn, pc, 0, 2, rfl, P1, by omega, by omega, by omega, fun r H2 m2 p2 hr => ?_⟩
  have hc2 : (2 : Int) + (r : Int) = ((2 + r : Nat) : Int) := by omega
  walk_at "ws"
  rw [hc2]
  refine ⟨pn, pc, 0 + 1, 2 + r, rfl, p2, by omega, by omega, fun ls H3 hll hnd hsm m3 p3 => ?_⟩
  have hls : LsOk ls := ⟨by omega, by omega, hnd, hsm⟩
  walk_at "ws"
  refine ⟨pn, pc, _, ls, rfl, p3, by omega, hls, fun p d td H4 R U m4 p4 hp4 RT4 hR6 => ?_⟩
  have P4 : PenAt H4 pn pc 500 := p4.le (by omega)
  obtain ⟨⟨kvs, hd4, hKv⟩, hRok, hTx, tvs, htv4, hTv⟩ := id RT4
  have hU6 : U.length = 6 := by rw [hTx.len, hR6]
  have hkl : kvs.length = 6 := by rw [hKv.len, hR6]
  have htl : tvs.length = 6 := by
    have := congrArg List.length hTv.ks
    simp at this
    omega
  have tdd : td ≠ d := fun z => by
    rw [z, hd4] at htv4
    cases htv4
    obtain ⟨l, hl, _⟩ := hKv.at_ 0 R[0] (by simp [hR6])
    obtain ⟨t', g1, _⟩ := hTv.at_ 0 U[0] (by simp [hU6])
    rw [hl] at g1
    cases g1
  have dpn : d ≠ pn ∧ td ≠ pn := by
    obtain ⟨x, y, z, h1, _⟩ := P4
    refine ⟨ne_kind hd4 h1 fun e => ?_, ne_kind htv4 h1 fun e => ?_⟩
    · have := congrArg List.length (HO.dK.inj e)
      rw [hkl] at this
      simp at this
    · have := congrArg List.length (HO.dK.inj e)
      rw [htl] at this
      simp at this
  walk_at "ws"
  refine w_lock hd4 fun od H5 m5 h5 => ?_
  have htv5 := m5 _ _ tdd htv4
  walk_at "ws"
  refine lcP wl_keys (by walk_at "wp") (by omega) (fitP tvs) (fun kv => kV kv.1) (fun H' e => e _ _ h5) ?_ ?_
  · rintro ⟨kk, v⟩ H6 hkv e6 EE N hE hN
    obtain ⟨i, hi⟩ := List.getElem?_of_mem hkv
    obtain ⟨hk, hlt⟩ := hKv.key hi
    have hk : kk = nk i := hk
    subst hk
    obtain ⟨t', g1, g2, g3⟩ := hTv.at_ i U[i] (by simp [show i < U.length by omega])
    have hf := fitP_eq (v := v) g1
    show gName 17 (encN i) _ _ _
    walk_at "ws"
    refine w_dgetK (ke := nk i) (e6 _ _ htv5) g1 ?_
    walk_at "ws"
    refine if_c (fun hb => ?_) (fun hb => ?_)
    · walk_at "ws"
      exact hE _ _ (by rw [hf]; exact hb) rfl (Evl.Ex.refl _)
    · exact hN _ (by rw [hf]; exact hb) (Evl.Ex.refl _)
  · intro D H6 n6 e6 h6
    generalize hFL : (kvs.filter (fitP tvs)).map (fun kv => kV kv.1) = FL at h6
    have hFLm : ∀ v ∈ FL, ∃ i t', v = encN i ∧ i < 6 ∧ valV tvs (nk i) = some (.str (S t')) ∧ t'.length ≤ 2000 ∧ t' = U.getD i [] := fun v hv => by
      rw [← hFL] at hv
      obtain ⟨⟨kk, v'⟩, hkv, rfl⟩ := List.mem_map.mp hv
      obtain ⟨hkv, hf⟩ := List.mem_filter.mp hkv
      obtain ⟨i, hi⟩ := List.getElem?_of_mem hkv
      obtain ⟨hk, hlt⟩ := hKv.key hi
      have hk : kk = nk i := hk
      subst hk
      obtain ⟨t', g1, g2, g3⟩ := hTv.at_ i U[i] (by simp [show i < U.length by omega])
      rw [fitP_eq g1] at hf
      have hf := of_decide_eq_true hf
      refine ⟨i, t', rfl, by omega, g1, by omega, ?_⟩
      rw [g2.short (by omega)]
      simp [show i < U.length by omega]
    have hFLn : FL ≠ [] ∧ FL.length ≤ 6 := by
      constructor
      · intro z
        have hk0 : kvs[0]? = some kvs[0] := by simp [hkl]
        obtain ⟨hk, _⟩ := hKv.key hk0
        have hR0 : R[0]? = some R[0] := by simp [hR6]
        obtain ⟨t', g1, g2, g3⟩ := hTv.at_ 0 U[0] (by simp [hU6])
        have hu0 := hTx.at_ 0 R[0] hR0
        have hr0 := hRok 0 R[0] hR0
        have hz := tx_zero (U := U) R[0] hr0.pt
        have h3 := hr0.l3
        have hU0 : U[0]? = some U[0] := by simp [hU6]
        rw [hU0] at hu0
        have hu0 := Option.some.inj hu0
        rw [← hu0] at hz
        have ht : t'.length ≤ 2000 := by
          rcases g2 with g2 | ⟨_, g2⟩
          · rw [g2]; omega
          · omega
        have hm : kV kvs[0].1 ∈ FL := by
          rw [← hFL]
          refine List.mem_map.mpr ⟨kvs[0], List.mem_filter.mpr ⟨List.getElem_mem _, ?_⟩, rfl⟩
          have : kvs[0] = (nk 0, kvs[0].2) := by rw [← hk]
          rw [this, fitP_eq g1]
          exact decide_eq_true (by omega)
        rw [z] at hm
        cases hm
      · rw [← hFL, List.length_map]
        exact Nat.le_trans (List.length_filter_le _ _) (by omega)
    walk_at "ws"
    refine w_lkv hd4 (ml_ex m5 e6) (e6 _ _ h5) fun H7 E7 u7 k7 => ?_
    have hD7 : H7 D = some (.lst FL) := u7.l _ _ h6
    have P7 := P4.up E7
    have hd7 := E7 _ _ hd4
    have htv7 := E7 _ _ htv4
    have K7 := hKv.up (.of E7)
    have Dpn : D ≠ pn := by
      obtain ⟨x, y, z, h1, _⟩ := P7
      exact ne_kind hD7 h1 fun e => nomatch e
    clear h6 k7 u7 e6 n6 htv5 h5 m5 H6 hp4 p4 m4 p3 m3 p2 m2 P1 e1 npn npc RT4
    walk_at "ws"
    refine forL (wl_rng0 (n := 3)) (fun t σ H' => ∃ b6 b7 b8 b9 b10 b11 b12 b13 b14 b15 b16 b17 b18 : Option V, σ = [some (.ref a), some (.ref pn), some (.str (S ls)), some (.ref d), some (.ref td), some (.ref D), b6, b7, b8, b9, b10, b11, b12, b13, b14, b15, b16, b17, b18] ∧ Ml pn H7 H' ∧ PenAt H' pn pc (500 + 200 * t))
      ⟨_, _, _, _, _, _, _, _, _, _, _, _, _, rfl, ml_refl, P7⟩ (fun _ _ _ _ _ => trivial) ?_ ?_
    · rintro t tc σ H8 ht ⟨b6, b7, b8, b9, b10, b11, b12, b13, b14, b15, b16, b17, b18, rfl, M8, P8⟩
      have htl3 := (List.getElem?_eq_some_iff.mp ht).1
      rw [List.length_range] at htl3
      have hne : ls ≠ [] := fun z => by rw [z] at hll; simp at hll; omega
      walk_at "ws"
      refine ⟨pn, pc, _, 5, rfl, P8, by omega, by omega, by omega, fun r5 H9 m9 p9 hr5 => ?_⟩
      have hc5 : (1 : Int) + (r5 : Int) = ((1 + r5 : Nat) : Int) := by omega
      walk_at "ws"
      rw [hc5]
      refine ⟨pn, pc, _, ls, 1 + r5, rfl, p9, by omega, hne, by omega, by omega, fun w H10 hwl hwin m10 p10 => ?_⟩
      have M10 : Ml pn H7 H10 := ml_tr (ml_tr M8 m9) m10
      walk_at "ws"
      refine ⟨pn, pc, _, .ref D, rfl, p10, by omega, .inr ⟨D, FL, rfl, M10 _ _ Dpn hD7, hFLn.1, by omega, fun v H11 hv m11 p11 => ?_⟩⟩
      obtain ⟨root, X0, rfl, hroot, hX1, hX2, hX3⟩ := hFLm v hv
      have M11 : Ml pn H7 H11 := ml_tr M10 m11
      walk_at "ws"
      refine ⟨rfl, fun lw H12 nlw e12 h12 => ?_⟩
      walk_at "ws"
      refine w_slL (Evl.sq_of h12) fun l2 H13 n13 e13 h13 => ?_
      walk_at "ws"
      refine ⟨pn, pc, _, .ref l2, rfl, (p11.up e12).up e13, by omega, .inr ⟨l2, [.str "plain", .str "borders", .str "strict borders", .str "by letters", .str "last letter", .str "letter behind", .str "bad letter", .str "good end", .str "both", .str "both and known"], rfl, h13, by simp, by simp, fun v H14 hv m14 p14 => ?_⟩⟩
      obtain ⟨wy, rfl, hwy⟩ := wayOk v hv
      have M14 : Ml pn H7 H14 := ml_tr (ml_ex M11 (ex_tr e13 e12)) m14
      refine ⟨ls, w, wy, rfl, hls, by omega, by omega, hwin, hwy, fun sa H15 s e15 hS15 hsl => ?_⟩
      walk_at "ws"
      refine ⟨pn, pc, _, 3, rfl, p14.up e15, by omega, by omega, by omega, fun rb H16 m16 p16 hrb => ?_⟩
      have M16 : Ml pn H7 H16 := ml_tr (ml_ex M14 e15) m16
      have S16 : SrAt K H16 sa s := hS15.up ((p14.up e15).exd m16).u
      walk_at "ws"
      refine forL (wl_rng0 (n := rb)) (fun t' σ H' => ∃ (b10 : Option V) (sa : Addr) (s : Sr), σ = [some (.ref a), some (.ref pn), some (.str (S ls)), some (.ref d), some (.ref td), some (.ref D), some (.int (tc : Int)), some (.str (S w)), some (encN root), some (.ref sa), b10, b11, b12, b13, b14, b15, b16, b17, b18] ∧ Ml pn H7 H' ∧ PenAt H' pn pc (500 + 200 * t + 20 + 41 * t') ∧ SrAt K H' sa s ∧ s.ls = ls)
        ⟨b10, sa, s, rfl, M16, p16.le (by omega), S16, hsl⟩ (fun _ _ _ _ _ => trivial) ?_ ?_
      · clear S16 M16 p16 hS15 e15 H15 m16
        rintro t' tc' σ H17 ht' ⟨b10, sa, s, rfl, M17, P17, S17, hsl⟩
        have htl' := (List.getElem?_eq_some_iff.mp ht').1
        rw [List.length_range] at htl'
        walk_at "ws"
        refine ⟨pn, pc, _, sa, s, rfl, P17, by omega, S17, fun x H18 s' m18 p18 S18 hsl' => ?_⟩
        walk_at "ws"
        exact got ⟨_, x, s', rfl, ml_tr M17 m18, p18.le (by omega), S18, hsl'.trans hsl⟩
      clear S16 M16 p16 hS15 e15 H15 m16 p14 m14 h13 e13 n13 h12 e12 nlw p11 m11 p10 m10 m9 p9
      rintro σ H17 ⟨b10, sa, s, rfl, M17, P17, S17, hsl⟩
      rw [List.length_range] at P17
      have D17 : ExD H7 H17 := P7.exd M17
      have hd17 : H17 d = some (.dK kvs) := M17 _ _ dpn.1 hd7
      have htv17 : H17 td = some (.dK tvs) := M17 _ _ dpn.2 htv7
      have K17 := K7.up D17.x
      have hUr : U[root]? = some (U.getD root []) := by simp [show root < U.length by omega]
      obtain ⟨hXin, hXp⟩ := tx_in hTx hRok 6 root hroot _ hUr
      walk_at "ws"
      refine w_mkv fun wv dx H18 nwv e18 h18 => ⟨wv, dx, ls, d, kvs, R, U, root, rfl, h18, hls, e18 _ _ hd17, K17.up (.of e18), ⟨hR6, hRok⟩, hTx, hroot, fun H19 ns k nd m19 W19 hnd => ⟨rfl, ?_⟩⟩
      have E19 : Ex H17 H19 := ml_new nwv e18 m19
      rw [← hnd] at hX3 hXin hXp
      subst hX3
      have S19 : SrAt K H19 sa s := S17.up (.of E19)
      have htv19 := E19 _ _ htv17
      have hin : ∀ c ∈ nd.txt, c ∈ s.ls := fun c hc => by rw [hsl]; exact hXin c hc
      have W19' : WvAt K H19 wv s.ls ns k nd := by rw [hsl]; exact W19
      walk_at "ws"
      refine w_dgetK (ke := nk root) htv19 hX1 ?_
      walk_at "ws"
      refine ⟨sa, s, nd.txt, rfl, S19, hX2, hin, fun tr H20 ws p' q' e20 hcp hTr => ?_⟩
      walk_at "ws"
      refine ⟨sa, s, wv, ns, k, nd, rfl, S19.up (.of e20), W19'.up e20, hX2, hin, fun f H21 ws2 p2 q2 e21 hF => ?_⟩
      obtain ⟨rfl, rfl, rfl⟩ := hcp.det hF.cp
      generalize hlast : lastOf s nd.txt p' q' = last at hTr hF
      have hbd := hcp.bd S19.1 hin (by show 0 < s.ts.length; have := S19.1.n1; omega) (Nat.zero_le _)
      have hbound : tellsOf ws + tellsOf last ≤ 24012 := by
        have h1 := toldOf_le ws fun w hw => (hbd.2.2.2.2.1 w hw).2.2
        have h2 : tellsOf last ≤ 12 := by
          rw [← hlast]
          unfold lastOf
          split
          · simp [tellsOf]
            exact (stp_ok S19.1 hin (p := p') hbd.2.2.1).2.1
          · simp [tellsOf]
        rw [toldOf_len] at h1
        omega
      have P21 : PenAt H21 pn pc (500 + 200 * t + 20 + 41 * rb) := P17.up (ex_tr e21 (ex_tr e20 E19))
      have M21 : Ml pn H7 H21 := ml_ex M17 (ex_tr e21 (ex_tr e20 E19))
      have W21 := W19.up (ex_tr e21 e20)
      have Tr21 := hTr.up e21
      clear hTr W19 W19' htv19 S19 E19 m19 h18 e18 nwv e20 e21 S17 M17 P17 D17 hd17 htv17 K17
      walk_at "ws"
      intro tq H22 n22 e22 h22
      have W22 := W21.up e22
      have F22 := hF.up e22
      have Tr22 := Tr21.up e22
      have P22 := P21.up e22
      have M22 := ml_ex M21 e22
      obtain ⟨⟨dW, nW, dnW, rW, hW1, hW2, hW3⟩, hWk, hWl⟩ := id W22
      -- the sizes, the whole text
      walk_at "ws"
      refine ⟨wv, ls, ns, k, nd, 0, nd.txt.length, rfl, W22, by omega, hX2, fun H23 e23 => ?_⟩
      have ew : (nd.txt.drop 0).take nd.txt.length = nd.txt := by simp
      rw [ew]
      walk_at "ws"
      refine if_f (by simp) ?_
      have F23 := F22.up e23
      have Tr23 := Tr22.up e23
      have E23 : Ex H22 H23 := e23
      obtain ⟨dF, wF, lF, rF, kF, sF, kvF, svF, hF1, hF2, hF3, hF4⟩ := F23.ob
      obtain ⟨dT, wT, tT, ysT, hT1, ⟨vsT, hT2, hT3⟩, hT4, hT5, hT6⟩ := Tr23.ob
      -- the sums
      walk_at "ws"
      intro t1 H24 n24 e24 h24
      have hT1' := e24 _ _ hT1
      have hT2' := e24 _ _ hT2
      have hT4' := e24 _ _ hT4
      walk_at "ws"
      intro t2 H25 n25 e25 h25
      refine w_neSame (dp_int3 (e25 _ _ h24)) (dp_int3 ?_) (int3_shaped _ _ _) ?_
      · rw [h25, hT3, hT5, costOf_app, List.length_append, toldOf_len, tellsOf_app]
      have E25 : Ex H23 H25 := ex_tr e25 e24
      have F25 := F23.up E25
      have hF25 := E25 _ _ hF1
      generalize hNT : tellsOf ws + tellsOf last = NT at hF25 hbound
      -- the spots
      walk_at "ws"
      refine lcP (wl_rng0 (n := NT)) (by walk_at "wp") (by simp; omega) (fun j : Nat => decide ((j : Int) < 20) || (decide ((NT : Int) - 5 < (j : Int)) || decide ((j : Int) % 97 = 5))) (fun (j : Nat) => .int (j : Int)) (fun _ _ => trivial) ?_ ?_
      · intro j H26 hj e26 EE N hE hN
        have hj : j < NT := List.mem_range.mp hj
        have hF26 := e26 _ _ hF25
        walk_at "ws"
        refine if_c (fun hb1 => ?_) (fun hb1 => ?_)
        · walk_at "ws"
          exact hE _ _ (by rw [hb1]; rfl) rfl (Evl.Ex.refl _)
        · walk_at "ws"
          refine if_c (fun hb2 => ?_) (fun hb2 => ?_)
          · walk_at "ws"
            exact hE _ _ (by rw [hb1, hb2]; rfl) rfl (Evl.Ex.refl _)
          · walk_at "ws"
            refine if_c (fun hb3 => ?_) (fun hb3 => ?_)
            · walk_at "ws"
              exact hE _ _ (by rw [hb1, hb2, hb3]; rfl) rfl (Evl.Ex.refl _)
            · exact hN _ (by rw [hb1, hb2, hb3]; rfl) (Evl.Ex.refl _)
      intro DS H26 n26 e26 h26
      generalize hSP : (List.range NT).filter (fun j : Nat => decide ((j : Int) < 20) || (decide ((NT : Int) - 5 < (j : Int)) || decide ((j : Int) % 97 = 5))) = SP at h26
      have hSPm : ∀ j ∈ SP, j < NT := fun j hj => by
        rw [← hSP] at hj
        exact List.mem_range.mp (List.mem_filter.mp hj).1
      have hSPl : SP.length ≤ 24012 := by
        rw [← hSP]
        refine Nat.le_trans (List.length_filter_le _ _) ?_
        rw [List.length_range]
        exact hbound
      have hall : (toldOf ws ++ toldOf last).length = NT := by rw [List.length_append, toldOf_len, toldOf_len]; exact hNT
      have F26 := F25.up e26
      have hF26 := e26 _ _ hF25
      have hT1'' := e26 _ _ (e25 _ _ hT1')
      have hT4'' := e26 _ _ (e25 _ _ hT4')
      have hT6' : ∀ (i : Nat) x v, (toldOf (ws ++ last))[i]? = some x → ysT[i]? = some v → PrAt H26 v x := fun i x v g1 g2 => (hT6 i x v g1 g2).up (Ex.t (ex_tr e26 E25))
      rw [toldOf_app] at hT5 hT6'
      -- the told pairs
      walk_at "ws"
      refine lcR (wl_list (L := SP) (enc := fun (j : Nat) => V.int (j : Int))) (by walk_at "wp") (by omega) (fun (j : Nat) y H => ∃ x, (toldOf ws ++ toldOf last)[j]? = some x ∧ PrAt H y x) (fun j y H H' e ⟨x, g1, g2⟩ => ⟨x, g1, g2.up e⟩) (fun H' e => Evl.sq_of (e _ _ h26)) ?_ ?_
      · intro j H27 hj e27 EE N hE
        have hF27 := e27 _ _ hF26
        walk_at "ws"
        refine ⟨f, s, ns, k, nd, ws, last, p', q', j, rfl, F26.up e27, by rw [hall]; exact hSPm j hj, fun v H28 x e28 hx hp => ?_⟩
        exact hE _ _ ⟨x, hx, hp⟩ e28
      intro D3 y3 H27 n27 e27 hy3l hy3 h27
      have h26' := e27 _ _ h26
      have hT1a := e27 _ _ hT1''
      have hT4a := e27 _ _ hT4''
      walk_at "ws"
      refine lcR (wl_list (L := SP) (enc := fun (j : Nat) => V.int (j : Int))) (by walk_at "wp") (by omega) (fun (j : Nat) y H => ∃ x, (toldOf ws ++ toldOf last)[j]? = some x ∧ PrAt H y x) (fun j y H H' e ⟨x, g1, g2⟩ => ⟨x, g1, g2.up e⟩) (fun H' e => Evl.sq_of (e _ _ h26')) ?_ ?_
      · intro j H28 hj e28 EE N hE
        have hT1b := e28 _ _ hT1a
        have hT4b := e28 _ _ hT4a
        have hjl := hSPm j hj
        obtain ⟨v, hv⟩ : ∃ v, ysT[j]? = some v := ⟨ysT[j]'(by omega), by simp [show j < ysT.length by omega]⟩
        obtain ⟨x, hx⟩ : ∃ x, (toldOf ws ++ toldOf last)[j]? = some x := ⟨_, List.getElem?_eq_getElem (by omega)⟩
        walk_at "ws"
        refine w_ixT (n := j) (Evl.st_of hT4b) hv ?_
        exact hE _ _ ⟨x, hx, (hT6' j x v hx hv).up (Ex.t (ex_tr e28 e27))⟩ (Evl.Ex.refl _)
      intro D4 y4 H28 n28 e28 hy4l hy4 h28
      have dpr : ∀ (y : List V) (H' : Hp), y.length = SP.length → (∀ (i : Nat) (j : Nat) v, SP[i]? = some j → y[i]? = some v → ∃ x, (toldOf ws ++ toldOf last)[j]? = some x ∧ PrAt H' v x) → DpAll K H' y ((SP.map fun j => (toldOf ws ++ toldOf last).getD j (0, 0)).map prD) := fun y H' hl hy => by
        refine dp_prs (by rw [hl, List.length_map]) fun i x v g1 g2 => ?_
        rw [List.getElem?_map] at g1
        obtain ⟨j, hj, rfl⟩ := Option.map_eq_some_iff.mp g1
        obtain ⟨x, hx, hp⟩ := hy i j v hj g2
        have e : (toldOf ws ++ toldOf last).getD j (0, 0) = x := by simp [List.getD_eq_getElem?_getD, hx]
        rw [e]
        exact hp
      refine w_neSame (.lst (Evl.sq_of (e28 _ _ h27)) (dpr y3 H28 hy3l fun i j v g1 g2 => ?_)) (.lst (Evl.sq_of h28) (dpr y4 H28 hy4l hy4)) (prD_shaped _) ?_
      · obtain ⟨x, hx, hp⟩ := hy3 i j v g1 g2
        exact ⟨x, hx, hp.up (Ex.t e28)⟩
      have E28 : Ex H22 H28 := ex_tr e28 (ex_tr e27 (ex_tr e26 (ex_tr E25 E23)))
      have P28 := P22.up E28
      have M28 := ml_ex M22 E28
      have W28 := W22.up E28
      -- a letter and the rest of the text
      walk_at "ws"
      refine ⟨pn, pc, _, nd.txt.length, rfl, P28, by omega, hXp, by omega, fun at_ H29 m29 p29 hat => ?_⟩
      have W29 := W28.upD (P28.exd m29)
      have M29 := ml_tr M28 m29
      obtain ⟨⟨dW', nW', dnW', rW', hW1', hW2', hW3'⟩, _, _⟩ := id W29
      obtain ⟨c, hc⟩ : ∃ c, nd.txt[at_]? = some c := ⟨nd.txt[at_], by simp [hat]⟩
      have hcs : (nd.txt.length : Int) - (at_ : Int) = ((nd.txt.length - at_ : Nat) : Int) := by omega
      walk_at "ws"
      refine ⟨wv, ls, ns, k, nd, c, at_, rfl, W29, hc, ?_⟩
      walk_at "ws"
      refine w_ixSI (n := at_) rfl (by omega) hc ?_
      walk_at "ws"
      refine if_f (by simp) ?_
      walk_at "ws"
      rw [hcs]
      refine ⟨wv, ls, ns, k, nd, at_, nd.txt.length - at_, rfl, W29, by omega, hX2, fun H30 e30 => ?_⟩
      have ew2 : (nd.txt.drop at_).take (nd.txt.length - at_) = nd.txt.drop at_ := List.take_of_length_le (by simp)
      rw [ew2]
      walk_at "ws"
      refine w_slSe (by omega) (cut_from (n := at_) rfl) ?_
      walk_at "ws"
      refine if_f (by simp) ?_
      walk_at "ws"
      exact got ⟨_, _, _, _, _, _, _, _, _, _, _, _, _, rfl, ml_ex M29 e30, (p29.up e30).le (by omega)⟩
    · rintro σ H8 ⟨b6, b7, b8, b9, b10, b11, b12, b13, b14, b15, b16, b17, b18, rfl, M8, P8⟩
      walk_at "ws"
      exact q H8
end
end Wk
namespace Wk
open PySem PySem.Spec PyProof.Rows L2
theorem dv_check_letters {P : Program} {w : World} {K : PySem.W.Frag} {mg : Str → Option Value} {base : Heap} {f : Addr} {cdv : Value} {A : Around} {outer : List Env} {s : Shared} {H : Hp} {E : XK} (T : Tx K mg)
    (hr : Room 0 (A.deeper (envOfC "check_letters" (defScope s_check_letters) s.heap.objs.size f cdv))) :
    PSs (cxOf CX0 P w K mg base N_check_letters "check_letters" (defScope s_check_letters) f cdv A outer s H E).nox (defBody s_check_letters) (t_check_letters K) := by
  have hu := hu_of hr
  have nd := sc_check_letters.nd
  exact (pss_cons (ps_if (PW.pt (pw_or (pt_not (pt_val (pe_callB call_isi (by rfl) T.f_isinstance (by decide +kernel) (pa_cons (pv 0) (pa_cons (pe_bltn (v := .ty "str") (by rfl) T.f_str (by decide +kernel) rfl) pa_nil))))) (pw_or (pt_not (pt_chain o_leI o_leI pe_int (pe_callB c_lenS (by rfl) T.f_len (by decide +kernel) (pa_cons (pv 0) pa_nil)) pe_int)) (pw_or1 (pt_cmpR o_ltI (pe_lenSetS rfl rfl T.f_len rfl T.f_set (pv 0)) (pe_callB c_lenS (by rfl) T.f_len (by decide +kernel) (pa_cons (pv 0) pa_nil)) (nomark _)))))) (pss_one ps_never) pss_nil)
    (pss_one (ps_if (pt_not (pt_val (pe_callB (cr_all rfl) (by rfl) T.f_all (by decide +kernel) (pa_cons (pe_lc (own := [("letter", 1)]) rfl nd (pi_str (pv 0)) (blkOk_by (own := [("letter", 1)]) (N := N_check_letters) (sc := defScope s_check_letters) (by decide +kernel)) (fun _ _ _ _ _ => pg_name (i := 1) nd rfl (Or.inl rfl)) (fun _ _ _ _ _ => pts_nil) (fun _ _ _ _ _ => pe_cmpR op_inS (pv 1) (pe_glob rfl T.s_SMALL ⟨T.tk_SMALL, rfl⟩) (by rfl))) pa_nil)))) (pss_one ps_never) pss_nil)))
theorem mk_check_letters {P : Program} {w : World} {K : PySem.W.Frag} {mg : Str → Option Value} {base : Heap} {sp : Sp} (T : Tx K mg)
    (len : ∀ vs H Q E, sp vs H Q E → vs.length = ps_check_letters.length) (rd : ∀ vs H Q E, sp vs H Q E → t_check_letters K { nx := fun _ H' => Q .non H', rt := Q } (start N_check_letters vs) H) :
    FnOk P w K mg base CX0 1 (f_check_letters K) (fd_check_letters K) ps_check_letters sp :=
  FunD.ok T.F_check_letters sc_check_letters len fun cdv A outer s H vs Q E hr hsp => ⟨_, PSs.nox (dv_check_letters (E := E) T hr), rd vs H Q E hsp⟩
theorem dv_is_word {P : Program} {w : World} {K : PySem.W.Frag} {mg : Str → Option Value} {base : Heap} {f : Addr} {cdv : Value} {A : Around} {outer : List Env} {s : Shared} {H : Hp} {E : XK} (T : Tx K mg)
    (hr : Room 0 (A.deeper (envOfC "is_word" (defScope s_is_word) s.heap.objs.size f cdv))) :
    PSs (cxOf CX0 P w K mg base N_is_word "is_word" (defScope s_is_word) f cdv A outer s H E).nox (defBody s_is_word) (t_is_word K) := by
  have hu := hu_of hr
  have nd := sc_is_word.nd
  exact (pss_cons (ps_if (PW.pt (pw_or (pt_not (pt_val (pe_callB call_isi (by rfl) T.f_isinstance (by decide +kernel) (pa_cons (pv 1) (pa_cons (pe_bltn (v := .ty "str") (by rfl) T.f_str (by decide +kernel) rfl) pa_nil))))) (pw_or1 (pt_not (pt_chain o_leI o_leI pe_int (pe_callB c_lenS (by rfl) T.f_len (by decide +kernel) (pa_cons (pv 1) pa_nil)) (pe_glob rfl T.i_MOST_WIDTH ⟨T.tk_MOST_WIDTH, rfl⟩)))))) (pss_one (ps_ret pe_bl)) pss_nil)
    (pss_one (ps_ret (pe_callB (cr_all rfl) (by rfl) T.f_all (by decide +kernel) (pa_cons (pe_lc (own := [("letter", 2)]) rfl nd (pi_str (pv 1)) (blkOk_by (own := [("letter", 2)]) (N := N_is_word) (sc := defScope s_is_word) (by decide +kernel)) (fun _ _ _ _ _ => pg_name (i := 2) nd rfl (Or.inl rfl)) (fun _ _ _ _ _ => pts_nil) (fun _ _ _ _ _ => pe_cmpR op_inS (pv 2) (pv 0) (by rfl))) pa_nil)))))
theorem mk_is_word {P : Program} {w : World} {K : PySem.W.Frag} {mg : Str → Option Value} {base : Heap} {sp : Sp} (T : Tx K mg)
    (len : ∀ vs H Q E, sp vs H Q E → vs.length = ps_is_word.length) (rd : ∀ vs H Q E, sp vs H Q E → t_is_word K { nx := fun _ H' => Q .non H', rt := Q } (start N_is_word vs) H) :
    FnOk P w K mg base CX0 1 (f_is_word K) (fd_is_word K) ps_is_word sp :=
  FunD.ok T.F_is_word sc_is_word len fun cdv A outer s H vs Q E hr hsp => ⟨_, PSs.nox (dv_is_word (E := E) T hr), rd vs H Q E hsp⟩
theorem dv_check_words {P : Program} {w : World} {K : PySem.W.Frag} {mg : Str → Option Value} {base : Heap} {f : Addr} {cdv : Value} {A : Around} {outer : List Env} {s : Shared} {H : Hp} {E : XK} {sp_check_letters : Sp} {sp_is_word : Sp} (T : Tx K mg)
    (hr : Room 1 (A.deeper (envOfC "check_words" (defScope s_check_words) s.heap.objs.size f cdv)))
    (G_check_letters : FnOk P w K mg base CX0 1 (f_check_letters K) (fd_check_letters K) ps_check_letters sp_check_letters)
    (G_is_word : FnOk P w K mg base CX0 1 (f_is_word K) (fd_is_word K) ps_is_word sp_is_word) :
    PSs (cxOf CX0 P w K mg base N_check_words "check_words" (defScope s_check_words) f cdv A outer s H E).nox (defBody s_check_words) (t_check_words K sp_check_letters sp_is_word) := by
  have hu := hu_of hr
  have nd := sc_check_words.nd
  exact (pss_cons (ps_expr (pe_call G_check_letters (hr.mono (by first | decide | omega)) rfl T.g_check_letters T.k_check_letters T.b_check_letters .nil pass0 (pa_cons (pv 0) pa_nil)))
    (pss_cons (ps_for PassesOwn.never rfl (pi_enum rfl T.f_enumerate (pa_cons (pv 1) pa_nil)) (pg_tup rfl (pgs_cons (pg_name (i := 2) nd rfl (Or.inl rfl)) (pgs_cons (pg_name (i := 3) nd rfl (Or.inl rfl)) pgs_nil))) (pss_one (ps_if (PW.pt (pw_or (pt_cmpR op_eq (pv 2) (pe_glob rfl T.i_MOST_WORDS ⟨T.tk_MOST_WORDS, rfl⟩) (nomark _)) (pw_or (pt_not (pt_val (pe_call G_is_word (hr.mono (by first | decide | omega)) rfl T.g_is_word T.k_is_word T.b_is_word .nil pass0 (pa_cons (pv 0) (pa_cons (pv 3) pa_nil))))) (pw_or (pt_cmpR op_ne (pe_callB c_lenS (by rfl) T.f_len (by decide +kernel) (pa_cons (pv 3) pa_nil)) (pe_callB c_lenS (by rfl) T.f_len (by decide +kernel) (pa_cons (pe_ix ix_list (pv 1) pe_int (fun _ _ => rfl)) pa_nil)) (nomark _)) (pw_or1 (pt_cmpR op_in_seq (pv 3) (pe_slice sl_list (pv 1) po_none (po_some (pv 2))) (by rfl))))))) (pss_one ps_never) pss_nil)))
    (pss_one (ps_if (pt_cmpR op_eq (pe_callB c_lenQ (by rfl) T.f_len (by decide +kernel) (pa_cons (pv 1) pa_nil)) pe_int (nomark _)) (pss_one ps_never) pss_nil))))
theorem mk_check_words {P : Program} {w : World} {K : PySem.W.Frag} {mg : Str → Option Value} {base : Heap} {sp_check_letters : Sp} {sp_is_word : Sp} {sp : Sp} (T : Tx K mg) (G_check_letters : FnOk P w K mg base CX0 1 (f_check_letters K) (fd_check_letters K) ps_check_letters sp_check_letters) (G_is_word : FnOk P w K mg base CX0 1 (f_is_word K) (fd_is_word K) ps_is_word sp_is_word)
    (len : ∀ vs H Q E, sp vs H Q E → vs.length = ps_check_words.length) (rd : ∀ vs H Q E, sp vs H Q E → t_check_words K sp_check_letters sp_is_word { nx := fun _ H' => Q .non H', rt := Q } (start N_check_words vs) H) :
    FnOk P w K mg base CX0 2 (f_check_words K) (fd_check_words K) ps_check_words sp :=
  FunD.ok T.F_check_words sc_check_words len fun cdv A outer s H vs Q E hr hsp => ⟨_, PSs.nox (dv_check_words (E := E) T hr G_check_letters G_is_word), rd vs H Q E hsp⟩
theorem dv_check_text {P : Program} {w : World} {K : PySem.W.Frag} {mg : Str → Option Value} {base : Heap} {f : Addr} {cdv : Value} {A : Around} {outer : List Env} {s : Shared} {H : Hp} {E : XK} (T : Tx K mg)
    (hr : Room 0 (A.deeper (envOfC "check_text" (defScope s_check_text) s.heap.objs.size f cdv))) :
    PSs (cxOf CX0 P w K mg base N_check_text "check_text" (defScope s_check_text) f cdv A outer s H E).nox (defBody s_check_text) (t_check_text K) := by
  have hu := hu_of hr
  have nd := sc_check_text.nd
  exact (pss_cons (ps_if (pt_not (pt_val (pe_callB call_isi (by rfl) T.f_isinstance (by decide +kernel) (pa_cons (pv 1) (pa_cons (pe_bltn (v := .ty "str") (by rfl) T.f_str (by decide +kernel) rfl) pa_nil))))) (pss_one ps_never) pss_nil)
    (pss_one (ps_for PassesOwn.never rfl (pi_enumS rfl T.f_enumerate (pa_cons (pv 1) pa_nil)) (pg_tup rfl (pgs_cons (pg_name (i := 2) nd rfl (Or.inl rfl)) (pgs_cons (pg_name (i := 3) nd rfl (Or.inl rfl)) pgs_nil))) (pss_one (ps_if (pt_cmpR op_notInS (pv 3) (pv 0) (by rfl)) (pss_one ps_never) pss_nil)))))
theorem mk_check_text {P : Program} {w : World} {K : PySem.W.Frag} {mg : Str → Option Value} {base : Heap} {sp : Sp} (T : Tx K mg)
    (len : ∀ vs H Q E, sp vs H Q E → vs.length = ps_check_text.length) (rd : ∀ vs H Q E, sp vs H Q E → t_check_text K { nx := fun _ H' => Q .non H', rt := Q } (start N_check_text vs) H) :
    FnOk P w K mg base CX0 1 (f_check_text K) (fd_check_text K) ps_check_text sp :=
  FunD.ok T.F_check_text sc_check_text len fun cdv A outer s H vs Q E hr hsp => ⟨_, PSs.nox (dv_check_text (E := E) T hr), rd vs H Q E hsp⟩
theorem dv_trace {P : Program} {w : World} {K : PySem.W.Frag} {mg : Str → Option Value} {base : Heap} {f : Addr} {cdv : Value} {A : Around} {outer : List Env} {s : Shared} {H : Hp} {E : XK} {sp_check_text : Sp} {sp_WindowTurn_init : Sp} {sp_Trace_init : Sp} (T : Tx K mg)
    (hr : Room 3 (A.deeper (envOfC "trace" (defScope s_trace) s.heap.objs.size f cdv)))
    (G_check_text : FnOk P w K mg base CX0 1 (f_check_text K) (fd_check_text K) ps_check_text sp_check_text)
    (G_WindowTurn_init : FnOk P w K mg base CX0 2 (f_WindowTurn_init K) (fd_WindowTurn_init K) ps_WindowTurn_init sp_WindowTurn_init)
    (G_Trace_init : FnOk P w K mg base CX0 1 (f_Trace_init K) (fd_Trace_init K) ps_Trace_init sp_Trace_init) :
    PSs (cxOf CX0 P w K mg base N_trace "trace" (defScope s_trace) f cdv A outer s H E).nox (defBody s_trace) (t_trace K sp_check_text sp_WindowTurn_init sp_Trace_init) := by
  have hu := hu_of hr
  have nd := sc_trace.nd
  exact (pss_cons (ps_expr (pe_call G_check_text (hr.mono (by first | decide | omega)) rfl T.g_check_text T.k_check_text T.b_check_text .nil pass0 (pa_cons (pe_fld (pv 0) rfl) (pa_cons (pv 1) pa_nil))))
    (pss_cons (ps_if (pt_cmpR o_gtI (pe_callB c_lenS (by rfl) T.f_len (by decide +kernel) (pa_cons (pv 1) pa_nil)) (pe_glob rfl T.i_MOST_LETTERS ⟨T.tk_MOST_LETTERS, rfl⟩) (nomark _)) (pss_one ps_never) pss_nil)
    (pss_cons (ps_asg (pe_tup (pa_cons (pe_lst pa_nil) (pa_cons (pe_lst pa_nil) (pa_cons pe_int (pa_cons pe_int pa_nil))))) (pg_tup rfl (pgs_cons (pg_name (i := 2) nd rfl (Or.inl rfl)) (pgs_cons (pg_name (i := 3) nd rfl (Or.inl rfl)) (pgs_cons (pg_name (i := 4) nd rfl (Or.inr rfl)) (pgs_cons (pg_name (i := 5) nd rfl (Or.inl rfl)) pgs_nil))))))
    (pss_cons (ps_while PassesOwn.never (PW.pt (pw_and (pt_cmp (pc_notN (pv 4))) (pw_and1 (pt_cmpR o_leI (pe_op o_addI (pv 4) (pe_fld (pv 0) rfl)) (pe_callB c_lenS (by rfl) T.f_len (by decide +kernel) (pa_cons (pv 1) pa_nil)) (nomark _))))) (pss_cons (ps_set (i := 6) nd rfl (Or.inl rfl) (pe_make T.mk_WindowTurn G_WindowTurn_init (hr.mono (by first | decide | omega)) rfl T.g_WindowTurn T.b_WindowTurn_init .nil pass0 (pa_cons (pv 0) (pa_cons (pv 5) (pa_cons (pe_slice sl_str (pv 1) (po_some (pv 4)) (po_some (pe_op o_addI (pe_op o_addI (pv 4) (pe_fld (pv 0) rfl)) pe_int))) pa_nil)))))
    (pss_cons (ps_expr (pe_bm PySem.F.plainAttrs_list PySem.F.slot_list_append PySem.F.type_list_append mt_append (pv 2) (pa_cons (pe_tup (pa_cons (pv 4) (pa_cons (pv 5) (pa_cons (pe_callTy c_tupL (by rfl) T.f_tuple (by decide +kernel) (pa_cons (pe_fld (pv 6) rfl) pa_nil)) pa_nil)))) pa_nil)))
    (pss_cons (ps_expr (pe_bm PySem.F.plainAttrs_list PySem.F.slot_list_extend PySem.F.type_list_extend mt_extend (pv 3) (pa_cons (pe_lc (own := [("number", 7)]) rfl nd (pi_list (pe_fld (pv 6) rfl)) (blkOk_by (own := [("number", 7)]) (N := N_trace) (sc := defScope s_trace) (by decide +kernel)) (fun _ _ _ _ _ => pg_name (i := 7) nd rfl (Or.inl rfl)) (fun _ _ _ _ _ => pts_nil) (fun _ _ _ _ _ => pe_tup (pa_cons (pv 4) (pa_cons (pv 7) pa_nil)))) pa_nil)))
    (pss_cons (ps_set (i := 4) nd rfl (Or.inr rfl) (pe_ifExp (pt_cmp (pc_isN (pe_fld (pv 6) rfl))) pe_non (pe_op o_addI (pv 4) (pe_fld (pv 6) rfl))))
    (pss_one (ps_set (i := 5) nd rfl (Or.inl rfl) (pe_fld (pv 6) rfl))))))))
    (pss_one (ps_ret (pe_make T.mk_Trace G_Trace_init (hr.mono (by first | decide | omega)) rfl T.g_Trace T.b_Trace_init .nil pass0 (pa_cons (pv 2) (pa_cons (pv 3) pa_nil)))))))))
theorem mk_trace {P : Program} {w : World} {K : PySem.W.Frag} {mg : Str → Option Value} {base : Heap} {sp_check_text : Sp} {sp_WindowTurn_init : Sp} {sp_Trace_init : Sp} {sp : Sp} (T : Tx K mg) (G_check_text : FnOk P w K mg base CX0 1 (f_check_text K) (fd_check_text K) ps_check_text sp_check_text) (G_WindowTurn_init : FnOk P w K mg base CX0 2 (f_WindowTurn_init K) (fd_WindowTurn_init K) ps_WindowTurn_init sp_WindowTurn_init) (G_Trace_init : FnOk P w K mg base CX0 1 (f_Trace_init K) (fd_Trace_init K) ps_Trace_init sp_Trace_init)
    (len : ∀ vs H Q E, sp vs H Q E → vs.length = ps_trace.length) (rd : ∀ vs H Q E, sp vs H Q E → t_trace K sp_check_text sp_WindowTurn_init sp_Trace_init { nx := fun _ H' => Q .non H', rt := Q } (start N_trace vs) H) :
    FnOk P w K mg base CX0 4 (f_trace K) (fd_trace K) ps_trace sp :=
  FunD.ok T.F_trace sc_trace len fun cdv A outer s H vs Q E hr hsp => ⟨_, PSs.nox (dv_trace (E := E) T hr G_check_text G_WindowTurn_init G_Trace_init), rd vs H Q E hsp⟩
theorem dv_is_name {P : Program} {w : World} {K : PySem.W.Frag} {mg : Str → Option Value} {base : Heap} {f : Addr} {cdv : Value} {A : Around} {outer : List Env} {s : Shared} {H : Hp} {E : XK} (T : Tx K mg)
    (hr : Room 0 (A.deeper (envOfC "is_name" (defScope s_is_name) s.heap.objs.size f cdv))) :
    PSs (cxOf CX0 P w K mg base N_is_name "is_name" (defScope s_is_name) f cdv A outer s H E).nox (defBody s_is_name) (t_is_name K) := by
  have hu := hu_of hr
  have nd := sc_is_name.nd
  exact (pss_one (ps_ret (pe_and (pe_callB call_isi (by rfl) T.f_isinstance (by decide +kernel) (pa_cons (pv 0) (pa_cons (pe_bltn (v := .ty "str") (by rfl) T.f_str (by decide +kernel) rfl) pa_nil))) (pe_and (pe_chain o_leI o_leI pe_int (pe_callB c_lenS (by rfl) T.f_len (by decide +kernel) (pa_cons (pv 0) pa_nil)) (pe_glob rfl T.i_MOST_NAME ⟨T.tk_MOST_NAME, rfl⟩)) (pe_one (pe_callB (cr_all rfl) (by rfl) T.f_all (by decide +kernel) (pa_cons (pe_lc (own := [("sign", 1)]) rfl nd (pi_str (pv 0)) (blkOk_by (own := [("sign", 1)]) (N := N_is_name) (sc := defScope s_is_name) (by decide +kernel)) (fun _ _ _ _ _ => pg_name (i := 1) nd rfl (Or.inl rfl)) (fun _ _ _ _ _ => pts_nil) (fun _ _ _ _ _ => pe_cmpR op_inS (pv 1) (pe_glob rfl T.s_CAPITALS ⟨T.tk_CAPITALS, rfl⟩) (by rfl))) pa_nil)))))))
theorem mk_is_name {P : Program} {w : World} {K : PySem.W.Frag} {mg : Str → Option Value} {base : Heap} {sp : Sp} (T : Tx K mg)
    (len : ∀ vs H Q E, sp vs H Q E → vs.length = ps_is_name.length) (rd : ∀ vs H Q E, sp vs H Q E → t_is_name K { nx := fun _ H' => Q .non H', rt := Q } (start N_is_name vs) H) :
    FnOk P w K mg base CX0 1 (f_is_name K) (fd_is_name K) ps_is_name sp :=
  FunD.ok T.F_is_name sc_is_name len fun cdv A outer s H vs Q E hr hsp => ⟨_, PSs.nox (dv_is_name (E := E) T hr), rd vs H Q E hsp⟩
theorem dv_is_count {P : Program} {w : World} {K : PySem.W.Frag} {mg : Str → Option Value} {base : Heap} {f : Addr} {cdv : Value} {A : Around} {outer : List Env} {s : Shared} {H : Hp} {E : XK} (T : Tx K mg)
    (hr : Room 0 (A.deeper (envOfC "is_count" (defScope s_is_count) s.heap.objs.size f cdv))) :
    PSs (cxOf CX0 P w K mg base N_is_count "is_count" (defScope s_is_count) f cdv A outer s H E).nox (defBody s_is_count) (t_is_count K) := by
  have hu := hu_of hr
  have nd := sc_is_count.nd
  exact (pss_one (ps_ret (pe_and (pe_callB call_isi (by rfl) T.f_isinstance (by decide +kernel) (pa_cons (pv 0) (pa_cons (pe_bltn (v := .ty "int") (by rfl) T.f_int (by decide +kernel) rfl) pa_nil))) (pe_and (pe_not (pe_callB call_isi (by rfl) T.f_isinstance (by decide +kernel) (pa_cons (pv 0) (pa_cons (pe_bltn (v := .ty "bool") (by rfl) T.f_bool (by decide +kernel) rfl) pa_nil)))) (pe_one (pe_chain o_leI o_leI pe_int (pv 0) (pe_glob rfl T.i_MOST_COUNT ⟨T.tk_MOST_COUNT, rfl⟩)))))))
theorem mk_is_count {P : Program} {w : World} {K : PySem.W.Frag} {mg : Str → Option Value} {base : Heap} {sp : Sp} (T : Tx K mg)
    (len : ∀ vs H Q E, sp vs H Q E → vs.length = ps_is_count.length) (rd : ∀ vs H Q E, sp vs H Q E → t_is_count K { nx := fun _ H' => Q .non H', rt := Q } (start N_is_count vs) H) :
    FnOk P w K mg base CX0 1 (f_is_count K) (fd_is_count K) ps_is_count sp :=
  FunD.ok T.F_is_count sc_is_count len fun cdv A outer s H vs Q E hr hsp => ⟨_, PSs.nox (dv_is_count (E := E) T hr), rd vs H Q E hsp⟩
theorem dv_is_part {P : Program} {w : World} {K : PySem.W.Frag} {mg : Str → Option Value} {base : Heap} {f : Addr} {cdv : Value} {A : Around} {outer : List Env} {s : Shared} {H : Hp} {E : XK} {sp_is_count : Sp} {sp_is_name : Sp} (T : Tx K mg)
    (hr : Room 1 (A.deeper (envOfC "is_part" (defScope s_is_part) s.heap.objs.size f cdv)))
    (G_is_count : FnOk P w K mg base CX0 1 (f_is_count K) (fd_is_count K) ps_is_count sp_is_count)
    (G_is_name : FnOk P w K mg base CX0 1 (f_is_name K) (fd_is_name K) ps_is_name sp_is_name) :
    PSs (cxOf CX0 P w K mg base N_is_part "is_part" (defScope s_is_part) f cdv A outer s H E).nox (defBody s_is_part) (t_is_part K sp_is_count sp_is_name) := by
  have hu := hu_of hr
  have nd := sc_is_part.nd
  exact (pss_cons (ps_if (PW.pt (pw_or (pt_not (pt_val (pe_callB call_isiT (by rfl) T.f_isinstance (by decide +kernel) (pa_cons (pv 2) (pa_cons (pe_tup (pa_cons (pe_bltn (v := .ty "tuple") (by rfl) T.f_tuple (by decide +kernel) rfl) (pa_cons (pe_bltn (v := .ty "list") (by rfl) T.f_list (by decide +kernel) rfl) pa_nil))) pa_nil))))) (pw_or (pt_cmpR op_ne (pe_callB c_lenQ (by rfl) T.f_len (by decide +kernel) (pa_cons (pv 2) pa_nil)) pe_int (nomark _)) (pw_or1 (pt_not (pt_val (pe_callB call_isi (by rfl) T.f_isinstance (by decide +kernel) (pa_cons (pe_ix ix_tup (pv 2) pe_int (fun _ _ => rfl)) (pa_cons (pe_bltn (v := .ty "str") (by rfl) T.f_str (by decide +kernel) rfl) pa_nil))))))))) (pss_one (ps_ret pe_bl)) pss_nil)
    (pss_cons (ps_if (pt_not (pt_val (pe_call G_is_count (hr.mono (by first | decide | omega)) rfl T.g_is_count T.k_is_count T.b_is_count .nil pass0 (pa_cons (pe_ix ix_tup (pv 2) pe_int (fun _ _ => rfl)) pa_nil)))) (pss_one (ps_ret pe_bl)) pss_nil)
    (pss_cons (ps_if (pt_val (pe_call G_is_name (hr.mono (by first | decide | omega)) rfl T.g_is_name T.k_is_name T.b_is_name .nil pass0 (pa_cons (pe_ix ix_tup (pv 2) pe_int (fun _ _ => rfl)) pa_nil))) (pss_one (ps_ret (pe_cmp (pc_din hu (pe_ix ix_tup (pv 2) pe_int (fun _ _ => rfl)) (pv 1)) (by rfl)))) pss_nil)
    (pss_one (ps_ret (pe_and (pe_chain o_leI o_leI pe_int (pe_callB c_lenS (by rfl) T.f_len (by decide +kernel) (pa_cons (pe_ix ix_tup (pv 2) pe_int (fun _ _ => rfl)) pa_nil)) (pe_glob rfl T.i_MOST_SIGNS ⟨T.tk_MOST_SIGNS, rfl⟩)) (pe_one (pe_callB (cr_all rfl) (by rfl) T.f_all (by decide +kernel) (pa_cons (pe_lc (own := [("letter", 3)]) rfl nd (pi_str (pe_ix ix_tup (pv 2) pe_int (fun _ _ => rfl))) (blkOk_by (own := [("letter", 3)]) (N := N_is_part) (sc := defScope s_is_part) (by decide +kernel)) (fun _ _ _ _ _ => pg_name (i := 3) nd rfl (Or.inl rfl)) (fun _ _ _ _ _ => pts_nil) (fun _ _ _ _ _ => pe_cmpR op_inS (pv 3) (pv 0) (by rfl))) pa_nil)))))))))
theorem mk_is_part {P : Program} {w : World} {K : PySem.W.Frag} {mg : Str → Option Value} {base : Heap} {sp_is_count : Sp} {sp_is_name : Sp} {sp : Sp} (T : Tx K mg) (G_is_count : FnOk P w K mg base CX0 1 (f_is_count K) (fd_is_count K) ps_is_count sp_is_count) (G_is_name : FnOk P w K mg base CX0 1 (f_is_name K) (fd_is_name K) ps_is_name sp_is_name)
    (len : ∀ vs H Q E, sp vs H Q E → vs.length = ps_is_part.length) (rd : ∀ vs H Q E, sp vs H Q E → t_is_part K sp_is_count sp_is_name { nx := fun _ H' => Q .non H', rt := Q } (start N_is_part vs) H) :
    FnOk P w K mg base CX0 2 (f_is_part K) (fd_is_part K) ps_is_part sp :=
  FunD.ok T.F_is_part sc_is_part len fun cdv A outer s H vs Q E hr hsp => ⟨_, PSs.nox (dv_is_part (E := E) T hr G_is_count G_is_name), rd vs H Q E hsp⟩
theorem dv_is_rule {P : Program} {w : World} {K : PySem.W.Frag} {mg : Str → Option Value} {base : Heap} {f : Addr} {cdv : Value} {A : Around} {outer : List Env} {s : Shared} {H : Hp} {E : XK} {sp_is_part : Sp} (T : Tx K mg)
    (hr : Room 2 (A.deeper (envOfC "is_rule" (defScope s_is_rule) s.heap.objs.size f cdv)))
    (G_is_part : FnOk P w K mg base CX0 2 (f_is_part K) (fd_is_part K) ps_is_part sp_is_part) :
    PSs (cxOf CX0 P w K mg base N_is_rule "is_rule" (defScope s_is_rule) f cdv A outer s H E).nox (defBody s_is_rule) (t_is_rule K sp_is_part) := by
  have hu := hu_of hr
  have nd := sc_is_rule.nd
  exact (pss_cons (ps_if (PW.pt (pw_or (pt_not (pt_val (pe_callB call_isiT (by rfl) T.f_isinstance (by decide +kernel) (pa_cons (pv 2) (pa_cons (pe_tup (pa_cons (pe_bltn (v := .ty "tuple") (by rfl) T.f_tuple (by decide +kernel) rfl) (pa_cons (pe_bltn (v := .ty "list") (by rfl) T.f_list (by decide +kernel) rfl) pa_nil))) pa_nil))))) (pw_or1 (pt_not (pt_chain o_leI o_leI pe_int (pe_callB c_lenQ (by rfl) T.f_len (by decide +kernel) (pa_cons (pv 2) pa_nil)) (pe_glob rfl T.i_MOST_PARTS ⟨T.tk_MOST_PARTS, rfl⟩)))))) (pss_one (ps_ret pe_bl)) pss_nil)
    (pss_one (ps_ret (pe_callB (cr_all rfl) (by rfl) T.f_all (by decide +kernel) (pa_cons (pe_lc (own := [("part", 3)]) rfl nd (pi_list (pv 2)) (blkOk_by (own := [("part", 3)]) (N := N_is_rule) (sc := defScope s_is_rule) (by decide +kernel)) (fun _ _ _ _ _ => pg_name (i := 3) nd rfl (Or.inl rfl)) (fun _ _ _ _ _ => pts_nil) (fun _ _ _ _ _ => pe_call G_is_part (hr.mono (by first | decide | omega)) rfl T.g_is_part T.k_is_part T.b_is_part .nil pass0 (pa_cons (pv 0) (pa_cons (pv 1) (pa_cons (pv 3) pa_nil))))) pa_nil)))))
theorem mk_is_rule {P : Program} {w : World} {K : PySem.W.Frag} {mg : Str → Option Value} {base : Heap} {sp_is_part : Sp} {sp : Sp} (T : Tx K mg) (G_is_part : FnOk P w K mg base CX0 2 (f_is_part K) (fd_is_part K) ps_is_part sp_is_part)
    (len : ∀ vs H Q E, sp vs H Q E → vs.length = ps_is_rule.length) (rd : ∀ vs H Q E, sp vs H Q E → t_is_rule K sp_is_part { nx := fun _ H' => Q .non H', rt := Q } (start N_is_rule vs) H) :
    FnOk P w K mg base CX0 3 (f_is_rule K) (fd_is_rule K) ps_is_rule sp :=
  FunD.ok T.F_is_rule sc_is_rule len fun cdv A outer s H vs Q E hr hsp => ⟨_, PSs.nox (dv_is_rule (E := E) T hr G_is_part), rd vs H Q E hsp⟩
theorem dv_check_rules {P : Program} {w : World} {K : PySem.W.Frag} {mg : Str → Option Value} {base : Heap} {f : Addr} {cdv : Value} {A : Around} {outer : List Env} {s : Shared} {H : Hp} {E : XK} {sp_is_name : Sp} {sp_is_rule : Sp} (T : Tx K mg)
    (hr : Room 3 (A.deeper (envOfC "check_rules" (defScope s_check_rules) s.heap.objs.size f cdv)))
    (G_is_name : FnOk P w K mg base CX0 1 (f_is_name K) (fd_is_name K) ps_is_name sp_is_name)
    (G_is_rule : FnOk P w K mg base CX0 3 (f_is_rule K) (fd_is_rule K) ps_is_rule sp_is_rule) :
    PSs (cxOf CX0 P w K mg base N_check_rules "check_rules" (defScope s_check_rules) f cdv A outer s H E).nox (defBody s_check_rules) (t_check_rules K sp_is_name sp_is_rule) := by
  have hu := hu_of hr
  have nd := sc_check_rules.nd
  exact (pss_cons (ps_if (pt_not (pt_chain o_leI o_leI pe_int (pe_callB c_lenDK (by rfl) T.f_len (by decide +kernel) (pa_cons (pv 1) pa_nil)) (pe_glob rfl T.i_MOST_RULES ⟨T.tk_MOST_RULES, rfl⟩))) (pss_one ps_never) pss_nil)
    (pss_one (ps_lock (ps_for PassesOwn.never rfl (pi_keys (pv 1)) (pg_name (i := 2) nd rfl (Or.inl rfl)) (pss_one (ps_if (PW.pt (pw_or (pt_not (pt_val (pe_call G_is_name (hr.mono (by first | decide | omega)) rfl T.g_is_name T.k_is_name T.b_is_name .nil pass0 (pa_cons (pv 2) pa_nil)))) (pw_or1 (pt_not (pt_val (pe_call G_is_rule (hr.mono (by first | decide | omega)) rfl T.g_is_rule T.k_is_rule T.b_is_rule .nil pass0 (pa_cons (pv 0) (pa_cons (pv 1) (pa_cons (pe_dget hu (pv 1) (pv 2) (fun _ _ => rfl)) pa_nil))))))))) (pss_one ps_never) pss_nil))))))
theorem mk_check_rules {P : Program} {w : World} {K : PySem.W.Frag} {mg : Str → Option Value} {base : Heap} {sp_is_name : Sp} {sp_is_rule : Sp} {sp : Sp} (T : Tx K mg) (G_is_name : FnOk P w K mg base CX0 1 (f_is_name K) (fd_is_name K) ps_is_name sp_is_name) (G_is_rule : FnOk P w K mg base CX0 3 (f_is_rule K) (fd_is_rule K) ps_is_rule sp_is_rule)
    (len : ∀ vs H Q E, sp vs H Q E → vs.length = ps_check_rules.length) (rd : ∀ vs H Q E, sp vs H Q E → t_check_rules K sp_is_name sp_is_rule { nx := fun _ H' => Q .non H', rt := Q } (start N_check_rules vs) H) :
    FnOk P w K mg base CX0 4 (f_check_rules K) (fd_check_rules K) ps_check_rules sp :=
  FunD.ok T.F_check_rules sc_check_rules len fun cdv A outer s H vs Q E hr hsp => ⟨_, PSs.nox (dv_check_rules (E := E) T hr G_is_name G_is_rule), rd vs H Q E hsp⟩
theorem dv_names_in {P : Program} {w : World} {K : PySem.W.Frag} {mg : Str → Option Value} {base : Heap} {f : Addr} {cdv : Value} {A : Around} {outer : List Env} {s : Shared} {H : Hp} {E : XK} {sp_is_name : Sp} (T : Tx K mg)
    (hr : Room 1 (A.deeper (envOfC "names_in" (defScope s_names_in) s.heap.objs.size f cdv)))
    (G_is_name : FnOk P w K mg base CX0 1 (f_is_name K) (fd_is_name K) ps_is_name sp_is_name) :
    PSs (cxOf CX0 P w K mg base N_names_in "names_in" (defScope s_names_in) f cdv A outer s H E).nox (defBody s_names_in) (t_names_in K sp_is_name) := by
  have hu := hu_of hr
  have nd := sc_names_in.nd
  exact (pss_cons (ps_set (i := 2) nd rfl (Or.inr rfl) (pe_lst pa_nil))
    (pss_cons (ps_set (i := 3) nd rfl (Or.inl rfl) (pe_lst (pa_cons (pv 1) pa_nil)))
    (pss_cons (ps_while PassesOwn.never (pt_truth (pv 3) (by intro _; rfl)) (pss_cons (ps_setLc (i := 4) (own := [("part", 5), ("count", 6)]) rfl nd rfl rfl (sw_true rfl rfl rfl (by decide +kernel)) (pi_list (pe_dget hu (pv 0) (pe_bm0 PySem.F.plainAttrs_list PySem.F.slot_list_pop PySem.F.type_list_pop mt_pop (pv 3)) (fun _ _ => rfl))) (blkOk_by (own := [("part", 5), ("count", 6)]) (N := N_names_in) (sc := defScope s_names_in) (by decide +kernel)) (fun _ _ _ _ _ => pg_tup rfl (pgs_cons (pg_name (i := 5) nd rfl (Or.inl rfl)) (pgs_cons (pg_name (i := 6) nd rfl (Or.inl rfl)) pgs_nil))) (fun _ _ _ _ _ => pts_one (PW.pt (pw_and (pt_val (pe_call G_is_name (hr.mono (by first | decide | omega)) rfl T.g_is_name T.k_is_name T.b_is_name .nil pass0 (pa_cons (pv 5) pa_nil))) (pw_and1 (pt_cmpR op_notIn_seq (pv 5) (pv 2) (by rfl)))))) (fun _ _ _ _ _ => pv 5))
    (pss_cons (ps_expr (pe_bm PySem.F.plainAttrs_list PySem.F.slot_list_extend PySem.F.type_list_extend mt_extend (pv 2) (pa_cons (pv 4) pa_nil)))
    (pss_one (ps_expr (pe_bm PySem.F.plainAttrs_list PySem.F.slot_list_extend PySem.F.type_list_extend mt_extend (pv 3) (pa_cons (pv 4) pa_nil)))))))
    (pss_one (ps_ret (pv 2))))))
theorem mk_names_in {P : Program} {w : World} {K : PySem.W.Frag} {mg : Str → Option Value} {base : Heap} {sp_is_name : Sp} {sp : Sp} (T : Tx K mg) (G_is_name : FnOk P w K mg base CX0 1 (f_is_name K) (fd_is_name K) ps_is_name sp_is_name)
    (len : ∀ vs H Q E, sp vs H Q E → vs.length = ps_names_in.length) (rd : ∀ vs H Q E, sp vs H Q E → t_names_in K sp_is_name { nx := fun _ H' => Q .non H', rt := Q } (start N_names_in vs) H) :
    FnOk P w K mg base CX0 2 (f_names_in K) (fd_names_in K) ps_names_in sp :=
  FunD.ok T.F_names_in sc_names_in len fun cdv A outer s H vs Q E hr hsp => ⟨_, PSs.nox (dv_names_in (E := E) T hr G_is_name), rd vs H Q E hsp⟩
theorem dv_ordered {P : Program} {w : World} {K : PySem.W.Frag} {mg : Str → Option Value} {base : Heap} {f : Addr} {cdv : Value} {A : Around} {outer : List Env} {s : Shared} {H : Hp} {E : XK} {sp_names_in : Sp} (T : Tx K mg)
    (hr : Room 2 (A.deeper (envOfC "ordered" (defScope s_ordered) s.heap.objs.size f cdv)))
    (G_names_in : FnOk P w K mg base CX0 2 (f_names_in K) (fd_names_in K) ps_names_in sp_names_in) :
    PSs (cxOf CX0 P w K mg base N_ordered "ordered" (defScope s_ordered) f cdv A outer s H E).nox (defBody s_ordered) (t_ordered K sp_names_in) := by
  have hu := hu_of hr
  have nd := sc_ordered.nd
  exact (pss_cons (ps_set (i := 1) nd rfl (Or.inr rfl) (pe_lst pa_nil))
    (pss_cons (ps_while PassesOwn.never (pt_cmpR o_ltI (pe_callB c_lenQ (by rfl) T.f_len (by decide +kernel) (pa_cons (pv 1) pa_nil)) (pe_callB c_lenDK (by rfl) T.f_len (by decide +kernel) (pa_cons (pv 0) pa_nil)) (nomark _)) (pss_one (ps_lock (ps_for PassesOwn.never rfl (pi_keys (pv 0)) (pg_name (i := 2) nd rfl (Or.inl rfl)) (pss_one (ps_if (PW.pt (pw_and (pt_cmpR op_notIn_seq (pv 2) (pv 1) (by rfl)) (pw_and1 (pt_val (pe_callB (cr_all rfl) (by rfl) T.f_all (by decide +kernel) (pa_cons (pe_lc (own := [("part", 3)]) rfl nd (pi_list (pe_call G_names_in (hr.mono (by first | decide | omega)) rfl T.g_names_in T.k_names_in T.b_names_in .nil pass0 (pa_cons (pv 0) (pa_cons (pv 2) pa_nil)))) (blkOk_by (own := [("part", 3)]) (N := N_ordered) (sc := defScope s_ordered) (by decide +kernel)) (fun _ _ _ _ _ => pg_name (i := 3) nd rfl (Or.inl rfl)) (fun _ _ _ _ _ => pts_nil) (fun _ _ _ _ _ => pe_cmpR op_in_seq (pv 3) (pv 1) (by rfl))) pa_nil)))))) (pss_one (ps_expr (pe_bm PySem.F.plainAttrs_list PySem.F.slot_list_append PySem.F.type_list_append mt_append (pv 1) (pa_cons (pv 2) pa_nil)))) pss_nil))))))
    (pss_one (ps_ret (pv 1)))))
theorem mk_ordered {P : Program} {w : World} {K : PySem.W.Frag} {mg : Str → Option Value} {base : Heap} {sp_names_in : Sp} {sp : Sp} (T : Tx K mg) (G_names_in : FnOk P w K mg base CX0 2 (f_names_in K) (fd_names_in K) ps_names_in sp_names_in)
    (len : ∀ vs H Q E, sp vs H Q E → vs.length = ps_ordered.length) (rd : ∀ vs H Q E, sp vs H Q E → t_ordered K sp_names_in { nx := fun _ H' => Q .non H', rt := Q } (start N_ordered vs) H) :
    FnOk P w K mg base CX0 3 (f_ordered K) (fd_ordered K) ps_ordered sp :=
  FunD.ok T.F_ordered sc_ordered len fun cdv A outer s H vs Q E hr hsp => ⟨_, PSs.nox (dv_ordered (E := E) T hr G_names_in), rd vs H Q E hsp⟩
theorem dv_far {P : Program} {w : World} {K : PySem.W.Frag} {mg : Str → Option Value} {base : Heap} {f : Addr} {cdv : Value} {A : Around} {outer : List Env} {s : Shared} {H : Hp} {E : XK} {sp_Walk_init : Sp} {sp_Walk_solved : Sp} {sp_WindowTurn_init : Sp} {sp_Far_init : Sp} (T : Tx K mg)
    (hr : Room 7 (A.deeper (envOfC "far" (defScope s_far) s.heap.objs.size f cdv)))
    (G_Walk_init : FnOk P w K mg base CX0 1 (f_Walk_init K) (fd_Walk_init K) ps_Walk_init sp_Walk_init)
    (G_Walk_solved : FnOk P w K mg base CX0 7 (f_Walk_solved K) (fd_Walk_solved K) ps_Walk_solved sp_Walk_solved)
    (G_WindowTurn_init : FnOk P w K mg base CX0 2 (f_WindowTurn_init K) (fd_WindowTurn_init K) ps_WindowTurn_init sp_WindowTurn_init)
    (G_Far_init : FnOk P w K mg base CX0 4 (f_Far_init K) (fd_Far_init K) ps_Far_init sp_Far_init) :
    PSs (cxOf CX0 P w K mg base N_far "far" (defScope s_far) f cdv A outer s H E).nox (defBody s_far) (t_far K sp_Walk_init sp_Walk_solved sp_WindowTurn_init sp_Far_init) := by
  have hu := hu_of hr
  have nd := sc_far.nd
  exact (pss_cons (ps_if (pt_cmpR op_ne (pe_fld (pv 0) rfl) (pe_fld (pv 1) rfl) (nomark _)) (pss_one ps_never) pss_nil)
    (pss_cons (ps_par3 (i := 2) (j := 3) (l := 4) rfl nd rfl rfl rfl (by decide) (by decide) (by decide) rfl rfl rfl (pa_cons (pe_make T.mk_Walk G_Walk_init (hr.mono (by first | decide | omega)) rfl T.g_Walk T.b_Walk_init .nil pass0 (pa_cons (pv 0) (pa_cons (pe_fld (pv 1) rfl) pa_nil))) (pa_cons (pe_fld (pv 1) rfl) (pa_cons (pe_fld (pv 0) rfl) pa_nil))) (by rfl))
    (pss_cons (ps_asg (pe_meth (pv 2) T.c_Walk T.me_Walk_solved G_Walk_solved (hr.mono (by first | decide | omega)) T.b_Walk_solved .nil pass0 (pa_cons (pv 3) (pa_cons pe_int (pa_cons pe_int pa_nil)))) (pg_tup rfl (pgs_cons (pg_name (i := 5) nd rfl (Or.inl rfl)) (pgs_cons (pg_name (i := 6) nd rfl (Or.inl rfl)) (pgs_cons (pg_name (i := 7) nd rfl (Or.inl rfl)) pgs_nil)))))
    (pss_cons (ps_set (i := 8) nd rfl (Or.inl rfl) (pe_lst pa_nil))
    (pss_cons (ps_if (pt_cmpR op_eq (pe_op o_addI (pv 5) (pv 4)) (pe_fld (pv 1) rfl) (nomark _)) (pss_cons (ps_set (i := 9) nd rfl (Or.inl rfl) (pe_make T.mk_WindowTurn G_WindowTurn_init (hr.mono (by first | decide | omega)) rfl T.g_WindowTurn T.b_WindowTurn_init .nil pass0 (pa_cons (pv 0) (pa_cons (pv 6) (pa_cons (pe_slice sl_str (pe_ix ix_tup (pe_fld (pe_ix ix_list (pe_fld (pe_fld (pv 1) rfl) rfl) (pv 3) (fun _ _ => rfl)) rfl) pe_int (fun _ _ => rfl)) (po_some (pe_un u_negI (pv 4))) po_none) pa_nil)))))
    (pss_one (ps_expr (pe_bm PySem.F.plainAttrs_list PySem.F.slot_list_append PySem.F.type_list_append mt_append (pv 8) (pa_cons (pe_tup (pa_cons (pv 5) (pa_cons (pe_callB c_lenQ (by rfl) T.f_len (by decide +kernel) (pa_cons (pe_fld (pv 9) rfl) pa_nil)) (pa_cons (pe_fld (pv 9) rfl) pa_nil)))) pa_nil))))) pss_nil)
    (pss_one (ps_ret (pe_make T.mk_Far G_Far_init (hr.mono (by first | decide | omega)) rfl T.g_Far T.b_Far_init .nil pass0 (pa_cons (pv 2) (pa_cons (pv 3) (pa_cons (pv 8) pa_nil)))))))))))
theorem mk_far {P : Program} {w : World} {K : PySem.W.Frag} {mg : Str → Option Value} {base : Heap} {sp_Walk_init : Sp} {sp_Walk_solved : Sp} {sp_WindowTurn_init : Sp} {sp_Far_init : Sp} {sp : Sp} (T : Tx K mg) (G_Walk_init : FnOk P w K mg base CX0 1 (f_Walk_init K) (fd_Walk_init K) ps_Walk_init sp_Walk_init) (G_Walk_solved : FnOk P w K mg base CX0 7 (f_Walk_solved K) (fd_Walk_solved K) ps_Walk_solved sp_Walk_solved) (G_WindowTurn_init : FnOk P w K mg base CX0 2 (f_WindowTurn_init K) (fd_WindowTurn_init K) ps_WindowTurn_init sp_WindowTurn_init) (G_Far_init : FnOk P w K mg base CX0 4 (f_Far_init K) (fd_Far_init K) ps_Far_init sp_Far_init)
    (len : ∀ vs H Q E, sp vs H Q E → vs.length = ps_far.length) (rd : ∀ vs H Q E, sp vs H Q E → t_far K sp_Walk_init sp_Walk_solved sp_WindowTurn_init sp_Far_init { nx := fun _ H' => Q .non H', rt := Q } (start N_far vs) H) :
    FnOk P w K mg base CX0 8 (f_far K) (fd_far K) ps_far sp :=
  FunD.ok T.F_far sc_far len fun cdv A outer s H vs Q E hr hsp => ⟨_, PSs.nox (dv_far (E := E) T hr G_Walk_init G_Walk_solved G_WindowTurn_init G_Far_init), rd vs H Q E hsp⟩
theorem dv_is_number {P : Program} {w : World} {K : PySem.W.Frag} {mg : Str → Option Value} {base : Heap} {f : Addr} {cdv : Value} {A : Around} {outer : List Env} {s : Shared} {H : Hp} {E : XK} (T : Tx K mg)
    (hr : Room 0 (A.deeper (envOfC "is_number" (defScope s_is_number) s.heap.objs.size f cdv))) :
    PSs (cxOf CX0 P w K mg base N_is_number "is_number" (defScope s_is_number) f cdv A outer s H E).nox (defBody s_is_number) (t_is_number K) := by
  have hu := hu_of hr
  have nd := sc_is_number.nd
  exact (pss_one (ps_ret (pe_and (pe_callB call_isi (by rfl) T.f_isinstance (by decide +kernel) (pa_cons (pv 0) (pa_cons (pe_bltn (v := .ty "int") (by rfl) T.f_int (by decide +kernel) rfl) pa_nil))) (pe_and (pe_not (pe_callB call_isi (by rfl) T.f_isinstance (by decide +kernel) (pa_cons (pv 0) (pa_cons (pe_bltn (v := .ty "bool") (by rfl) T.f_bool (by decide +kernel) rfl) pa_nil)))) (pe_one (pe_chain o_leI o_leI (pv 1) (pv 0) (pv 2)))))))
theorem mk_is_number {P : Program} {w : World} {K : PySem.W.Frag} {mg : Str → Option Value} {base : Heap} {sp : Sp} (T : Tx K mg)
    (len : ∀ vs H Q E, sp vs H Q E → vs.length = ps_is_number.length) (rd : ∀ vs H Q E, sp vs H Q E → t_is_number K { nx := fun _ H' => Q .non H', rt := Q } (start N_is_number vs) H) :
    FnOk P w K mg base CX0 1 (f_is_number K) (fd_is_number K) ps_is_number sp :=
  FunD.ok T.F_is_number sc_is_number len fun cdv A outer s H vs Q E hr hsp => ⟨_, PSs.nox (dv_is_number (E := E) T hr), rd vs H Q E hsp⟩
theorem dv_is_head {P : Program} {w : World} {K : PySem.W.Frag} {mg : Str → Option Value} {base : Heap} {f : Addr} {cdv : Value} {A : Around} {outer : List Env} {s : Shared} {H : Hp} {E : XK} {sp_is_number : Sp} (T : Tx K mg)
    (hr : Room 1 (A.deeper (envOfC "is_head" (defScope s_is_head) s.heap.objs.size f cdv)))
    (G_is_number : FnOk P w K mg base CX0 1 (f_is_number K) (fd_is_number K) ps_is_number sp_is_number) :
    PSs (cxOf CX0 P w K mg base N_is_head "is_head" (defScope s_is_head) f cdv A outer s H E).nox (defBody s_is_head) (t_is_head K sp_is_number) := by
  have hu := hu_of hr
  have nd := sc_is_head.nd
  exact (pss_cons (ps_if (PW.pt (pw_or (pt_not (pt_val (pe_callB call_isiT (by rfl) T.f_isinstance (by decide +kernel) (pa_cons (pv 0) (pa_cons (pe_tup (pa_cons (pe_bltn (v := .ty "tuple") (by rfl) T.f_tuple (by decide +kernel) rfl) (pa_cons (pe_bltn (v := .ty "list") (by rfl) T.f_list (by decide +kernel) rfl) pa_nil))) pa_nil))))) (pw_or (pt_cmpR op_ne (pe_callB c_lenQ (by rfl) T.f_len (by decide +kernel) (pa_cons (pv 0) pa_nil)) pe_int (nomark _)) (pw_or1 (pt_not (pt_val (pe_callB call_isi (by rfl) T.f_isinstance (by decide +kernel) (pa_cons (pe_ix ix_tup (pv 0) pe_int (fun _ _ => rfl)) (pa_cons (pe_bltn (v := .ty "str") (by rfl) T.f_str (by decide +kernel) rfl) pa_nil))))))))) (pss_one (ps_ret pe_bl)) pss_nil)
    (pss_cons (ps_if (pt_cmpR op_eq (pe_ix ix_tup (pv 0) pe_int (fun _ _ => rfl)) pe_str (nomark _)) (pss_one (ps_ret (pe_and (pe_call G_is_number (hr.mono (by first | decide | omega)) rfl T.g_is_number T.k_is_number T.b_is_number .nil pass0 (pa_cons (pe_ix ix_tup (pv 0) pe_int (fun _ _ => rfl)) (pa_cons pe_int (pa_cons (pe_op o_addI (pv 2) pe_int) pa_nil)))) (pe_one (pe_call G_is_number (hr.mono (by first | decide | omega)) rfl T.g_is_number T.k_is_number T.b_is_number .nil pass0 (pa_cons (pe_ix ix_tup (pv 0) pe_int (fun _ _ => rfl)) (pa_cons pe_int (pa_cons (pe_op o_subI (pv 3) pe_int) pa_nil)))))))) pss_nil)
    (pss_cons (ps_if (pt_cmpR op_eq (pe_ix ix_tup (pv 0) pe_int (fun _ _ => rfl)) pe_str (nomark _)) (pss_one (ps_ret (pe_call G_is_number (hr.mono (by first | decide | omega)) rfl T.g_is_number T.k_is_number T.b_is_number .nil pass0 (pa_cons (pe_ix ix_tup (pv 0) pe_int (fun _ _ => rfl)) (pa_cons pe_int (pa_cons (pe_op o_subI (pe_glob rfl T.i_MOST_TOLD ⟨T.tk_MOST_TOLD, rfl⟩) pe_int) pa_nil)))))) pss_nil)
    (pss_cons (ps_if (PW.pt (pw_or (pt_cmpR op_ne (pe_ix ix_tup (pv 0) pe_int (fun _ _ => rfl)) pe_str (nomark _)) (pw_or1 (pt_not (pt_val (pe_call G_is_number (hr.mono (by first | decide | omega)) rfl T.g_is_number T.k_is_number T.b_is_number .nil pass0 (pa_cons (pe_ix ix_tup (pv 0) pe_int (fun _ _ => rfl)) (pa_cons pe_int (pa_cons (pv 2) pa_nil))))))))) (pss_one (ps_ret pe_bl)) pss_nil)
    (pss_one (ps_ret (pe_and (pe_callB call_isiT (by rfl) T.f_isinstance (by decide +kernel) (pa_cons (pe_ix ix_tup (pv 0) pe_int (fun _ _ => rfl)) (pa_cons (pe_tup (pa_cons (pe_bltn (v := .ty "tuple") (by rfl) T.f_tuple (by decide +kernel) rfl) (pa_cons (pe_bltn (v := .ty "list") (by rfl) T.f_list (by decide +kernel) rfl) pa_nil))) pa_nil))) (pe_one (pe_cmpR op_eq (pe_callB c_lenQ (by rfl) T.f_len (by decide +kernel) (pa_cons (pe_ix ix_tup (pv 0) pe_int (fun _ _ => rfl)) pa_nil)) (pv 1) (nomark _))))))))))
theorem mk_is_head {P : Program} {w : World} {K : PySem.W.Frag} {mg : Str → Option Value} {base : Heap} {sp_is_number : Sp} {sp : Sp} (T : Tx K mg) (G_is_number : FnOk P w K mg base CX0 1 (f_is_number K) (fd_is_number K) ps_is_number sp_is_number)
    (len : ∀ vs H Q E, sp vs H Q E → vs.length = ps_is_head.length) (rd : ∀ vs H Q E, sp vs H Q E → t_is_head K sp_is_number { nx := fun _ H' => Q .non H', rt := Q } (start N_is_head vs) H) :
    FnOk P w K mg base CX0 2 (f_is_head K) (fd_is_head K) ps_is_head sp :=
  FunD.ok T.F_is_head sc_is_head len fun cdv A outer s H vs Q E hr hsp => ⟨_, PSs.nox (dv_is_head (E := E) T hr G_is_number), rd vs H Q E hsp⟩
theorem dv_within {P : Program} {w : World} {K : PySem.W.Frag} {mg : Str → Option Value} {base : Heap} {f : Addr} {cdv : Value} {A : Around} {outer : List Env} {s : Shared} {H : Hp} {E : XK} (T : Tx K mg)
    (hr : Room 0 (A.deeper (envOfC "within" (defScope s_within) s.heap.objs.size f cdv))) :
    PSs (cxOf CX0 P w K mg base N_within "within" (defScope s_within) f cdv A outer s H E).nox (defBody s_within) (t_within K) := by
  have hu := hu_of hr
  have nd := sc_within.nd
  exact (pss_cons (ps_if (pt_cmpR op_eq (pe_ix ix_tup (pv 0) pe_int (fun _ _ => rfl)) pe_str (nomark _)) (pss_one (ps_ret (pe_lst pa_nil))) pss_nil)
    (pss_one (ps_ret (pe_ifExp (pt_cmpR op_eq (pe_ix ix_tup (pv 0) pe_int (fun _ _ => rfl)) pe_str (nomark _)) (pe_lst (pa_cons (pe_ix ix_tup (pv 0) pe_int (fun _ _ => rfl)) pa_nil)) (pe_callTy c_listL (by rfl) T.f_list (by decide +kernel) (pa_cons (pe_ix ix_tup (pv 0) pe_int (fun _ _ => rfl)) pa_nil))))))
theorem mk_within {P : Program} {w : World} {K : PySem.W.Frag} {mg : Str → Option Value} {base : Heap} {sp : Sp} (T : Tx K mg)
    (len : ∀ vs H Q E, sp vs H Q E → vs.length = ps_within.length) (rd : ∀ vs H Q E, sp vs H Q E → t_within K { nx := fun _ H' => Q .non H', rt := Q } (start N_within vs) H) :
    FnOk P w K mg base CX0 1 (f_within K) (fd_within K) ps_within sp :=
  FunD.ok T.F_within sc_within len fun cdv A outer s H vs Q E hr hsp => ⟨_, PSs.nox (dv_within (E := E) T hr), rd vs H Q E hsp⟩
theorem dv_checked {P : Program} {w : World} {K : PySem.W.Frag} {mg : Str → Option Value} {base : Heap} {f : Addr} {cdv : Value} {A : Around} {outer : List Env} {s : Shared} {H : Hp} {E : XK} {sp_is_head : Sp} {sp_within : Sp} {sp_checked : Sp} {kk : Nat} (hkk : 3 ≤ kk) (T : Tx K mg)
    (hr : Room kk (A.deeper (envOfC "checked" (defScope s_checked) s.heap.objs.size f cdv)))
    (G_is_head : FnOk P w K mg base CX0 2 (f_is_head K) (fd_is_head K) ps_is_head sp_is_head)
    (G_within : FnOk P w K mg base CX0 1 (f_within K) (fd_within K) ps_within sp_within)
    (G_checked : FnOk P w K mg base CX0 kk (f_checked K) (fd_checked K) ps_checked sp_checked) :
    PSs (cxOf CX0 P w K mg base N_checked "checked" (defScope s_checked) f cdv A outer s H E).nox (defBody s_checked) (t_checked K sp_is_head sp_within sp_checked) := by
  have hu := hu_of hr
  have nd := sc_checked.nd
  exact (pss_cons (ps_if (PW.pt (pw_or (pt_cmpR o_gtI (pv 4) (pe_glob rfl T.i_MOST_LEVELS ⟨T.tk_MOST_LEVELS, rfl⟩) (nomark _)) (pw_or1 (pt_not (pt_val (pe_call G_is_head (hr.mono (by first | decide | omega)) rfl T.g_is_head T.k_is_head T.b_is_head .nil pass0 (pa_cons (pv 0) (pa_cons (pv 1) (pa_cons (pv 2) (pa_cons (pv 3) pa_nil)))))))))) (pss_one (ps_ret (pe_tup (pa_cons pe_bl (pa_cons (pv 5) pa_nil))))) pss_nil)
    (pss_cons (ps_set (i := 5) nd rfl (Or.inl rfl) (pe_op o_addI (pv 5) pe_int))
    (pss_cons (ps_for PassesOwn.never rfl (pi_list (pe_call G_within (hr.mono (by first | decide | omega)) rfl T.g_within T.k_within T.b_within .nil pass0 (pa_cons (pv 0) pa_nil))) (pg_name (i := 6) nd rfl (Or.inl rfl)) (pss_cons (ps_asg (pe_call G_checked (hr.mono (by first | decide | omega)) rfl T.g_checked T.k_checked T.b_checked .nil pass0 (pa_cons (pv 6) (pa_cons (pv 1) (pa_cons (pv 2) (pa_cons (pv 3) (pa_cons (pe_op o_addI (pv 4) pe_int) (pa_cons (pv 5) pa_nil))))))) (pg_tup rfl (pgs_cons (pg_name (i := 7) nd rfl (Or.inl rfl)) (pgs_cons (pg_name (i := 5) nd rfl (Or.inl rfl)) pgs_nil))))
    (pss_one (ps_if (pt_val (pv 7)) (pss_one (ps_ret (pe_tup (pa_cons pe_bl (pa_cons (pv 5) pa_nil))))) pss_nil))))
    (pss_one (ps_ret (pe_tup (pa_cons pe_bl (pa_cons (pv 5) pa_nil))))))))
theorem mk_checked {P : Program} {w : World} {K : PySem.W.Frag} {mg : Str → Option Value} {base : Heap} {sp_is_head : Sp} {sp_within : Sp} {sp_checked : Sp} {sp : Sp} {kk : Nat} (hkk : 3 ≤ kk) (T : Tx K mg) (G_is_head : FnOk P w K mg base CX0 2 (f_is_head K) (fd_is_head K) ps_is_head sp_is_head) (G_within : FnOk P w K mg base CX0 1 (f_within K) (fd_within K) ps_within sp_within) (G_checked : FnOk P w K mg base CX0 kk (f_checked K) (fd_checked K) ps_checked sp_checked)
    (len : ∀ vs H Q E, sp vs H Q E → vs.length = ps_checked.length) (rd : ∀ vs H Q E, sp vs H Q E → t_checked K sp_is_head sp_within sp_checked { nx := fun _ H' => Q .non H', rt := Q } (start N_checked vs) H) :
    FnOk P w K mg base CX0 (kk + 1) (f_checked K) (fd_checked K) ps_checked sp :=
  FunD.ok T.F_checked sc_checked len fun cdv A outer s H vs Q E hr hsp => ⟨_, PSs.nox (dv_checked (E := E) hkk T hr G_is_head G_within G_checked), rd vs H Q E hsp⟩
theorem dv_kept {P : Program} {w : World} {K : PySem.W.Frag} {mg : Str → Option Value} {base : Heap} {f : Addr} {cdv : Value} {A : Around} {outer : List Env} {s : Shared} {H : Hp} {E : XK} {sp_kept : Sp} {kk : Nat} (hkk : 3 ≤ kk) (T : Tx K mg)
    (hr : Room kk (A.deeper (envOfC "kept" (defScope s_kept) s.heap.objs.size f cdv)))
    (G_kept : FnOk P w K mg base CX0 kk (f_kept K) (fd_kept K) ps_kept sp_kept) :
    PSs (cxOf CX0 P w K mg base N_kept "kept" (defScope s_kept) f cdv A outer s H E).nox (defBody s_kept) (t_kept K sp_kept) := by
  have hu := hu_of hr
  have nd := sc_kept.nd
  exact (pss_cons (ps_if (pt_cmpR op_eq (pe_ix ix_tup (pv 0) pe_int (fun _ _ => rfl)) pe_str (nomark _)) (pss_one (ps_ret (pe_callTy c_tupL (by rfl) T.f_tuple (by decide +kernel) (pa_cons (pv 0) pa_nil)))) pss_nil)
    (pss_cons (ps_if (pt_cmpR op_eq (pe_ix ix_tup (pv 0) pe_int (fun _ _ => rfl)) pe_str (nomark _)) (pss_one (ps_ret (pe_tup (pa_cons (pe_ix ix_tup (pv 0) pe_int (fun _ _ => rfl)) (pa_cons (pe_ix ix_tup (pv 0) pe_int (fun _ _ => rfl)) (pa_cons (pe_call G_kept (hr.mono (by first | decide | omega)) rfl T.g_kept T.k_kept T.b_kept .nil pass0 (pa_cons (pe_ix ix_tup (pv 0) pe_int (fun _ _ => rfl)) pa_nil)) pa_nil)))))) pss_nil)
    (pss_one (ps_ret (pe_tup (pa_cons (pe_ix ix_tup (pv 0) pe_int (fun _ _ => rfl)) (pa_cons (pe_ix ix_tup (pv 0) pe_int (fun _ _ => rfl)) (pa_cons (pe_callTy c_tupL (by rfl) T.f_tuple (by decide +kernel) (pa_cons (pe_lc (own := [("inner", 1)]) rfl nd (pi_tup (pe_ix ix_tup (pv 0) pe_int (fun _ _ => rfl))) (blkOk_by (own := [("inner", 1)]) (N := N_kept) (sc := defScope s_kept) (by decide +kernel)) (fun _ _ _ _ _ => pg_name (i := 1) nd rfl (Or.inl rfl)) (fun _ _ _ _ _ => pts_nil) (fun _ _ _ _ _ => pe_call G_kept (hr.mono (by first | decide | omega)) rfl T.g_kept T.k_kept T.b_kept .nil pass0 (pa_cons (pv 1) pa_nil))) pa_nil)) pa_nil))))))))
theorem mk_kept {P : Program} {w : World} {K : PySem.W.Frag} {mg : Str → Option Value} {base : Heap} {sp_kept : Sp} {sp : Sp} {kk : Nat} (hkk : 3 ≤ kk) (T : Tx K mg) (G_kept : FnOk P w K mg base CX0 kk (f_kept K) (fd_kept K) ps_kept sp_kept)
    (len : ∀ vs H Q E, sp vs H Q E → vs.length = ps_kept.length) (rd : ∀ vs H Q E, sp vs H Q E → t_kept K sp_kept { nx := fun _ H' => Q .non H', rt := Q } (start N_kept vs) H) :
    FnOk P w K mg base CX0 (kk + 1) (f_kept K) (fd_kept K) ps_kept sp :=
  FunD.ok T.F_kept sc_kept len fun cdv A outer s H vs Q E hr hsp => ⟨_, PSs.nox (dv_kept (E := E) hkk T hr G_kept), rd vs H Q E hsp⟩
theorem dv_borders_of {P : Program} {w : World} {K : PySem.W.Frag} {mg : Str → Option Value} {base : Heap} {f : Addr} {cdv : Value} {A : Around} {outer : List Env} {s : Shared} {H : Hp} {E : XK} (T : Tx K mg)
    (hr : Room 0 (A.deeper (envOfC "borders_of" (defScope s_borders_of) s.heap.objs.size f cdv))) :
    PSs (cxOf CX0 P w K mg base N_borders_of "borders_of" (defScope s_borders_of) f cdv A outer s H E).nox (defBody s_borders_of) (t_borders_of K) := by
  have hu := hu_of hr
  have nd := sc_borders_of.nd
  exact (pss_cons (ps_set (i := 1) nd rfl (Or.inl rfl) (pe_lst (pa_cons (pe_un u_negI pe_int) pa_nil)))
    (pss_cons (ps_for PassesOwn.never rfl (pi_range2 rfl T.f_range (pa_cons pe_int (pa_cons (pe_op o_addI (pe_callB c_lenS (by rfl) T.f_len (by decide +kernel) (pa_cons (pv 0) pa_nil)) pe_int) pa_nil))) (pg_name (i := 2) nd rfl (Or.inr rfl)) (pss_cons (ps_setLc (i := 3) (own := [("part", 4)]) rfl nd rfl rfl (sw_true rfl rfl rfl (by decide +kernel)) (pi_range1 rfl T.f_range (pa_cons (pv 2) pa_nil)) (blkOk_by (own := [("part", 4)]) (N := N_borders_of) (sc := defScope s_borders_of) (by decide +kernel)) (fun _ _ _ _ _ => pg_name (i := 4) nd rfl (Or.inl rfl)) (fun _ _ _ _ _ => pts_one (pt_cmpR op_eq (pe_slice sl_str (pv 0) po_none (po_some (pv 4))) (pe_slice sl_str (pv 0) (po_some (pe_op o_subI (pv 2) (pv 4))) (po_some (pv 2))) (nomark _))) (fun _ _ _ _ _ => pv 4))
    (pss_one (ps_expr (pe_bm PySem.F.plainAttrs_list PySem.F.slot_list_append PySem.F.type_list_append mt_append (pv 1) (pa_cons (pe_callB (cr_max rfl) (by rfl) T.f_max (by decide +kernel) (pa_cons (pv 3) pa_nil)) pa_nil))))))
    (pss_one (ps_ret (pv 1)))))
theorem mk_borders_of {P : Program} {w : World} {K : PySem.W.Frag} {mg : Str → Option Value} {base : Heap} {sp : Sp} (T : Tx K mg)
    (len : ∀ vs H Q E, sp vs H Q E → vs.length = ps_borders_of.length) (rd : ∀ vs H Q E, sp vs H Q E → t_borders_of K { nx := fun _ H' => Q .non H', rt := Q } (start N_borders_of vs) H) :
    FnOk P w K mg base CX0 1 (f_borders_of K) (fd_borders_of K) ps_borders_of sp :=
  FunD.ok T.F_borders_of sc_borders_of len fun cdv A outer s H vs Q E hr hsp => ⟨_, PSs.nox (dv_borders_of (E := E) T hr), rd vs H Q E hsp⟩
theorem dv_steps_down {P : Program} {w : World} {K : PySem.W.Frag} {mg : Str → Option Value} {base : Heap} {f : Addr} {cdv : Value} {A : Around} {outer : List Env} {s : Shared} {H : Hp} {E : XK} (T : Tx K mg)
    (hr : Room 0 (A.deeper (envOfC "steps_down" (defScope s_steps_down) s.heap.objs.size f cdv))) :
    PSs (cxOf CX0 P w K mg base N_steps_down "steps_down" (defScope s_steps_down) f cdv A outer s H E).nox (defBody s_steps_down) (t_steps_down K) := by
  have hu := hu_of hr
  have nd := sc_steps_down.nd
  exact (pss_cons (ps_par (i := 2) (j := 3) rfl nd rfl rfl (by decide) rfl rfl (pa_cons (pe_lst pa_nil) (pa_cons (pv 1) pa_nil)) (by rfl))
    (pss_cons (ps_while PassesOwn.never (pt_cmpR o_geI (pv 3) pe_int (nomark _)) (pss_cons (ps_set (i := 3) nd rfl (Or.inl rfl) (pe_ix ix_list (pv 0) (pv 3) (fun _ _ => rfl)))
    (pss_one (ps_expr (pe_bm PySem.F.plainAttrs_list PySem.F.slot_list_append PySem.F.type_list_append mt_append (pv 2) (pa_cons (pv 3) pa_nil))))))
    (pss_one (ps_ret (pv 2)))))
theorem mk_steps_down {P : Program} {w : World} {K : PySem.W.Frag} {mg : Str → Option Value} {base : Heap} {sp : Sp} (T : Tx K mg)
    (len : ∀ vs H Q E, sp vs H Q E → vs.length = ps_steps_down.length) (rd : ∀ vs H Q E, sp vs H Q E → t_steps_down K { nx := fun _ H' => Q .non H', rt := Q } (start N_steps_down vs) H) :
    FnOk P w K mg base CX0 1 (f_steps_down K) (fd_steps_down K) ps_steps_down sp :=
  FunD.ok T.F_steps_down sc_steps_down len fun cdv A outer s H vs Q E hr hsp => ⟨_, PSs.nox (dv_steps_down (E := E) T hr), rd vs H Q E hsp⟩
theorem dv_last_of {P : Program} {w : World} {K : PySem.W.Frag} {mg : Str → Option Value} {base : Heap} {f : Addr} {cdv : Value} {A : Around} {outer : List Env} {s : Shared} {H : Hp} {E : XK} (T : Tx K mg)
    (hr : Room 0 (A.deeper (envOfC "last_of" (defScope s_last_of) s.heap.objs.size f cdv))) :
    PSs (cxOf CX0 P w K mg base N_last_of "last_of" (defScope s_last_of) f cdv A outer s H E).nox (defBody s_last_of) (t_last_of K) := by
  have hu := hu_of hr
  have nd := sc_last_of.nd
  exact (pss_one (ps_ret (pe_callB (cr_max rfl) (by rfl) T.f_max (by decide +kernel) (pa_cons (pe_op op_cat (pe_lst (pa_cons (pe_un u_negI pe_int) pa_nil)) (pe_lc (own := [("place", 3)]) rfl nd (pi_range1 rfl T.f_range (pa_cons (pv 2) pa_nil)) (blkOk_by (own := [("place", 3)]) (N := N_last_of) (sc := defScope s_last_of) (by decide +kernel)) (fun _ _ _ _ _ => pg_name (i := 3) nd rfl (Or.inl rfl)) (fun _ _ _ _ _ => pts_one (pt_cmpR op_eq (pe_ix ix_str (pv 0) (pv 3) (fun _ _ => rfl)) (pv 1) (nomark _))) (fun _ _ _ _ _ => pv 3))) pa_nil))))
theorem mk_last_of {P : Program} {w : World} {K : PySem.W.Frag} {mg : Str → Option Value} {base : Heap} {sp : Sp} (T : Tx K mg)
    (len : ∀ vs H Q E, sp vs H Q E → vs.length = ps_last_of.length) (rd : ∀ vs H Q E, sp vs H Q E → t_last_of K { nx := fun _ H' => Q .non H', rt := Q } (start N_last_of vs) H) :
    FnOk P w K mg base CX0 1 (f_last_of K) (fd_last_of K) ps_last_of sp :=
  FunD.ok T.F_last_of sc_last_of len fun cdv A outer s H vs Q E hr hsp => ⟨_, PSs.nox (dv_last_of (E := E) T hr), rd vs H Q E hsp⟩
theorem dv_compared {P : Program} {w : World} {K : PySem.W.Frag} {mg : Str → Option Value} {base : Heap} {f : Addr} {cdv : Value} {A : Around} {outer : List Env} {s : Shared} {H : Hp} {E : XK} (T : Tx K mg)
    (hr : Room 0 (A.deeper (envOfC "compared" (defScope s_compared) s.heap.objs.size f cdv))) :
    PSs (cxOf CX0 P w K mg base N_compared "compared" (defScope s_compared) f cdv A outer s H E).nox (defBody s_compared) (t_compared K) := by
  have hu := hu_of hr
  have nd := sc_compared.nd
  exact (pss_cons (ps_set (i := 5) nd rfl (Or.inr rfl) (pv 4))
    (pss_cons (ps_for PassesOwn.never rfl (pi_list (pe_revL (pv 2))) (pg_name (i := 6) nd rfl (Or.inr rfl)) (pss_cons (ps_setLc (i := 7) (own := [("letter", 8)]) rfl nd rfl rfl (sw_true rfl rfl rfl (by decide +kernel)) (pi_str (pv 0)) (blkOk_by (own := [("letter", 8)]) (N := N_compared) (sc := defScope s_compared) (by decide +kernel)) (fun _ _ _ _ _ => pg_name (i := 8) nd rfl (Or.inl rfl)) (fun _ _ _ _ _ => pts_nil) (fun _ _ _ _ _ => pe_ifExp (pt_cmpR op_eq (pv 8) (pe_ix ix_str (pv 1) (pv 6) (fun _ _ => rfl)) (nomark _)) (pv 5) (pe_dget hu (pv 3) (pe_tup (pa_cons (pv 6) (pa_cons (pv 8) pa_nil))) (fun _ _ => rfl))))
    (pss_one (ps_set (i := 5) nd rfl (Or.inr rfl) (pe_tup (pa_cons pe_str (pa_cons (pv 6) (pa_cons (pe_callTy c_tupL (by rfl) T.f_tuple (by decide +kernel) (pa_cons (pv 7) pa_nil)) pa_nil))))))))
    (pss_one (ps_ret (pv 5)))))
theorem mk_compared {P : Program} {w : World} {K : PySem.W.Frag} {mg : Str → Option Value} {base : Heap} {sp : Sp} (T : Tx K mg)
    (len : ∀ vs H Q E, sp vs H Q E → vs.length = ps_compared.length) (rd : ∀ vs H Q E, sp vs H Q E → t_compared K { nx := fun _ H' => Q .non H', rt := Q } (start N_compared vs) H) :
    FnOk P w K mg base CX0 1 (f_compared K) (fd_compared K) ps_compared sp :=
  FunD.ok T.F_compared sc_compared len fun cdv A outer s H vs Q E hr hsp => ⟨_, PSs.nox (dv_compared (E := E) T hr), rd vs H Q E hsp⟩
theorem dv_left_step {P : Program} {w : World} {K : PySem.W.Frag} {mg : Str → Option Value} {base : Heap} {f : Addr} {cdv : Value} {A : Around} {outer : List Env} {s : Shared} {H : Hp} {E : XK} {sp_steps_down : Sp} (T : Tx K mg)
    (hr : Room 1 (A.deeper (envOfC "left_step" (defScope s_left_step) s.heap.objs.size f cdv)))
    (G_steps_down : FnOk P w K mg base CX0 1 (f_steps_down K) (fd_steps_down K) ps_steps_down sp_steps_down) :
    PSs (cxOf CX0 P w K mg base N_left_step "left_step" (defScope s_left_step) f cdv A outer s H E).nox (defBody s_left_step) (t_left_step K sp_steps_down) := by
  have hu := hu_of hr
  have nd := sc_left_step.nd
  exact (pss_cons (ps_set (i := 5) nd rfl (Or.inl rfl) (pe_call G_steps_down (hr.mono (by first | decide | omega)) rfl T.g_steps_down T.k_steps_down T.b_steps_down .nil pass0 (pa_cons (pv 1) (pa_cons (pv 3) pa_nil))))
    (pss_cons (ps_if (pt_cmpR op_eq (pv 2) pe_str (nomark _)) (pss_one (ps_set (i := 6) nd rfl (Or.inl rfl) (pe_ix ix_list (pv 5) pe_int (fun _ _ => rfl)))) (pss_one (ps_if (pt_cmpR op_eq (pv 2) pe_str (nomark _)) (pss_one (ps_set (i := 6) nd rfl (Or.inl rfl) (pe_ix ix_list (pe_lc (own := [("one", 7)]) rfl nd (pi_list (pv 5)) (blkOk_by (own := [("one", 7)]) (N := N_left_step) (sc := defScope s_left_step) (by decide +kernel)) (fun _ _ _ _ _ => pg_name (i := 7) nd rfl (Or.inl rfl)) (fun _ _ _ _ _ => pts_one (PW.pt (pw_or (pt_cmpR op_eq (pv 7) (pe_un u_negI pe_int) (nomark _)) (pw_or1 (pt_cmpR op_ne (pe_ix ix_str (pv 0) (pv 7) (fun _ _ => rfl)) (pe_ix ix_str (pv 0) (pv 3) (fun _ _ => rfl)) (nomark _)))))) (fun _ _ _ _ _ => pv 7)) pe_int (fun _ _ => rfl)))) (pss_cons (ps_set (i := 6) nd rfl (Or.inl rfl) (pe_ix ix_list (pe_lc (own := [("one", 7)]) rfl nd (pi_list (pv 5)) (blkOk_by (own := [("one", 7)]) (N := N_left_step) (sc := defScope s_left_step) (by decide +kernel)) (fun _ _ _ _ _ => pg_name (i := 7) nd rfl (Or.inl rfl)) (fun _ _ _ _ _ => pts_one (PW.pt (pw_or (pt_cmpR op_eq (pv 7) (pe_un u_negI pe_int) (nomark _)) (pw_or1 (pt_cmpR op_eq (pe_ix ix_str (pv 0) (pv 7) (fun _ _ => rfl)) (pv 4) (nomark _)))))) (fun _ _ _ _ _ => pv 7)) pe_int (fun _ _ => rfl)))
    (pss_one (ps_ret (pe_tup (pa_cons (pe_op o_subI (pv 3) (pv 6)) (pa_cons (pe_op o_addI (pv 6) pe_int) pa_nil)))))))))
    (pss_one (ps_ret (pe_tup (pa_cons (pe_op o_subI (pv 3) (pv 6)) (pa_cons (pe_callB (c_max2 rfl) (by rfl) T.f_max (by decide +kernel) (pa_cons pe_int (pa_cons (pv 6) pa_nil))) pa_nil)))))))
theorem mk_left_step {P : Program} {w : World} {K : PySem.W.Frag} {mg : Str → Option Value} {base : Heap} {sp_steps_down : Sp} {sp : Sp} (T : Tx K mg) (G_steps_down : FnOk P w K mg base CX0 1 (f_steps_down K) (fd_steps_down K) ps_steps_down sp_steps_down)
    (len : ∀ vs H Q E, sp vs H Q E → vs.length = ps_left_step.length) (rd : ∀ vs H Q E, sp vs H Q E → t_left_step K sp_steps_down { nx := fun _ H' => Q .non H', rt := Q } (start N_left_step vs) H) :
    FnOk P w K mg base CX0 2 (f_left_step K) (fd_left_step K) ps_left_step sp :=
  FunD.ok T.F_left_step sc_left_step len fun cdv A outer s H vs Q E hr hsp => ⟨_, PSs.nox (dv_left_step (E := E) T hr G_steps_down), rd vs H Q E hsp⟩
theorem dv_from_left {P : Program} {w : World} {K : PySem.W.Frag} {mg : Str → Option Value} {base : Heap} {f : Addr} {cdv : Value} {A : Around} {outer : List Env} {s : Shared} {H : Hp} {E : XK} {sp_borders_of : Sp} {sp_left_step : Sp} {sp_compared : Sp} (T : Tx K mg)
    (hr : Room 2 (A.deeper (envOfC "from_left" (defScope s_from_left) s.heap.objs.size f cdv)))
    (G_borders_of : FnOk P w K mg base CX0 1 (f_borders_of K) (fd_borders_of K) ps_borders_of sp_borders_of)
    (G_left_step : FnOk P w K mg base CX0 2 (f_left_step K) (fd_left_step K) ps_left_step sp_left_step)
    (G_compared : FnOk P w K mg base CX0 1 (f_compared K) (fd_compared K) ps_compared sp_compared) :
    PSs (cxOf CX0 P w K mg base N_from_left "from_left" (defScope s_from_left) f cdv A outer s H E).nox (defBody s_from_left) (t_from_left K sp_borders_of sp_left_step sp_compared) := by
  have hu := hu_of hr
  have nd := sc_from_left.nd
  exact (pss_cons (ps_asg (pe_tup (pa_cons (pe_call G_borders_of (hr.mono (by first | decide | omega)) rfl T.g_borders_of T.k_borders_of T.b_borders_of .nil pass0 (pa_cons (pv 1) pa_nil)) (pa_cons (pe_callB c_lenS (by rfl) T.f_len (by decide +kernel) (pa_cons (pv 1) pa_nil)) pa_nil))) (pg_tup rfl (pgs_cons (pg_name (i := 3) nd rfl (Or.inl rfl)) (pgs_cons (pg_name (i := 4) nd rfl (Or.inr rfl)) pgs_nil))))
    (pss_cons (ps_asg (pe_tup (pa_cons (pe_tup (pa_cons pe_str (pa_cons pe_int (pa_cons (pe_tup (pa_cons pe_str (pa_cons (pe_op o_subI (pv 4) (pe_ix ix_list (pv 3) (pv 4) (fun _ _ => rfl))) (pa_cons (pe_ix ix_list (pv 3) (pv 4) (fun _ _ => rfl)) pa_nil)))) pa_nil)))) (pa_cons pe_dnewT pa_nil))) (pg_tup rfl (pgs_cons (pg_name (i := 5) nd rfl (Or.inr rfl)) (pgs_cons (pg_name (i := 6) nd rfl (Or.inr rfl)) pgs_nil))))
    (pss_cons (ps_for PassesOwn.never rfl (pi_range1 rfl T.f_range (pa_cons (pv 4) pa_nil)) (pg_name (i := 7) nd rfl (Or.inl rfl)) (pss_one (ps_for PassesOwn.never rfl (pi_str (pv 0)) (pg_name (i := 8) nd rfl (Or.inl rfl)) (pss_one (ps_dput hu (pv 6) (pe_tup (pa_cons (pv 7) (pa_cons (pv 8) pa_nil))) (pe_op op_catT (pe_tup (pa_cons pe_str pa_nil)) (pe_call G_left_step (hr.mono (by first | decide | omega)) rfl T.g_left_step T.k_left_step T.b_left_step .nil pass0 (pa_cons (pv 1) (pa_cons (pv 3) (pa_cons (pv 2) (pa_cons (pv 7) (pa_cons (pv 8) pa_nil))))))) rfl)))))
    (pss_one (ps_ret (pe_lc (own := [("state", 9)]) rfl nd (pi_range1 rfl T.f_range (pa_cons (pv 4) pa_nil)) (blkOk_by (own := [("state", 9)]) (N := N_from_left) (sc := defScope s_from_left) (by decide +kernel)) (fun _ _ _ _ _ => pg_name (i := 9) nd rfl (Or.inl rfl)) (fun _ _ _ _ _ => pts_nil) (fun _ _ _ _ _ => pe_call G_compared (hr.mono (by first | decide | omega)) rfl T.g_compared T.k_compared T.b_compared .nil pass0 (pa_cons (pv 0) (pa_cons (pv 1) (pa_cons (pe_listRg rfl rfl T.f_list (prg_2 rfl T.f_range (pv 9) (pv 4))) (pa_cons (pv 6) (pa_cons (pv 5) pa_nil))))))))))))
theorem mk_from_left {P : Program} {w : World} {K : PySem.W.Frag} {mg : Str → Option Value} {base : Heap} {sp_borders_of : Sp} {sp_left_step : Sp} {sp_compared : Sp} {sp : Sp} (T : Tx K mg) (G_borders_of : FnOk P w K mg base CX0 1 (f_borders_of K) (fd_borders_of K) ps_borders_of sp_borders_of) (G_left_step : FnOk P w K mg base CX0 2 (f_left_step K) (fd_left_step K) ps_left_step sp_left_step) (G_compared : FnOk P w K mg base CX0 1 (f_compared K) (fd_compared K) ps_compared sp_compared)
    (len : ∀ vs H Q E, sp vs H Q E → vs.length = ps_from_left.length) (rd : ∀ vs H Q E, sp vs H Q E → t_from_left K sp_borders_of sp_left_step sp_compared { nx := fun _ H' => Q .non H', rt := Q } (start N_from_left vs) H) :
    FnOk P w K mg base CX0 3 (f_from_left K) (fd_from_left K) ps_from_left sp :=
  FunD.ok T.F_from_left sc_from_left len fun cdv A outer s H vs Q E hr hsp => ⟨_, PSs.nox (dv_from_left (E := E) T hr G_borders_of G_left_step G_compared), rd vs H Q E hsp⟩
theorem dv_by_one_letter {P : Program} {w : World} {K : PySem.W.Frag} {mg : Str → Option Value} {base : Heap} {f : Addr} {cdv : Value} {A : Around} {outer : List Env} {s : Shared} {H : Hp} {E : XK} {sp_last_of : Sp} {sp_compared : Sp} (T : Tx K mg)
    (hr : Room 1 (A.deeper (envOfC "by_one_letter" (defScope s_by_one_letter) s.heap.objs.size f cdv)))
    (G_last_of : FnOk P w K mg base CX0 1 (f_last_of K) (fd_last_of K) ps_last_of sp_last_of)
    (G_compared : FnOk P w K mg base CX0 1 (f_compared K) (fd_compared K) ps_compared sp_compared) :
    PSs (cxOf CX0 P w K mg base N_by_one_letter "by_one_letter" (defScope s_by_one_letter) f cdv A outer s H E).nox (defBody s_by_one_letter) (t_by_one_letter K sp_last_of sp_compared) := by
  have hu := hu_of hr
  have nd := sc_by_one_letter.nd
  exact (pss_cons (ps_set (i := 3) nd rfl (Or.inr rfl) (pe_callB c_lenS (by rfl) T.f_len (by decide +kernel) (pa_cons (pv 1) pa_nil)))
    (pss_cons (ps_set (i := 4) nd rfl (Or.inr rfl) (pe_tup (pa_cons pe_str (pa_cons pe_int (pa_cons pe_int pa_nil)))))
    (pss_cons (ps_if (pt_cmpR op_eq (pv 2) pe_str (nomark _)) (pss_cons (ps_setLc (i := 6) (own := [("letter", 8)]) rfl nd rfl rfl (sw_true rfl rfl rfl (by decide +kernel)) (pi_str (pv 0)) (blkOk_by (own := [("letter", 8)]) (N := N_by_one_letter) (sc := defScope s_by_one_letter) (by decide +kernel)) (fun _ _ _ _ _ => pg_name (i := 8) nd rfl (Or.inl rfl)) (fun _ _ _ _ _ => pts_nil) (fun _ _ _ _ _ => pe_tup (pa_cons pe_str (pa_cons (pe_op o_subI (pe_op o_subI (pv 3) pe_int) (pe_call G_last_of (hr.mono (by first | decide | omega)) rfl T.g_last_of T.k_last_of T.b_last_of .nil pass0 (pa_cons (pv 1) (pa_cons (pv 8) (pa_cons (pe_op o_subI (pv 3) pe_int) pa_nil))))) (pa_cons pe_int pa_nil)))))
    (pss_one (ps_set (i := 4) nd rfl (Or.inr rfl) (pe_tup (pa_cons pe_str (pa_cons (pe_op o_subI (pv 3) pe_int) (pa_cons (pe_callTy c_tupL (by rfl) T.f_tuple (by decide +kernel) (pa_cons (pv 6) pa_nil)) pa_nil))))))) pss_nil)
    (pss_cons (ps_if (pt_cmpR op_eq (pv 2) pe_str (nomark _)) (pss_one (ps_set (i := 4) nd rfl (Or.inr rfl) (pe_tup (pa_cons pe_str (pa_cons (pv 3) (pa_cons (pe_callTy c_tupL (by rfl) T.f_tuple (by decide +kernel) (pa_cons (pe_lc (own := [("letter", 8)]) rfl nd (pi_str (pv 0)) (blkOk_by (own := [("letter", 8)]) (N := N_by_one_letter) (sc := defScope s_by_one_letter) (by decide +kernel)) (fun _ _ _ _ _ => pg_name (i := 8) nd rfl (Or.inl rfl)) (fun _ _ _ _ _ => pts_nil) (fun _ _ _ _ _ => pe_tup (pa_cons pe_str (pa_cons (pe_op o_subI (pv 3) (pe_call G_last_of (hr.mono (by first | decide | omega)) rfl T.g_last_of T.k_last_of T.b_last_of .nil pass0 (pa_cons (pv 1) (pa_cons (pv 8) (pa_cons (pv 3) pa_nil))))) (pa_cons pe_int pa_nil))))) pa_nil)) pa_nil)))))) pss_nil)
    (pss_cons (ps_setDc2 (i := 5) (own := [("place", 7), ("letter", 8)]) (vs1 := [8]) rfl hu nd rfl rfl (sw_trueD rfl rfl rfl (by decide +kernel)) (pi_range1 rfl T.f_range (pa_cons (pv 3) pa_nil)) (blkOk_by (own := [("place", 7), ("letter", 8)]) (N := N_by_one_letter) (sc := defScope s_by_one_letter) (by decide +kernel)) (by decide) (fun _ _ _ _ _ => pg_name (i := 7) nd rfl (Or.inl rfl)) (fun _ _ _ _ _ => pi_str (pv 0)) (fun _ _ _ _ _ => pg_name (i := 8) nd rfl (Or.inl rfl)) (fun _ _ _ _ _ => pe_tup (pa_cons (pv 7) (pa_cons (pv 8) pa_nil))) (fun _ _ _ _ _ => pv 4))
    (pss_one (ps_ret (pe_lst (pa_cons (pe_call G_compared (hr.mono (by first | decide | omega)) rfl T.g_compared T.k_compared T.b_compared .nil pass0 (pa_cons (pv 0) (pa_cons (pv 1) (pa_cons (pe_listRg rfl rfl T.f_list (prg_1 rfl T.f_range (pv 3))) (pa_cons (pv 5) (pa_cons (pe_tup (pa_cons pe_str (pa_cons pe_int (pa_cons (pv 4) pa_nil)))) pa_nil)))))) pa_nil)))))))))
theorem mk_by_one_letter {P : Program} {w : World} {K : PySem.W.Frag} {mg : Str → Option Value} {base : Heap} {sp_last_of : Sp} {sp_compared : Sp} {sp : Sp} (T : Tx K mg) (G_last_of : FnOk P w K mg base CX0 1 (f_last_of K) (fd_last_of K) ps_last_of sp_last_of) (G_compared : FnOk P w K mg base CX0 1 (f_compared K) (fd_compared K) ps_compared sp_compared)
    (len : ∀ vs H Q E, sp vs H Q E → vs.length = ps_by_one_letter.length) (rd : ∀ vs H Q E, sp vs H Q E → t_by_one_letter K sp_last_of sp_compared { nx := fun _ H' => Q .non H', rt := Q } (start N_by_one_letter vs) H) :
    FnOk P w K mg base CX0 2 (f_by_one_letter K) (fd_by_one_letter K) ps_by_one_letter sp :=
  FunD.ok T.F_by_one_letter sc_by_one_letter len fun cdv A outer s H vs Q E hr hsp => ⟨_, PSs.nox (dv_by_one_letter (E := E) T hr G_last_of G_compared), rd vs H Q E hsp⟩
theorem dv_is_good_slide {P : Program} {w : World} {K : PySem.W.Frag} {mg : Str → Option Value} {base : Heap} {f : Addr} {cdv : Value} {A : Around} {outer : List Env} {s : Shared} {H : Hp} {E : XK} (T : Tx K mg)
    (hr : Room 0 (A.deeper (envOfC "is_good_slide" (defScope s_is_good_slide) s.heap.objs.size f cdv))) :
    PSs (cxOf CX0 P w K mg base N_is_good_slide "is_good_slide" (defScope s_is_good_slide) f cdv A outer s H E).nox (defBody s_is_good_slide) (t_is_good_slide K) := by
  have hu := hu_of hr
  have nd := sc_is_good_slide.nd
  exact (pss_cons (ps_set (i := 3) nd rfl (Or.inl rfl) (pe_callB c_lenS (by rfl) T.f_len (by decide +kernel) (pa_cons (pv 0) pa_nil)))
    (pss_cons (ps_if (pt_val (pe_callB (cr_any rfl) (by rfl) T.f_any (by decide +kernel) (pa_cons (pe_lc (own := [("at", 4)]) rfl nd (pi_range2 rfl T.f_range (pa_cons (pe_callB (c_max2 rfl) (by rfl) T.f_max (by decide +kernel) (pa_cons (pe_op o_addI (pv 1) pe_int) (pa_cons (pv 2) pa_nil))) (pa_cons (pv 3) pa_nil))) (blkOk_by (own := [("at", 4)]) (N := N_is_good_slide) (sc := defScope s_is_good_slide) (by decide +kernel)) (fun _ _ _ _ _ => pg_name (i := 4) nd rfl (Or.inl rfl)) (fun _ _ _ _ _ => pts_nil) (fun _ _ _ _ _ => pe_cmpR op_ne (pe_ix ix_str (pv 0) (pe_op o_subI (pv 4) (pv 2)) (fun _ _ => rfl)) (pe_ix ix_str (pv 0) (pv 4) (fun _ _ => rfl)) (nomark _))) pa_nil))) (pss_one (ps_ret pe_bl)) pss_nil)
    (pss_one (ps_ret (pe_or (pe_cmpR o_gtI (pv 2) (pv 1) (nomark _)) (pe_one (pe_cmpR op_ne (pe_ix ix_str (pv 0) (pe_op o_subI (pv 1) (pv 2)) (fun _ _ => rfl)) (pe_ix ix_str (pv 0) (pv 1) (fun _ _ => rfl)) (nomark _))))))))
theorem mk_is_good_slide {P : Program} {w : World} {K : PySem.W.Frag} {mg : Str → Option Value} {base : Heap} {sp : Sp} (T : Tx K mg)
    (len : ∀ vs H Q E, sp vs H Q E → vs.length = ps_is_good_slide.length) (rd : ∀ vs H Q E, sp vs H Q E → t_is_good_slide K { nx := fun _ H' => Q .non H', rt := Q } (start N_is_good_slide vs) H) :
    FnOk P w K mg base CX0 1 (f_is_good_slide K) (fd_is_good_slide K) ps_is_good_slide sp :=
  FunD.ok T.F_is_good_slide sc_is_good_slide len fun cdv A outer s H vs Q E hr hsp => ⟨_, PSs.nox (dv_is_good_slide (E := E) T hr), rd vs H Q E hsp⟩
theorem dv_right_slide {P : Program} {w : World} {K : PySem.W.Frag} {mg : Str → Option Value} {base : Heap} {f : Addr} {cdv : Value} {A : Around} {outer : List Env} {s : Shared} {H : Hp} {E : XK} {sp_last_of : Sp} {sp_is_good_slide : Sp} (T : Tx K mg)
    (hr : Room 1 (A.deeper (envOfC "right_slide" (defScope s_right_slide) s.heap.objs.size f cdv)))
    (G_last_of : FnOk P w K mg base CX0 1 (f_last_of K) (fd_last_of K) ps_last_of sp_last_of)
    (G_is_good_slide : FnOk P w K mg base CX0 1 (f_is_good_slide K) (fd_is_good_slide K) ps_is_good_slide sp_is_good_slide) :
    PSs (cxOf CX0 P w K mg base N_right_slide "right_slide" (defScope s_right_slide) f cdv A outer s H E).nox (defBody s_right_slide) (t_right_slide K sp_last_of sp_is_good_slide) := by
  have hu := hu_of hr
  have nd := sc_right_slide.nd
  exact (pss_cons (ps_set (i := 4) nd rfl (Or.inl rfl) (pe_op o_subI (pv 2) (pe_call G_last_of (hr.mono (by first | decide | omega)) rfl T.g_last_of T.k_last_of T.b_last_of .nil pass0 (pa_cons (pv 0) (pa_cons (pv 3) (pa_cons (pv 2) pa_nil))))))
    (pss_cons (ps_set (i := 5) nd rfl (Or.inl rfl) (pe_ix ix_list (pe_lc (own := [("by", 6)]) rfl nd (pi_range2 rfl T.f_range (pa_cons pe_int (pa_cons (pe_op o_addI (pe_callB c_lenS (by rfl) T.f_len (by decide +kernel) (pa_cons (pv 0) pa_nil)) pe_int) pa_nil))) (blkOk_by (own := [("by", 6)]) (N := N_right_slide) (sc := defScope s_right_slide) (by decide +kernel)) (fun _ _ _ _ _ => pg_name (i := 6) nd rfl (Or.inl rfl)) (fun _ _ _ _ _ => pts_one (pt_val (pe_call G_is_good_slide (hr.mono (by first | decide | omega)) rfl T.g_is_good_slide T.k_is_good_slide T.b_is_good_slide .nil pass0 (pa_cons (pv 0) (pa_cons (pv 2) (pa_cons (pv 6) pa_nil)))))) (fun _ _ _ _ _ => pv 6)) pe_int (fun _ _ => rfl)))
    (pss_cons (ps_if (pt_cmpR op_eq (pv 1) pe_str (nomark _)) (pss_one (ps_ret (pv 4))) pss_nil)
    (pss_one (ps_ret (pe_ifExp (pt_cmpR op_eq (pv 1) pe_str (nomark _)) (pv 5) (pe_callB (c_max2 rfl) (by rfl) T.f_max (by decide +kernel) (pa_cons (pv 4) (pa_cons (pv 5) pa_nil)))))))))
theorem mk_right_slide {P : Program} {w : World} {K : PySem.W.Frag} {mg : Str → Option Value} {base : Heap} {sp_last_of : Sp} {sp_is_good_slide : Sp} {sp : Sp} (T : Tx K mg) (G_last_of : FnOk P w K mg base CX0 1 (f_last_of K) (fd_last_of K) ps_last_of sp_last_of) (G_is_good_slide : FnOk P w K mg base CX0 1 (f_is_good_slide K) (fd_is_good_slide K) ps_is_good_slide sp_is_good_slide)
    (len : ∀ vs H Q E, sp vs H Q E → vs.length = ps_right_slide.length) (rd : ∀ vs H Q E, sp vs H Q E → t_right_slide K sp_last_of sp_is_good_slide { nx := fun _ H' => Q .non H', rt := Q } (start N_right_slide vs) H) :
    FnOk P w K mg base CX0 2 (f_right_slide K) (fd_right_slide K) ps_right_slide sp :=
  FunD.ok T.F_right_slide sc_right_slide len fun cdv A outer s H vs Q E hr hsp => ⟨_, PSs.nox (dv_right_slide (E := E) T hr G_last_of G_is_good_slide), rd vs H Q E hsp⟩
theorem dv_from_right {P : Program} {w : World} {K : PySem.W.Frag} {mg : Str → Option Value} {base : Heap} {f : Addr} {cdv : Value} {A : Around} {outer : List Env} {s : Shared} {H : Hp} {E : XK} {sp_right_slide : Sp} {sp_borders_of : Sp} {sp_compared : Sp} (T : Tx K mg)
    (hr : Room 2 (A.deeper (envOfC "from_right" (defScope s_from_right) s.heap.objs.size f cdv)))
    (G_right_slide : FnOk P w K mg base CX0 2 (f_right_slide K) (fd_right_slide K) ps_right_slide sp_right_slide)
    (G_borders_of : FnOk P w K mg base CX0 1 (f_borders_of K) (fd_borders_of K) ps_borders_of sp_borders_of)
    (G_compared : FnOk P w K mg base CX0 1 (f_compared K) (fd_compared K) ps_compared sp_compared) :
    PSs (cxOf CX0 P w K mg base N_from_right "from_right" (defScope s_from_right) f cdv A outer s H E).nox (defBody s_from_right) (t_from_right K sp_right_slide sp_borders_of sp_compared) := by
  have hu := hu_of hr
  have nd := sc_from_right.nd
  exact (pss_cons (ps_par (i := 3) (j := 4) rfl nd rfl rfl (by decide) rfl rfl (pa_cons (pe_callB c_lenS (by rfl) T.f_len (by decide +kernel) (pa_cons (pv 1) pa_nil)) (pa_cons pe_dnewT pa_nil)) (by rfl))
    (pss_cons (ps_for PassesOwn.never rfl (pi_range1 rfl T.f_range (pa_cons (pv 3) pa_nil)) (pg_name (i := 5) nd rfl (Or.inl rfl)) (pss_one (ps_for PassesOwn.never rfl (pi_str (pv 0)) (pg_name (i := 11) nd rfl (Or.inl rfl)) (pss_one (ps_dput hu (pv 4) (pe_tup (pa_cons (pv 5) (pa_cons (pv 11) pa_nil))) (pe_tup (pa_cons pe_str (pa_cons (pe_call G_right_slide (hr.mono (by first | decide | omega)) rfl T.g_right_slide T.k_right_slide T.b_right_slide .nil pass0 (pa_cons (pv 1) (pa_cons (pv 2) (pa_cons (pv 5) (pa_cons (pv 11) pa_nil))))) (pa_cons pe_int pa_nil)))) rfl)))))
    (pss_cons (ps_set (i := 6) nd rfl (Or.inl rfl) (pe_ix ix_list (pe_call G_borders_of (hr.mono (by first | decide | omega)) rfl T.g_borders_of T.k_borders_of T.b_borders_of .nil pass0 (pa_cons (pv 1) pa_nil)) (pv 3) (fun _ _ => rfl)))
    (pss_cons (ps_set (i := 7) nd rfl (Or.inl rfl) (pe_and (pe_cmpR op_eq (pv 2) pe_str (nomark _)) (pe_one (pe_cmpR o_gtI (pv 6) pe_int (nomark _)))))
    (pss_cons (ps_set (i := 8) nd rfl (Or.inl rfl) (pe_tup (pa_cons pe_str (pa_cons pe_int (pa_cons (pe_tup (pa_cons pe_str (pa_cons (pe_ifExp (pt_cmpR op_eq (pv 2) pe_str (nomark _)) pe_int (pe_op o_subI (pv 3) (pv 6))) (pa_cons (pe_callTy c_int (by rfl) T.f_int (by decide +kernel) (pa_cons (pv 7) pa_nil)) pa_nil)))) pa_nil)))))
    (pss_cons (ps_set (i := 9) nd rfl (Or.inl rfl) (pe_revL (pe_listRg rfl rfl T.f_list (prg_1 rfl T.f_range (pv 3)))))
    (pss_cons (ps_set (i := 10) nd rfl (Or.inl rfl) (pe_lst (pa_cons (pe_call G_compared (hr.mono (by first | decide | omega)) rfl T.g_compared T.k_compared T.b_compared .nil pass0 (pa_cons (pv 0) (pa_cons (pv 1) (pa_cons (pv 9) (pa_cons (pv 4) (pa_cons (pv 8) pa_nil)))))) pa_nil)))
    (pss_cons (ps_if (pt_val (pv 7)) (pss_one (ps_expr (pe_bm PySem.F.plainAttrs_list PySem.F.slot_list_append PySem.F.type_list_append mt_append (pv 10) (pa_cons (pe_call G_compared (hr.mono (by first | decide | omega)) rfl T.g_compared T.k_compared T.b_compared .nil pass0 (pa_cons (pv 0) (pa_cons (pv 1) (pa_cons (pe_slice sl_list (pv 9) po_none (po_some (pe_op o_subI (pv 3) (pv 6)))) (pa_cons (pv 4) (pa_cons (pv 8) pa_nil)))))) pa_nil)))) pss_nil)
    (pss_one (ps_ret (pv 10)))))))))))
theorem mk_from_right {P : Program} {w : World} {K : PySem.W.Frag} {mg : Str → Option Value} {base : Heap} {sp_right_slide : Sp} {sp_borders_of : Sp} {sp_compared : Sp} {sp : Sp} (T : Tx K mg) (G_right_slide : FnOk P w K mg base CX0 2 (f_right_slide K) (fd_right_slide K) ps_right_slide sp_right_slide) (G_borders_of : FnOk P w K mg base CX0 1 (f_borders_of K) (fd_borders_of K) ps_borders_of sp_borders_of) (G_compared : FnOk P w K mg base CX0 1 (f_compared K) (fd_compared K) ps_compared sp_compared)
    (len : ∀ vs H Q E, sp vs H Q E → vs.length = ps_from_right.length) (rd : ∀ vs H Q E, sp vs H Q E → t_from_right K sp_right_slide sp_borders_of sp_compared { nx := fun _ H' => Q .non H', rt := Q } (start N_from_right vs) H) :
    FnOk P w K mg base CX0 3 (f_from_right K) (fd_from_right K) ps_from_right sp :=
  FunD.ok T.F_from_right sc_from_right len fun cdv A outer s H vs Q E hr hsp => ⟨_, PSs.nox (dv_from_right (E := E) T hr G_right_slide G_borders_of G_compared), rd vs H Q E hsp⟩
theorem dv_made {P : Program} {w : World} {K : PySem.W.Frag} {mg : Str → Option Value} {base : Heap} {f : Addr} {cdv : Value} {A : Around} {outer : List Env} {s : Shared} {H : Hp} {E : XK} {sp_check_words : Sp} {sp_from_left : Sp} {sp_by_one_letter : Sp} {sp_from_right : Sp} {sp_Searcher_init : Sp} (T : Tx K mg)
    (hr : Room 50 (A.deeper (envOfC "made" (defScope s_made) s.heap.objs.size f cdv)))
    (G_check_words : FnOk P w K mg base CX0 2 (f_check_words K) (fd_check_words K) ps_check_words sp_check_words)
    (G_from_left : FnOk P w K mg base CX0 3 (f_from_left K) (fd_from_left K) ps_from_left sp_from_left)
    (G_by_one_letter : FnOk P w K mg base CX0 2 (f_by_one_letter K) (fd_by_one_letter K) ps_by_one_letter sp_by_one_letter)
    (G_from_right : FnOk P w K mg base CX0 3 (f_from_right K) (fd_from_right K) ps_from_right sp_from_right)
    (G_Searcher_init : FnOk P w K mg base CX0 49 (f_Searcher_init K) (fd_Searcher_init K) ps_Searcher_init sp_Searcher_init) :
    PSs (cxOf CX0 P w K mg base N_made "made" (defScope s_made) f cdv A outer s H E).nox (defBody s_made) (t_made K sp_check_words sp_from_left sp_by_one_letter sp_from_right sp_Searcher_init) := by
  have hu := hu_of hr
  have nd := sc_made.nd
  exact (pss_cons (ps_expr (pe_call G_check_words (hr.mono (by first | decide | omega)) rfl T.g_check_words T.k_check_words T.b_check_words .nil pass0 (pa_cons (pv 0) (pa_cons (pe_lst (pa_cons (pv 1) pa_nil)) pa_nil))))
    (pss_cons (ps_if (PW.pt (pw_or (pt_not (pt_val (pe_callB call_isi (by rfl) T.f_isinstance (by decide +kernel) (pa_cons (pv 2) (pa_cons (pe_bltn (v := .ty "str") (by rfl) T.f_str (by decide +kernel) rfl) pa_nil))))) (pw_or1 (pt_cmpR op_notIn_seq (pv 2) (pe_op op_catT (pe_op op_catT (pe_op op_catT (pe_glob rfl T.g_FROM_LEFT rfl) (pe_glob rfl T.g_BY_ONE_STATE rfl)) (pe_glob rfl T.g_FROM_RIGHT rfl)) (pe_tup (pa_cons (pe_glob rfl T.s_ALL_KNOWN ⟨T.tk_ALL_KNOWN, rfl⟩) pa_nil))) (by rfl))))) (pss_one ps_never) pss_nil)
    (pss_cons (ps_if (pt_cmpR op_in_seq (pv 2) (pe_glob rfl T.g_FROM_LEFT rfl) (by rfl)) (pss_one (ps_set (i := 3) nd rfl (Or.inl rfl) (pe_call G_from_left (hr.mono (by first | decide | omega)) rfl T.g_from_left T.k_from_left T.b_from_left .nil pass0 (pa_cons (pv 0) (pa_cons (pv 1) (pa_cons (pv 2) pa_nil)))))) (pss_one (ps_if (pt_cmpR op_in_seq (pv 2) (pe_glob rfl T.g_BY_ONE_STATE rfl) (by rfl)) (pss_one (ps_set (i := 3) nd rfl (Or.inl rfl) (pe_call G_by_one_letter (hr.mono (by first | decide | omega)) rfl T.g_by_one_letter T.k_by_one_letter T.b_by_one_letter .nil pass0 (pa_cons (pv 0) (pa_cons (pv 1) (pa_cons (pv 2) pa_nil)))))) (pss_one (ps_if (pt_cmpR op_in_seq (pv 2) (pe_glob rfl T.g_FROM_RIGHT rfl) (by rfl)) (pss_one (ps_set (i := 3) nd rfl (Or.inl rfl) (pe_call G_from_right (hr.mono (by first | decide | omega)) rfl T.g_from_right T.k_from_right T.b_from_right .nil pass0 (pa_cons (pv 0) (pa_cons (pv 1) (pa_cons (pv 2) pa_nil)))))) (pss_one ps_never))))))
    (pss_cons (ps_if (pt_cmpR o_gtI (pe_callB c_lenQ (by rfl) T.f_len (by decide +kernel) (pa_cons (pv 3) pa_nil)) (pe_glob rfl T.i_MOST_STATES ⟨T.tk_MOST_STATES, rfl⟩) (nomark _)) (pss_one ps_never) pss_nil)
    (pss_one (ps_ret (pe_make T.mk_Searcher G_Searcher_init (hr.mono (by first | decide | omega)) rfl T.g_Searcher T.b_Searcher_init .nil pass0 (pa_cons (pv 0) (pa_cons (pe_callB c_lenS (by rfl) T.f_len (by decide +kernel) (pa_cons (pv 1) pa_nil)) (pa_cons (pv 3) pa_nil))))))))))
theorem mk_made {P : Program} {w : World} {K : PySem.W.Frag} {mg : Str → Option Value} {base : Heap} {sp_check_words : Sp} {sp_from_left : Sp} {sp_by_one_letter : Sp} {sp_from_right : Sp} {sp_Searcher_init : Sp} {sp : Sp} (T : Tx K mg) (G_check_words : FnOk P w K mg base CX0 2 (f_check_words K) (fd_check_words K) ps_check_words sp_check_words) (G_from_left : FnOk P w K mg base CX0 3 (f_from_left K) (fd_from_left K) ps_from_left sp_from_left) (G_by_one_letter : FnOk P w K mg base CX0 2 (f_by_one_letter K) (fd_by_one_letter K) ps_by_one_letter sp_by_one_letter) (G_from_right : FnOk P w K mg base CX0 3 (f_from_right K) (fd_from_right K) ps_from_right sp_from_right) (G_Searcher_init : FnOk P w K mg base CX0 49 (f_Searcher_init K) (fd_Searcher_init K) ps_Searcher_init sp_Searcher_init)
    (len : ∀ vs H Q E, sp vs H Q E → vs.length = ps_made.length) (rd : ∀ vs H Q E, sp vs H Q E → t_made K sp_check_words sp_from_left sp_by_one_letter sp_from_right sp_Searcher_init { nx := fun _ H' => Q .non H', rt := Q } (start N_made vs) H) :
    FnOk P w K mg base CX0 51 (f_made K) (fd_made K) ps_made sp :=
  FunD.ok T.F_made sc_made len fun cdv A outer s H vs Q E hr hsp => ⟨_, PSs.nox (dv_made (E := E) T hr G_check_words G_from_left G_by_one_letter G_from_right G_Searcher_init), rd vs H Q E hsp⟩
theorem dv_law_pen {P : Program} {w : World} {K : PySem.W.Frag} {mg : Str → Option Value} {base : Heap} {f : Addr} {cdv : Value} {A : Around} {outer : List Env} {s : Shared} {H : Hp} {E : XK} (T : Tx K mg)
    (hr : Room 0 (A.deeper (envOfC "_law_pen" (defScope s_law_pen) s.heap.objs.size f cdv))) :
    PSs (cxOf CX0 P w K mg base N_law_pen "_law_pen" (defScope s_law_pen) f cdv A outer s H E).nox (defBody s_law_pen) (t_law_pen K) := by
  have hu := hu_of hr
  have nd := sc_law_pen.nd
  exact (pss_one (ps_ret (pe_disp (pps_cons pe_str (pe_callTy c_listL (by rfl) T.f_list (by decide +kernel) (pa_cons (pe_slice sl_list (pv 0) po_none (po_some pe_int)) pa_nil)) (pps_cons pe_str pe_int (pps_cons pe_str pe_int pps_nil))) (by rfl) (by rfl) (fun z => by cases z) (by decide))))
theorem mk_law_pen {P : Program} {w : World} {K : PySem.W.Frag} {mg : Str → Option Value} {base : Heap} {sp : Sp} (T : Tx K mg)
    (len : ∀ vs H Q E, sp vs H Q E → vs.length = ps_law_pen.length) (rd : ∀ vs H Q E, sp vs H Q E → t_law_pen K { nx := fun _ H' => Q .non H', rt := Q } (start N_law_pen vs) H) :
    FnOk P w K mg base CX0 1 (f_law_pen K) (fd_law_pen K) ps_law_pen sp :=
  FunD.ok T.F_law_pen sc_law_pen len fun cdv A outer s H vs Q E hr hsp => ⟨_, PSs.nox (dv_law_pen (E := E) T hr), rd vs H Q E hsp⟩
theorem dv_law_draw {P : Program} {w : World} {K : PySem.W.Frag} {mg : Str → Option Value} {base : Heap} {f : Addr} {cdv : Value} {A : Around} {outer : List Env} {s : Shared} {H : Hp} {E : XK} (T : Tx K mg)
    (hr : Room 0 (A.deeper (envOfC "_law_draw" (defScope s_law_draw) s.heap.objs.size f cdv))) :
    PSs (cxOf CX0 P w K mg base N_law_draw "_law_draw" (defScope s_law_draw) f cdv A outer s H E).nox (defBody s_law_draw) (t_law_draw K) := by
  have hu := hu_of hr
  have nd := sc_law_draw.nd
  exact (pss_cons (ps_if (pt_cmpR o_gtI (pe_dget hu (pv 0) pe_str (fun _ _ => rfl)) pe_int (nomark _)) (pss_cons (ps_set (i := 5) nd rfl (Or.inl rfl) (pe_op o_modI (pe_callTy c_int (by rfl) T.f_int (by decide +kernel) (pa_cons (pe_dget hu (pv 0) pe_str (fun _ _ => rfl)) pa_nil)) (pv 1)))
    (pss_cons (ps_dput hu (pv 0) pe_str (pe_op o_divI (pe_dget hu (pv 0) pe_str (fun _ _ => rfl)) (pv 1)) rfl)
    (pss_one (ps_ret (pv 5))))) pss_nil)
    (pss_cons (ps_set (i := 2) nd rfl (Or.inl rfl) (pe_dget hu (pv 0) pe_str (fun _ _ => rfl)))
    (pss_cons (ps_dput hu (pv 0) pe_str (pe_op o_addI (pv 2) pe_int) rfl)
    (pss_cons (ps_set (i := 3) nd rfl (Or.inl rfl) (pe_op o_addI (pe_op o_mulI pe_int (pv 2)) pe_int))
    (pss_cons (ps_if (pt_cmpR (op_neD hr.units) (pe_dget hu (pv 0) pe_str (fun _ _ => rfl)) (pe_lst pa_nil) (nomark _)) (pss_one (ps_set (i := 3) nd rfl (Or.inl rfl) (pe_ix ix_list (pe_dget hu (pv 0) pe_str (fun _ _ => rfl)) (pe_op o_modI (pe_callTy c_int (by rfl) T.f_int (by decide +kernel) (pa_cons (pv 2) pa_nil)) (pe_callB c_lenQ (by rfl) T.f_len (by decide +kernel) (pa_cons (pe_dget hu (pv 0) pe_str (fun _ _ => rfl)) pa_nil))) (fun _ _ => rfl)))) pss_nil)
    (pss_cons (ps_if (PW.pt (pw_and (pt_cmpR o_ltI (pv 2) (pe_callB c_lenQ (by rfl) T.f_len (by decide +kernel) (pa_cons (pe_dget hu (pv 0) pe_str (fun _ _ => rfl)) pa_nil)) (nomark _)) (pw_and1 (pt_cmpR o_geI (pe_callB c_abs (by rfl) T.f_abs (by decide +kernel) (pa_cons (pv 3) pa_nil)) (pe_op o_powI pe_int pe_int) (nomark _))))) (pss_cons (ps_dput hu (pv 0) pe_str (pe_op o_divI (pe_op o_subI (pe_callB c_abs (by rfl) T.f_abs (by decide +kernel) (pa_cons (pv 3) pa_nil)) (pe_op o_powI pe_int pe_int)) (pv 1)) rfl)
    (pss_one (ps_ret (pe_op o_modI (pe_callTy c_int (by rfl) T.f_int (by decide +kernel) (pa_cons (pe_op o_subI (pe_callB c_abs (by rfl) T.f_abs (by decide +kernel) (pa_cons (pv 3) pa_nil)) (pe_op o_powI pe_int pe_int)) pa_nil)) (pv 1))))) pss_nil)
    (pss_cons (ps_set (i := 4) nd rfl (Or.inl rfl) (pe_op o_addI (pe_op o_mulI (pe_op o_modI (pe_callTy c_int (by rfl) T.f_int (by decide +kernel) (pa_cons (pv 3) pa_nil)) pe_int) pe_int) (pe_op o_mulI (pe_op o_mulI pe_int (pv 2)) (pv 2))))
    (pss_cons (ps_set (i := 4) nd rfl (Or.inl rfl) (pe_op o_modI (pe_callTy c_int (by rfl) T.f_int (by decide +kernel) (pa_cons (pe_op o_addI (pe_op o_addI (pv 4) (pe_op o_mulI pe_int (pv 2))) pe_int) pa_nil)) pe_int))
    (pss_cons (ps_set (i := 4) nd rfl (Or.inl rfl) (pe_op o_modI (pe_callTy c_int (by rfl) T.f_int (by decide +kernel) (pa_cons (pe_op o_addI (pe_op o_addI (pe_op o_addI (pe_op o_mulI (pv 4) (pv 4)) (pe_op o_mulI pe_int (pv 4))) (pe_op o_mulI pe_int (pv 2))) pe_int) pa_nil)) pe_int))
    (pss_one (ps_ret (pe_op o_modI (pe_callTy c_int (by rfl) T.f_int (by decide +kernel) (pa_cons (pe_op o_divI (pe_op o_modI (pe_callTy c_int (by rfl) T.f_int (by decide +kernel) (pa_cons (pe_op o_mulI (pv 4) (pe_op o_addI (pv 4) pe_int)) pa_nil)) pe_int) pe_int) pa_nil)) (pv 1)))))))))))))
theorem mk_law_draw {P : Program} {w : World} {K : PySem.W.Frag} {mg : Str → Option Value} {base : Heap} {sp : Sp} (T : Tx K mg)
    (len : ∀ vs H Q E, sp vs H Q E → vs.length = ps_law_draw.length) (rd : ∀ vs H Q E, sp vs H Q E → t_law_draw K { nx := fun _ H' => Q .non H', rt := Q } (start N_law_draw vs) H) :
    FnOk P w K mg base CX0 1 (f_law_draw K) (fd_law_draw K) ps_law_draw sp :=
  FunD.ok T.F_law_draw sc_law_draw len fun cdv A outer s H vs Q E hr hsp => ⟨_, PSs.nox (dv_law_draw (E := E) T hr), rd vs H Q E hsp⟩
theorem dv_law_pick {P : Program} {w : World} {K : PySem.W.Frag} {mg : Str → Option Value} {base : Heap} {f : Addr} {cdv : Value} {A : Around} {outer : List Env} {s : Shared} {H : Hp} {E : XK} {sp_law_draw : Sp} (T : Tx K mg)
    (hr : Room 1 (A.deeper (envOfC "_law_pick" (defScope s_law_pick) s.heap.objs.size f cdv)))
    (G_law_draw : FnOk P w K mg base CX0 1 (f_law_draw K) (fd_law_draw K) ps_law_draw sp_law_draw) :
    PSs (cxOf CX0 P w K mg base N_law_pick "_law_pick" (defScope s_law_pick) f cdv A outer s H E).nox (defBody s_law_pick) (t_law_pick K sp_law_draw) := by
  have hu := hu_of hr
  have nd := sc_law_pick.nd
  exact (pss_one (ps_ret (pe_ix ix_seq (pv 1) (pe_call G_law_draw (hr.mono (by first | decide | omega)) rfl T.g_law_draw T.k_law_draw T.b_law_draw .nil pass0 (pa_cons (pv 0) (pa_cons (pe_callB c_lenA (by rfl) T.f_len (by decide +kernel) (pa_cons (pv 1) pa_nil)) pa_nil))) (fun _ _ => rfl))))
theorem mk_law_pick {P : Program} {w : World} {K : PySem.W.Frag} {mg : Str → Option Value} {base : Heap} {sp_law_draw : Sp} {sp : Sp} (T : Tx K mg) (G_law_draw : FnOk P w K mg base CX0 1 (f_law_draw K) (fd_law_draw K) ps_law_draw sp_law_draw)
    (len : ∀ vs H Q E, sp vs H Q E → vs.length = ps_law_pick.length) (rd : ∀ vs H Q E, sp vs H Q E → t_law_pick K sp_law_draw { nx := fun _ H' => Q .non H', rt := Q } (start N_law_pick vs) H) :
    FnOk P w K mg base CX0 2 (f_law_pick K) (fd_law_pick K) ps_law_pick sp :=
  FunD.ok T.F_law_pick sc_law_pick len fun cdv A outer s H vs Q E hr hsp => ⟨_, PSs.nox (dv_law_pick (E := E) T hr G_law_draw), rd vs H Q E hsp⟩
theorem dv_law_letters {P : Program} {w : World} {K : PySem.W.Frag} {mg : Str → Option Value} {base : Heap} {f : Addr} {cdv : Value} {A : Around} {outer : List Env} {s : Shared} {H : Hp} {E : XK} {sp_law_draw : Sp} (T : Tx K mg)
    (hr : Room 1 (A.deeper (envOfC "_law_letters" (defScope s_law_letters) s.heap.objs.size f cdv)))
    (G_law_draw : FnOk P w K mg base CX0 1 (f_law_draw K) (fd_law_draw K) ps_law_draw sp_law_draw) :
    PSs (cxOf CX0 P w K mg base N_law_letters "_law_letters" (defScope s_law_letters) f cdv A outer s H E).nox (defBody s_law_letters) (t_law_letters K sp_law_draw) := by
  have hu := hu_of hr
  have nd := sc_law_letters.nd
  exact (pss_cons (ps_par (i := 2) (j := 3) rfl nd rfl rfl (by decide) rfl rfl (pa_cons (pe_callTy (c_listS rfl) (by rfl) T.f_list (by decide +kernel) (pa_cons pe_str pa_nil)) (pa_cons pe_str pa_nil)) (by rfl))
    (pss_cons (ps_while PassesOwn.never (pt_cmpR o_ltI (pe_callB c_lenS (by rfl) T.f_len (by decide +kernel) (pa_cons (pv 3) pa_nil)) (pv 1) (nomark _)) (pss_one (ps_set (i := 3) nd rfl (Or.inl rfl) (pe_op o_addS (pv 3) (pe_bm PySem.F.plainAttrs_list PySem.F.slot_list_pop PySem.F.type_list_pop mt_popAt (pv 2) (pa_cons (pe_call G_law_draw (hr.mono (by first | decide | omega)) rfl T.g_law_draw T.k_law_draw T.b_law_draw .nil pass0 (pa_cons (pv 0) (pa_cons (pe_callB c_lenQ (by rfl) T.f_len (by decide +kernel) (pa_cons (pv 2) pa_nil)) pa_nil))) pa_nil))))))
    (pss_one (ps_ret (pv 3)))))
theorem mk_law_letters {P : Program} {w : World} {K : PySem.W.Frag} {mg : Str → Option Value} {base : Heap} {sp_law_draw : Sp} {sp : Sp} (T : Tx K mg) (G_law_draw : FnOk P w K mg base CX0 1 (f_law_draw K) (fd_law_draw K) ps_law_draw sp_law_draw)
    (len : ∀ vs H Q E, sp vs H Q E → vs.length = ps_law_letters.length) (rd : ∀ vs H Q E, sp vs H Q E → t_law_letters K sp_law_draw { nx := fun _ H' => Q .non H', rt := Q } (start N_law_letters vs) H) :
    FnOk P w K mg base CX0 2 (f_law_letters K) (fd_law_letters K) ps_law_letters sp :=
  FunD.ok T.F_law_letters sc_law_letters len fun cdv A outer s H vs Q E hr hsp => ⟨_, PSs.nox (dv_law_letters (E := E) T hr G_law_draw), rd vs H Q E hsp⟩
theorem dv_law_word {P : Program} {w : World} {K : PySem.W.Frag} {mg : Str → Option Value} {base : Heap} {f : Addr} {cdv : Value} {A : Around} {outer : List Env} {s : Shared} {H : Hp} {E : XK} {sp_law_draw : Sp} {sp_law_pick : Sp} (T : Tx K mg)
    (hr : Room 2 (A.deeper (envOfC "_law_word" (defScope s_law_word) s.heap.objs.size f cdv)))
    (G_law_draw : FnOk P w K mg base CX0 1 (f_law_draw K) (fd_law_draw K) ps_law_draw sp_law_draw)
    (G_law_pick : FnOk P w K mg base CX0 2 (f_law_pick K) (fd_law_pick K) ps_law_pick sp_law_pick) :
    PSs (cxOf CX0 P w K mg base N_law_word "_law_word" (defScope s_law_word) f cdv A outer s H E).nox (defBody s_law_word) (t_law_word K sp_law_draw sp_law_pick) := by
  have hu := hu_of hr
  have nd := sc_law_word.nd
  exact (pss_one (ps_ret (pe_m1 F.slot_str_join F.type_str_join m_join pe_str (pe_lc (own := [("_law_k", 3)]) rfl nd (pi_range1 rfl T.f_range (pa_cons (pv 2) pa_nil)) (blkOk_by (own := [("_law_k", 3)]) (N := N_law_word) (sc := defScope s_law_word) (by decide +kernel)) (fun _ _ _ _ _ => pg_name (i := 3) nd rfl (Or.inl rfl)) (fun _ _ _ _ _ => pts_nil) (fun _ _ _ _ _ => pe_ifExp (pt_cmpR op_eq (pe_call G_law_draw (hr.mono (by first | decide | omega)) rfl T.g_law_draw T.k_law_draw T.b_law_draw .nil pass0 (pa_cons (pv 0) (pa_cons pe_int pa_nil))) pe_int (nomark _)) (pe_ix ix_str (pv 1) pe_int (fun _ _ => rfl)) (pe_call G_law_pick (hr.mono (by first | decide | omega)) rfl T.g_law_pick T.k_law_pick T.b_law_pick .nil pass0 (pa_cons (pv 0) (pa_cons (pv 1) pa_nil))))))))
theorem mk_law_word {P : Program} {w : World} {K : PySem.W.Frag} {mg : Str → Option Value} {base : Heap} {sp_law_draw : Sp} {sp_law_pick : Sp} {sp : Sp} (T : Tx K mg) (G_law_draw : FnOk P w K mg base CX0 1 (f_law_draw K) (fd_law_draw K) ps_law_draw sp_law_draw) (G_law_pick : FnOk P w K mg base CX0 2 (f_law_pick K) (fd_law_pick K) ps_law_pick sp_law_pick)
    (len : ∀ vs H Q E, sp vs H Q E → vs.length = ps_law_word.length) (rd : ∀ vs H Q E, sp vs H Q E → t_law_word K sp_law_draw sp_law_pick { nx := fun _ H' => Q .non H', rt := Q } (start N_law_word vs) H) :
    FnOk P w K mg base CX0 3 (f_law_word K) (fd_law_word K) ps_law_word sp :=
  FunD.ok T.F_law_word sc_law_word len fun cdv A outer s H vs Q E hr hsp => ⟨_, PSs.nox (dv_law_word (E := E) T hr G_law_draw G_law_pick), rd vs H Q E hsp⟩
theorem dv_law_ways {P : Program} {w : World} {K : PySem.W.Frag} {mg : Str → Option Value} {base : Heap} {f : Addr} {cdv : Value} {A : Around} {outer : List Env} {s : Shared} {H : Hp} {E : XK} (T : Tx K mg)
    (hr : Room 0 (A.deeper (envOfC "_law_ways" (defScope s_law_ways) s.heap.objs.size f cdv))) :
    PSs (cxOf CX0 P w K mg base N_law_ways "_law_ways" (defScope s_law_ways) f cdv A outer s H E).nox (defBody s_law_ways) (t_law_ways K) := by
  have hu := hu_of hr
  have nd := sc_law_ways.nd
  exact (pss_cons (ps_set (i := 0) nd rfl (Or.inl rfl) (pe_lst (pa_cons pe_str (pa_cons pe_str (pa_cons pe_str (pa_cons pe_str (pa_cons pe_str (pa_cons pe_str pa_nil))))))))
    (pss_one (ps_ret (pe_op op_cat (pv 0) (pe_lst (pa_cons pe_str (pa_cons pe_str (pa_cons pe_str (pa_cons pe_str (pa_cons pe_str pa_nil))))))))))
theorem mk_law_ways {P : Program} {w : World} {K : PySem.W.Frag} {mg : Str → Option Value} {base : Heap} {sp : Sp} (T : Tx K mg)
    (len : ∀ vs H Q E, sp vs H Q E → vs.length = ps_law_ways.length) (rd : ∀ vs H Q E, sp vs H Q E → t_law_ways K { nx := fun _ H' => Q .non H', rt := Q } (start N_law_ways vs) H) :
    FnOk P w K mg base CX0 1 (f_law_ways K) (fd_law_ways K) ps_law_ways sp :=
  FunD.ok T.F_law_ways sc_law_ways len fun cdv A outer s H vs Q E hr hsp => ⟨_, PSs.nox (dv_law_ways (E := E) T hr), rd vs H Q E hsp⟩
theorem dv_law_bent_tree {P : Program} {w : World} {K : PySem.W.Frag} {mg : Str → Option Value} {base : Heap} {f : Addr} {cdv : Value} {A : Around} {outer : List Env} {s : Shared} {H : Hp} {E : XK} {sp_law_draw : Sp} {sp_law_bent_tree : Sp} {kk : Nat} (hkk : 3 ≤ kk) (T : Tx K mg)
    (hr : Room kk (A.deeper (envOfC "_law_bent_tree" (defScope s_law_bent_tree) s.heap.objs.size f cdv)))
    (G_law_draw : FnOk P w K mg base CX0 1 (f_law_draw K) (fd_law_draw K) ps_law_draw sp_law_draw)
    (G_law_bent_tree : FnOk P w K mg base CX0 kk (f_law_bent_tree K) (fd_law_bent_tree K) ps_law_bent_tree sp_law_bent_tree) :
    PSs (cxOf CX0 P w K mg base N_law_bent_tree "_law_bent_tree" (defScope s_law_bent_tree) f cdv A outer s H E).nox (defBody s_law_bent_tree) (t_law_bent_tree K sp_law_draw sp_law_bent_tree) := by
  have hu := hu_of hr
  have nd := sc_law_bent_tree.nd
  exact (pss_cons (ps_if (pt_cmpR op_eq (pe_ix ix_tup (pv 1) pe_int (fun _ _ => rfl)) pe_str (nomark _)) (pss_cons (ps_if (pt_cmpR op_eq (pe_call G_law_draw (hr.mono (by first | decide | omega)) rfl T.g_law_draw T.k_law_draw T.b_law_draw .nil pass0 (pa_cons (pv 0) (pa_cons pe_int pa_nil))) pe_int (nomark _)) (pss_one (ps_ret (pe_tup (pa_cons pe_str (pa_cons (pe_ix ix_tup (pv 1) pe_int (fun _ _ => rfl)) (pa_cons (pe_call G_law_draw (hr.mono (by first | decide | omega)) rfl T.g_law_draw T.k_law_draw T.b_law_draw .nil pass0 (pa_cons (pv 0) (pa_cons (pv 3) pa_nil))) pa_nil)))))) pss_nil)
    (pss_one (ps_ret (pe_tup (pa_cons pe_str (pa_cons (pe_op o_addI pe_int (pe_call G_law_draw (hr.mono (by first | decide | omega)) rfl T.g_law_draw T.k_law_draw T.b_law_draw .nil pass0 (pa_cons (pv 0) (pa_cons (pe_op o_addI (pv 2) pe_int) pa_nil)))) (pa_cons (pe_ix ix_tup (pv 1) pe_int (fun _ _ => rfl)) pa_nil))))))) pss_nil)
    (pss_cons (ps_if (pt_cmpR op_eq (pe_ix ix_tup (pv 1) pe_int (fun _ _ => rfl)) pe_str (nomark _)) (pss_cons (ps_if (pt_cmpR op_eq (pe_call G_law_draw (hr.mono (by first | decide | omega)) rfl T.g_law_draw T.k_law_draw T.b_law_draw .nil pass0 (pa_cons (pv 0) (pa_cons pe_int pa_nil))) pe_int (nomark _)) (pss_one (ps_ret (pe_ix ix_tup (pv 1) pe_int (fun _ _ => rfl)))) pss_nil)
    (pss_one (ps_ret (pe_tup (pa_cons pe_str (pa_cons (pe_ix ix_tup (pv 1) pe_int (fun _ _ => rfl)) (pa_cons (pe_call G_law_bent_tree (hr.mono (by first | decide | omega)) rfl T.g_law_bent_tree T.k_law_bent_tree T.b_law_bent_tree .nil pass0 (pa_cons (pv 0) (pa_cons (pe_ix ix_tup (pv 1) pe_int (fun _ _ => rfl)) (pa_cons (pv 2) (pa_cons (pv 3) pa_nil))))) pa_nil))))))) pss_nil)
    (pss_cons (ps_if (pt_cmpR op_eq (pe_call G_law_draw (hr.mono (by first | decide | omega)) rfl T.g_law_draw T.k_law_draw T.b_law_draw .nil pass0 (pa_cons (pv 0) (pa_cons pe_int pa_nil))) pe_int (nomark _)) (pss_one (ps_ret (pe_tup (pa_cons pe_str (pa_cons (pe_call G_law_draw (hr.mono (by first | decide | omega)) rfl T.g_law_draw T.k_law_draw T.b_law_draw .nil pass0 (pa_cons (pv 0) (pa_cons (pe_op o_addI (pv 2) pe_int) pa_nil))) (pa_cons (pe_ix ix_tup (pv 1) pe_int (fun _ _ => rfl)) pa_nil)))))) pss_nil)
    (pss_cons (ps_par (i := 4) (j := 5) rfl nd rfl rfl (by decide) rfl rfl (pa_cons (pe_callTy c_listL (by rfl) T.f_list (by decide +kernel) (pa_cons (pe_ix ix_tup (pv 1) pe_int (fun _ _ => rfl)) pa_nil)) (pa_cons (pe_call G_law_draw (hr.mono (by first | decide | omega)) rfl T.g_law_draw T.k_law_draw T.b_law_draw .nil pass0 (pa_cons (pv 0) (pa_cons (pe_callB c_lenQ (by rfl) T.f_len (by decide +kernel) (pa_cons (pe_ix ix_tup (pv 1) pe_int (fun _ _ => rfl)) pa_nil)) pa_nil))) pa_nil)) (by rfl))
    (pss_cons (ps_asg (pe_call G_law_bent_tree (hr.mono (by first | decide | omega)) rfl T.g_law_bent_tree T.k_law_bent_tree T.b_law_bent_tree .nil pass0 (pa_cons (pv 0) (pa_cons (pe_ix ix_list (pv 4) (pv 5) (fun _ _ => rfl)) (pa_cons (pv 2) (pa_cons (pv 3) pa_nil))))) (pg_sub (pv 4) (pv 5) set_list))
    (pss_one (ps_ret (pe_tup (pa_cons pe_str (pa_cons (pe_ix ix_tup (pv 1) pe_int (fun _ _ => rfl)) (pa_cons (pe_callTy c_tupL (by rfl) T.f_tuple (by decide +kernel) (pa_cons (pv 4) pa_nil)) pa_nil)))))))))))
theorem mk_law_bent_tree {P : Program} {w : World} {K : PySem.W.Frag} {mg : Str → Option Value} {base : Heap} {sp_law_draw : Sp} {sp_law_bent_tree : Sp} {sp : Sp} {kk : Nat} (hkk : 3 ≤ kk) (T : Tx K mg) (G_law_draw : FnOk P w K mg base CX0 1 (f_law_draw K) (fd_law_draw K) ps_law_draw sp_law_draw) (G_law_bent_tree : FnOk P w K mg base CX0 kk (f_law_bent_tree K) (fd_law_bent_tree K) ps_law_bent_tree sp_law_bent_tree)
    (len : ∀ vs H Q E, sp vs H Q E → vs.length = ps_law_bent_tree.length) (rd : ∀ vs H Q E, sp vs H Q E → t_law_bent_tree K sp_law_draw sp_law_bent_tree { nx := fun _ H' => Q .non H', rt := Q } (start N_law_bent_tree vs) H) :
    FnOk P w K mg base CX0 (kk + 1) (f_law_bent_tree K) (fd_law_bent_tree K) ps_law_bent_tree sp :=
  FunD.ok T.F_law_bent_tree sc_law_bent_tree len fun cdv A outer s H vs Q E hr hsp => ⟨_, PSs.nox (dv_law_bent_tree (E := E) hkk T hr G_law_draw G_law_bent_tree), rd vs H Q E hsp⟩
theorem dv_law_bent {P : Program} {w : World} {K : PySem.W.Frag} {mg : Str → Option Value} {base : Heap} {f : Addr} {cdv : Value} {A : Around} {outer : List Env} {s : Shared} {H : Hp} {E : XK} {sp_law_draw : Sp} {sp_law_bent_tree : Sp} {sp_Searcher_init : Sp} (T : Tx K mg)
    (hr : Room 50 (A.deeper (envOfC "_law_bent" (defScope s_law_bent) s.heap.objs.size f cdv)))
    (G_law_draw : FnOk P w K mg base CX0 1 (f_law_draw K) (fd_law_draw K) ps_law_draw sp_law_draw)
    (G_law_bent_tree : FnOk P w K mg base CX0 47 (f_law_bent_tree K) (fd_law_bent_tree K) ps_law_bent_tree sp_law_bent_tree)
    (G_Searcher_init : FnOk P w K mg base CX0 49 (f_Searcher_init K) (fd_Searcher_init K) ps_Searcher_init sp_Searcher_init) :
    PSs (cxOf CX0 P w K mg base N_law_bent "_law_bent" (defScope s_law_bent) f cdv A outer s H E).nox (defBody s_law_bent) (t_law_bent K sp_law_draw sp_law_bent_tree sp_Searcher_init) := by
  have hu := hu_of hr
  have nd := sc_law_bent.nd
  exact (pss_cons (ps_par (i := 2) (j := 3) rfl nd rfl rfl (by decide) rfl rfl (pa_cons (pe_callTy c_listL (by rfl) T.f_list (by decide +kernel) (pa_cons (pe_fld (pv 1) rfl) pa_nil)) (pa_cons (pe_call G_law_draw (hr.mono (by first | decide | omega)) rfl T.g_law_draw T.k_law_draw T.b_law_draw .nil pass0 (pa_cons (pv 0) (pa_cons (pe_callB c_lenQ (by rfl) T.f_len (by decide +kernel) (pa_cons (pe_fld (pv 1) rfl) pa_nil)) pa_nil))) pa_nil)) (by rfl))
    (pss_cons (ps_asg (pe_call G_law_bent_tree (hr.mono (by first | decide | omega)) rfl T.g_law_bent_tree T.k_law_bent_tree T.b_law_bent_tree .nil pass0 (pa_cons (pv 0) (pa_cons (pe_ix ix_list (pv 2) (pv 3) (fun _ _ => rfl)) (pa_cons (pe_fld (pv 1) rfl) (pa_cons (pe_callB c_lenQ (by rfl) T.f_len (by decide +kernel) (pa_cons (pv 2) pa_nil)) pa_nil))))) (pg_sub (pv 2) (pv 3) set_list))
    (pss_one (ps_ret (pe_make T.mk_Searcher G_Searcher_init (hr.mono (by first | decide | omega)) rfl T.g_Searcher T.b_Searcher_init .nil pass0 (pa_cons (pe_fld (pv 1) rfl) (pa_cons (pe_fld (pv 1) rfl) (pa_cons (pv 2) pa_nil))))))))
theorem mk_law_bent {P : Program} {w : World} {K : PySem.W.Frag} {mg : Str → Option Value} {base : Heap} {sp_law_draw : Sp} {sp_law_bent_tree : Sp} {sp_Searcher_init : Sp} {sp : Sp} (T : Tx K mg) (G_law_draw : FnOk P w K mg base CX0 1 (f_law_draw K) (fd_law_draw K) ps_law_draw sp_law_draw) (G_law_bent_tree : FnOk P w K mg base CX0 47 (f_law_bent_tree K) (fd_law_bent_tree K) ps_law_bent_tree sp_law_bent_tree) (G_Searcher_init : FnOk P w K mg base CX0 49 (f_Searcher_init K) (fd_Searcher_init K) ps_Searcher_init sp_Searcher_init)
    (len : ∀ vs H Q E, sp vs H Q E → vs.length = ps_law_bent.length) (rd : ∀ vs H Q E, sp vs H Q E → t_law_bent K sp_law_draw sp_law_bent_tree sp_Searcher_init { nx := fun _ H' => Q .non H', rt := Q } (start N_law_bent vs) H) :
    FnOk P w K mg base CX0 51 (f_law_bent K) (fd_law_bent K) ps_law_bent sp :=
  FunD.ok T.F_law_bent sc_law_bent len fun cdv A outer s H vs Q E hr hsp => ⟨_, PSs.nox (dv_law_bent (E := E) T hr G_law_draw G_law_bent_tree G_Searcher_init), rd vs H Q E hsp⟩
theorem dv_law_rules {P : Program} {w : World} {K : PySem.W.Frag} {mg : Str → Option Value} {base : Heap} {f : Addr} {cdv : Value} {A : Around} {outer : List Env} {s : Shared} {H : Hp} {E : XK} {sp_law_draw : Sp} {sp_law_word : Sp} (T : Tx K mg)
    (hr : Room 3 (A.deeper (envOfC "_law_rules" (defScope s_law_rules) s.heap.objs.size f cdv)))
    (G_law_draw : FnOk P w K mg base CX0 1 (f_law_draw K) (fd_law_draw K) ps_law_draw sp_law_draw)
    (G_law_word : FnOk P w K mg base CX0 3 (f_law_word K) (fd_law_word K) ps_law_word sp_law_word) :
    PSs (cxOf CX0 P w K mg base N_law_rules "_law_rules" (defScope s_law_rules) f cdv A outer s H E).nox (defBody s_law_rules) (t_law_rules K sp_law_draw sp_law_word) := by
  have hu := hu_of hr
  have nd := sc_law_rules.nd
  exact (pss_cons (ps_par3 (i := 2) (j := 3) (l := 4) rfl nd rfl rfl rfl (by decide) (by decide) (by decide) rfl rfl rfl (pa_cons (pe_lst (pa_cons pe_str (pa_cons pe_str (pa_cons pe_str (pa_cons pe_str (pa_cons pe_str (pa_cons pe_str pa_nil))))))) (pa_cons pe_dnewK (pa_cons pe_dnewK pa_nil))) (by rfl))
    (pss_cons (ps_for PassesOwn.never rfl (pi_enum rfl T.f_enumerate (pa_cons (pv 2) pa_nil)) (pg_tup rfl (pgs_cons (pg_name (i := 5) nd rfl (Or.inl rfl)) (pgs_cons (pg_name (i := 6) nd rfl (Or.inl rfl)) pgs_nil))) (pss_cons (ps_par (i := 7) (j := 8) rfl nd rfl rfl (by decide) rfl rfl (pa_cons (pe_lst pa_nil) (pa_cons pe_str pa_nil)) (by rfl))
    (pss_cons (ps_for PassesOwn.never rfl (pi_range1 rfl T.f_range (pa_cons (pe_op o_addI pe_int (pe_call G_law_draw (hr.mono (by first | decide | omega)) rfl T.g_law_draw T.k_law_draw T.b_law_draw .nil pass0 (pa_cons (pv 0) (pa_cons pe_int pa_nil)))) pa_nil)) (pg_name (i := 9) nd rfl (Or.inl rfl)) (pss_cons (ps_set (i := 10) nd rfl (Or.inl rfl) (pe_call G_law_word (hr.mono (by first | decide | omega)) rfl T.g_law_word T.k_law_word T.b_law_word .nil pass0 (pa_cons (pv 0) (pa_cons (pv 1) (pa_cons (pe_op o_addI pe_int (pe_call G_law_draw (hr.mono (by first | decide | omega)) rfl T.g_law_draw T.k_law_draw T.b_law_draw .nil pass0 (pa_cons (pv 0) (pa_cons pe_int pa_nil)))) pa_nil)))))
    (pss_cons (ps_if (PW.pt (pw_and (pt_cmpR o_gtI (pv 5) pe_int (nomark _)) (pw_and1 (pt_cmpR op_eq (pe_call G_law_draw (hr.mono (by first | decide | omega)) rfl T.g_law_draw T.k_law_draw T.b_law_draw .nil pass0 (pa_cons (pv 0) (pa_cons pe_int pa_nil))) pe_int (nomark _))))) (pss_one (ps_set (i := 10) nd rfl (Or.inl rfl) (pe_ix ix_list (pv 2) (pe_call G_law_draw (hr.mono (by first | decide | omega)) rfl T.g_law_draw T.k_law_draw T.b_law_draw .nil pass0 (pa_cons (pv 0) (pa_cons (pv 5) pa_nil))) (fun _ _ => rfl)))) pss_nil)
    (pss_cons (ps_set (i := 11) nd rfl (Or.inl rfl) (pe_op o_addI pe_int (pe_call G_law_draw (hr.mono (by first | decide | omega)) rfl T.g_law_draw T.k_law_draw T.b_law_draw .nil pass0 (pa_cons (pv 0) (pa_cons pe_int pa_nil)))))
    (pss_cons (ps_expr (pe_bm PySem.F.plainAttrs_list PySem.F.slot_list_append PySem.F.type_list_append mt_append (pv 7) (pa_cons (pe_tup (pa_cons (pv 10) (pa_cons (pv 11) pa_nil))) pa_nil)))
    (pss_one (ps_set (i := 8) nd rfl (Or.inl rfl) (pe_op o_addS (pv 8) (pe_op o_mulS (pe_dget2 hu (pv 4) (pv 10) (pv 10) ⟨rfl, rfl, rfl, rfl⟩) (pv 11))))))))))
    (pss_one (ps_asg (pe_tup (pa_cons (pv 7) (pa_cons (pe_slice sl_str (pv 8) po_none (po_some pe_int)) pa_nil))) (pg_tup rfl (pgs_cons (pg_sub (pv 3) (pv 6) (set_dict hu)) (pgs_cons (pg_sub (pv 4) (pv 6) (set_dict hu)) pgs_nil))))))))
    (pss_one (ps_ret (pe_tup (pa_cons (pv 3) (pa_cons (pv 4) pa_nil)))))))
theorem mk_law_rules {P : Program} {w : World} {K : PySem.W.Frag} {mg : Str → Option Value} {base : Heap} {sp_law_draw : Sp} {sp_law_word : Sp} {sp : Sp} (T : Tx K mg) (G_law_draw : FnOk P w K mg base CX0 1 (f_law_draw K) (fd_law_draw K) ps_law_draw sp_law_draw) (G_law_word : FnOk P w K mg base CX0 3 (f_law_word K) (fd_law_word K) ps_law_word sp_law_word)
    (len : ∀ vs H Q E, sp vs H Q E → vs.length = ps_law_rules.length) (rd : ∀ vs H Q E, sp vs H Q E → t_law_rules K sp_law_draw sp_law_word { nx := fun _ H' => Q .non H', rt := Q } (start N_law_rules vs) H) :
    FnOk P w K mg base CX0 4 (f_law_rules K) (fd_law_rules K) ps_law_rules sp :=
  FunD.ok T.F_law_rules sc_law_rules len fun cdv A outer s H vs Q E hr hsp => ⟨_, PSs.nox (dv_law_rules (E := E) T hr G_law_draw G_law_word), rd vs H Q E hsp⟩
theorem dv_law {P : Program} {w : World} {K : PySem.W.Frag} {mg : Str → Option Value} {base : Heap} {f : Addr} {cdv : Value} {A : Around} {outer : List Env} {s : Shared} {H : Hp} {E : XK} {sp_law_pen : Sp} {sp_law_letters : Sp} {sp_law_draw : Sp} {sp_law_rules : Sp} {sp_law_word : Sp} {sp_law_pick : Sp} {sp_made : Sp} {sp_law_ways : Sp} {sp_law_bent : Sp} {sp_Weave_init : Sp} {sp_trace : Sp} {sp_far : Sp} {sp_Weave_part : Sp} {sp_Far_told_at : Sp} {sp_Weave_letter : Sp} (T : Tx K mg)
    (hr : Room 51 (A.deeper (envOfC "law" (defScope s_law) s.heap.objs.size f cdv)))
    (G_law_pen : FnOk P w K mg base CX0 1 (f_law_pen K) (fd_law_pen K) ps_law_pen sp_law_pen)
    (G_law_letters : FnOk P w K mg base CX0 2 (f_law_letters K) (fd_law_letters K) ps_law_letters sp_law_letters)
    (G_law_draw : FnOk P w K mg base CX0 1 (f_law_draw K) (fd_law_draw K) ps_law_draw sp_law_draw)
    (G_law_rules : FnOk P w K mg base CX0 4 (f_law_rules K) (fd_law_rules K) ps_law_rules sp_law_rules)
    (G_law_word : FnOk P w K mg base CX0 3 (f_law_word K) (fd_law_word K) ps_law_word sp_law_word)
    (G_law_pick : FnOk P w K mg base CX0 2 (f_law_pick K) (fd_law_pick K) ps_law_pick sp_law_pick)
    (G_made : FnOk P w K mg base CX0 51 (f_made K) (fd_made K) ps_made sp_made)
    (G_law_ways : FnOk P w K mg base CX0 1 (f_law_ways K) (fd_law_ways K) ps_law_ways sp_law_ways)
    (G_law_bent : FnOk P w K mg base CX0 51 (f_law_bent K) (fd_law_bent K) ps_law_bent sp_law_bent)
    (G_Weave_init : FnOk P w K mg base CX0 6 (f_Weave_init K) (fd_Weave_init K) ps_Weave_init sp_Weave_init)
    (G_trace : FnOk P w K mg base CX0 4 (f_trace K) (fd_trace K) ps_trace sp_trace)
    (G_far : FnOk P w K mg base CX0 8 (f_far K) (fd_far K) ps_far sp_far)
    (G_Weave_part : FnOk P w K mg base CX0 2 (f_Weave_part K) (fd_Weave_part K) ps_Weave_part sp_Weave_part)
    (G_Far_told_at : FnOk P w K mg base CX0 6 (f_Far_told_at K) (fd_Far_told_at K) ps_Far_told_at sp_Far_told_at)
    (G_Weave_letter : FnOk P w K mg base CX0 1 (f_Weave_letter K) (fd_Weave_letter K) ps_Weave_letter sp_Weave_letter) :
    PSs (cxOf CX0 P w K mg base N_law "law" (defScope s_law) f cdv A outer s H E).nox (defBody s_law) (t_law K sp_law_pen sp_law_letters sp_law_draw sp_law_rules sp_law_word sp_law_pick sp_made sp_law_ways sp_law_bent sp_Weave_init sp_trace sp_far sp_Weave_part sp_Far_told_at sp_Weave_letter) := by
  have hu := hu_of hr
  have nd := sc_law.nd
  exact (pss_cons (ps_set (i := 1) nd rfl (Or.inl rfl) (pe_call G_law_pen (hr.mono (by first | decide | omega)) rfl T.g_law_pen T.k_law_pen T.b_law_pen .nil pass0 (pa_cons (pv 0) pa_nil)))
    (pss_cons (ps_set (i := 2) nd rfl (Or.inl rfl) (pe_call G_law_letters (hr.mono (by first | decide | omega)) rfl T.g_law_letters T.k_law_letters T.b_law_letters .nil pass0 (pa_cons (pv 1) (pa_cons (pe_op o_addI pe_int (pe_call G_law_draw (hr.mono (by first | decide | omega)) rfl T.g_law_draw T.k_law_draw T.b_law_draw .nil pass0 (pa_cons (pv 1) (pa_cons pe_int pa_nil)))) pa_nil))))
    (pss_cons (ps_asg (pe_call G_law_rules (hr.mono (by first | decide | omega)) rfl T.g_law_rules T.k_law_rules T.b_law_rules .nil pass0 (pa_cons (pv 1) (pa_cons (pv 2) pa_nil))) (pg_tup rfl (pgs_cons (pg_name (i := 3) nd rfl (Or.inl rfl)) (pgs_cons (pg_name (i := 4) nd rfl (Or.inr rfl)) pgs_nil))))
    (pss_cons (ps_lock (ps_setLc (i := 5) (own := [("_law_name", 17)]) rfl nd rfl rfl (sw_true rfl rfl rfl (by decide +kernel)) (pi_keys (pv 3)) (blkOk_by (own := [("_law_name", 17)]) (N := N_law) (sc := defScope s_law) (by decide +kernel)) (fun _ _ _ _ _ => pg_name (i := 17) nd rfl (Or.inl rfl)) (fun _ _ _ _ _ => pts_one (pt_cmpR o_leI (pe_callB c_lenS (by rfl) T.f_len (by decide +kernel) (pa_cons (pe_dget hu (pv 4) (pv 17) (fun _ _ => rfl)) pa_nil)) pe_int (nomark _))) (fun _ _ _ _ _ => pv 17)))
    (pss_cons (ps_for PassesOwn.never rfl (pi_range1 rfl T.f_range (pa_cons pe_int pa_nil)) (pg_name (i := 6) nd rfl (Or.inl rfl)) (pss_cons (ps_par (i := 7) (j := 8) rfl nd rfl rfl (by decide) rfl rfl (pa_cons (pe_call G_law_word (hr.mono (by first | decide | omega)) rfl T.g_law_word T.k_law_word T.b_law_word .nil pass0 (pa_cons (pv 1) (pa_cons (pv 2) (pa_cons (pe_op o_addI pe_int (pe_call G_law_draw (hr.mono (by first | decide | omega)) rfl T.g_law_draw T.k_law_draw T.b_law_draw .nil pass0 (pa_cons (pv 1) (pa_cons pe_int pa_nil)))) pa_nil)))) (pa_cons (pe_call G_law_pick (hr.mono (by first | decide | omega)) rfl T.g_law_pick T.k_law_pick T.b_law_pick .nil pass0 (pa_cons (pv 1) (pa_cons (pv 5) pa_nil))) pa_nil)) (by rfl))
    (pss_cons (ps_set (i := 9) nd rfl (Or.inl rfl) (pe_call G_made (hr.mono (by first | decide | omega)) rfl T.g_made T.k_made T.b_made .nil pass0 (pa_cons (pv 2) (pa_cons (pv 7) (pa_cons (pe_call G_law_pick (hr.mono (by first | decide | omega)) rfl T.g_law_pick T.k_law_pick T.b_law_pick .nil pass0 (pa_cons (pv 1) (pa_cons (pe_slice sl_list (pe_call0 G_law_ways (hr.mono (by first | decide | omega)) rfl T.g_law_ways T.k_law_ways T.b_law_ways .nil pass0) po_none (po_some (pe_un u_negI pe_int))) pa_nil))) pa_nil)))))
    (pss_cons (ps_for PassesOwn.never rfl (pi_range1 rfl T.f_range (pa_cons (pe_call G_law_draw (hr.mono (by first | decide | omega)) rfl T.g_law_draw T.k_law_draw T.b_law_draw .nil pass0 (pa_cons (pv 1) (pa_cons pe_int pa_nil))) pa_nil)) (pg_name (i := 10) nd rfl (Or.inl rfl)) (pss_one (ps_set (i := 9) nd rfl (Or.inl rfl) (pe_call G_law_bent (hr.mono (by first | decide | omega)) rfl T.g_law_bent T.k_law_bent T.b_law_bent .nil pass0 (pa_cons (pv 1) (pa_cons (pv 9) pa_nil))))))
    (pss_cons (ps_par (i := 11) (j := 12) rfl nd rfl rfl (by decide) rfl rfl (pa_cons (pe_make T.mk_Weave G_Weave_init (hr.mono (by first | decide | omega)) rfl T.g_Weave T.b_Weave_init .nil pass0 (pa_cons (pv 2) (pa_cons (pv 3) (pa_cons (pv 8) pa_nil)))) (pa_cons (pe_dget hu (pv 4) (pv 8) (fun _ _ => rfl)) pa_nil)) (by rfl))
    (pss_cons (ps_asg (pe_tup (pa_cons (pe_call G_trace (hr.mono (by first | decide | omega)) rfl T.g_trace T.k_trace T.b_trace .nil pass0 (pa_cons (pv 9) (pa_cons (pv 12) pa_nil))) (pa_cons (pe_call G_far (hr.mono (by first | decide | omega)) rfl T.g_far T.k_far T.b_far .nil pass0 (pa_cons (pv 9) (pa_cons (pv 11) pa_nil))) pa_nil))) (pg_tup rfl (pgs_cons (pg_name (i := 13) nd rfl (Or.inr rfl)) (pgs_cons (pg_name (i := 14) nd rfl (Or.inr rfl)) pgs_nil))))
    (pss_cons (ps_if (PW.pt (pw_or (pt_cmpR op_ne (pe_fld (pv 11) rfl) (pe_callB c_lenS (by rfl) T.f_len (by decide +kernel) (pa_cons (pv 12) pa_nil)) (nomark _)) (pw_or1 (pt_cmpR op_ne (pe_meth (pv 11) T.c_Weave T.me_Weave_part G_Weave_part (hr.mono (by first | decide | omega)) T.b_Weave_part .nil pass0 (pa_cons pe_int (pa_cons (pe_callB c_lenS (by rfl) T.f_len (by decide +kernel) (pa_cons (pv 12) pa_nil)) pa_nil))) (pv 12) (nomark _))))) (pss_one (ps_ret pe_bl)) pss_nil)
    (pss_cons (ps_if (pt_cmpR (op_neD hr.units) (pe_tup (pa_cons (pe_fld (pv 14) rfl) (pa_cons (pe_fld (pv 14) rfl) (pa_cons (pe_fld (pv 14) rfl) pa_nil)))) (pe_tup (pa_cons (pe_fld (pv 13) rfl) (pa_cons (pe_callB c_lenQ (by rfl) T.f_len (by decide +kernel) (pa_cons (pe_fld (pv 13) rfl) pa_nil)) (pa_cons (pe_callB c_lenQ (by rfl) T.f_len (by decide +kernel) (pa_cons (pe_fld (pv 13) rfl) pa_nil)) pa_nil)))) (nomark _)) (pss_one (ps_ret pe_bl)) pss_nil)
    (pss_cons (ps_setLc (i := 15) (own := [("_law_k", 18)]) rfl nd rfl rfl (sw_true rfl rfl rfl (by decide +kernel)) (pi_range1 rfl T.f_range (pa_cons (pe_fld (pv 14) rfl) pa_nil)) (blkOk_by (own := [("_law_k", 18)]) (N := N_law) (sc := defScope s_law) (by decide +kernel)) (fun _ _ _ _ _ => pg_name (i := 18) nd rfl (Or.inl rfl)) (fun _ _ _ _ _ => pts_one (PW.pt (pw_or (pt_cmpR o_ltI (pv 18) pe_int (nomark _)) (pw_or (pt_cmpR o_gtI (pv 18) (pe_op o_subI (pe_fld (pv 14) rfl) pe_int) (nomark _)) (pw_or1 (pt_cmpR op_eq (pe_op o_modI (pe_callTy c_int (by rfl) T.f_int (by decide +kernel) (pa_cons (pv 18) pa_nil)) pe_int) pe_int (nomark _))))))) (fun _ _ _ _ _ => pv 18))
    (pss_cons (ps_if (pt_cmpR (op_neD hr.units) (pe_lc (own := [("_law_k", 18)]) rfl nd (pi_list (pv 15)) (blkOk_by (own := [("_law_k", 18)]) (N := N_law) (sc := defScope s_law) (by decide +kernel)) (fun _ _ _ _ _ => pg_name (i := 18) nd rfl (Or.inl rfl)) (fun _ _ _ _ _ => pts_nil) (fun _ _ _ _ _ => pe_meth (pv 14) T.c_Far T.me_Far_told_at G_Far_told_at (hr.mono (by first | decide | omega)) T.b_Far_told_at .nil pass0 (pa_cons (pv 18) pa_nil))) (pe_lc (own := [("_law_k", 18)]) rfl nd (pi_list (pv 15)) (blkOk_by (own := [("_law_k", 18)]) (N := N_law) (sc := defScope s_law) (by decide +kernel)) (fun _ _ _ _ _ => pg_name (i := 18) nd rfl (Or.inl rfl)) (fun _ _ _ _ _ => pts_nil) (fun _ _ _ _ _ => pe_ix ix_tup (pe_fld (pv 13) rfl) (pv 18) (fun _ _ => rfl))) (nomark _)) (pss_one (ps_ret pe_bl)) pss_nil)
    (pss_cons (ps_set (i := 16) nd rfl (Or.inl rfl) (pe_call G_law_draw (hr.mono (by first | decide | omega)) rfl T.g_law_draw T.k_law_draw T.b_law_draw .nil pass0 (pa_cons (pv 1) (pa_cons (pe_callB c_lenS (by rfl) T.f_len (by decide +kernel) (pa_cons (pv 12) pa_nil)) pa_nil))))
    (pss_one (ps_if (PW.pt (pw_or (pt_cmpR op_ne (pe_meth (pv 11) T.c_Weave T.me_Weave_letter G_Weave_letter (hr.mono (by first | decide | omega)) T.b_Weave_letter .nil pass0 (pa_cons (pv 16) pa_nil)) (pe_ix ix_str (pv 12) (pv 16) (fun _ _ => rfl)) (nomark _)) (pw_or1 (pt_cmpR op_ne (pe_meth (pv 11) T.c_Weave T.me_Weave_part G_Weave_part (hr.mono (by first | decide | omega)) T.b_Weave_part .nil pass0 (pa_cons (pv 16) (pa_cons (pe_op o_subI (pe_callB c_lenS (by rfl) T.f_len (by decide +kernel) (pa_cons (pv 12) pa_nil)) (pv 16)) pa_nil))) (pe_slice sl_str (pv 12) (po_some (pv 16)) po_none) (nomark _))))) (pss_one (ps_ret pe_bl)) pss_nil)))))))))))))
    (pss_one (ps_ret pe_bl)))))))
theorem dv_WindowTurn_init {P : Program} {w : World} {K : PySem.W.Frag} {mg : Str → Option Value} {base : Heap} {f : Addr} {cdv : Value} {A : Around} {outer : List Env} {s : Shared} {H : Hp} {E : XK} {sp_WindowTurn_does : Sp} (T : Tx K mg)
    (hr : Room 1 (A.deeper (envOfC "WindowTurn.__init__" (defScope s_WindowTurn_init) s.heap.objs.size f cdv)))
    (G_WindowTurn_does : FnOk P w K mg base CX0 1 (f_WindowTurn_does K) (fd_WindowTurn_does K) ps_WindowTurn_does sp_WindowTurn_does) :
    PSs (cxOf CX0 P w K mg base N_WindowTurn_init "WindowTurn.__init__" (defScope s_WindowTurn_init) f cdv A outer s H E).nox (defBody s_WindowTurn_init) (t_WindowTurn_init K sp_WindowTurn_does) := by
  have hu := hu_of hr
  have nd := sc_WindowTurn_init.nd
  exact (pss_cons (ps_fld (pv 0) (pe_lst pa_nil) rfl)
    (pss_cons (ps_fld (pv 0) (pe_lst pa_nil) rfl)
    (pss_cons (ps_fld (pv 0) pe_non rfl)
    (pss_cons (ps_fld (pv 0) pe_non rfl)
    (pss_cons (ps_set (i := 4) nd rfl (Or.inl rfl) (pe_ix ix_tup (pe_fld (pv 1) rfl) (pv 2) (fun _ _ => rfl)))
    (pss_one (ps_while PassesOwn.never (pt_cmp (pc_notN (pv 4))) (pss_one (ps_set (i := 4) nd rfl (Or.inl rfl) (pe_meth (pv 0) T.c_WindowTurn T.me_WindowTurn_does G_WindowTurn_does (hr.mono (by first | decide | omega)) T.b_WindowTurn_does .nil pass0 (pa_cons (pv 1) (pa_cons (pv 4) (pa_cons (pv 3) pa_nil)))))))))))))
theorem mk_WindowTurn_init {P : Program} {w : World} {K : PySem.W.Frag} {mg : Str → Option Value} {base : Heap} {sp_WindowTurn_does : Sp} {sp : Sp} (T : Tx K mg) (G_WindowTurn_does : FnOk P w K mg base CX0 1 (f_WindowTurn_does K) (fd_WindowTurn_does K) ps_WindowTurn_does sp_WindowTurn_does)
    (len : ∀ vs H Q E, sp vs H Q E → vs.length = ps_WindowTurn_init.length) (rd : ∀ vs H Q E, sp vs H Q E → t_WindowTurn_init K sp_WindowTurn_does { nx := fun _ H' => Q .non H', rt := Q } (start N_WindowTurn_init vs) H) :
    FnOk P w K mg base CX0 2 (f_WindowTurn_init K) (fd_WindowTurn_init K) ps_WindowTurn_init sp :=
  FunD.ok T.F_WindowTurn_init sc_WindowTurn_init len fun cdv A outer s H vs Q E hr hsp => ⟨_, PSs.nox (dv_WindowTurn_init (E := E) T hr G_WindowTurn_does), rd vs H Q E hsp⟩
theorem dv_WindowTurn_does {P : Program} {w : World} {K : PySem.W.Frag} {mg : Str → Option Value} {base : Heap} {f : Addr} {cdv : Value} {A : Around} {outer : List Env} {s : Shared} {H : Hp} {E : XK} (T : Tx K mg)
    (hr : Room 0 (A.deeper (envOfC "WindowTurn.does" (defScope s_WindowTurn_does) s.heap.objs.size f cdv))) :
    PSs (cxOf CX0 P w K mg base N_WindowTurn_does "WindowTurn.does" (defScope s_WindowTurn_does) f cdv A outer s H E).nox (defBody s_WindowTurn_does) (t_WindowTurn_does K) := by
  have hu := hu_of hr
  have nd := sc_WindowTurn_does.nd
  exact (pss_cons (ps_if (pt_cmpR op_eq (pe_ix ix_tup (pv 2) pe_int (fun _ _ => rfl)) pe_str (nomark _)) (pss_cons (ps_asg (pe_tup (pa_cons (pe_ix ix_tup (pv 2) pe_int (fun _ _ => rfl)) (pa_cons (pe_ix ix_tup (pv 2) pe_int (fun _ _ => rfl)) pa_nil))) (pg_tup rfl (pgs_cons (pg_attr (pv 0)) (pgs_cons (pg_attr (pv 0)) pgs_nil))))
    (pss_one (ps_ret pe_non))) pss_nil)
    (pss_cons (ps_if (pt_cmpR op_eq (pe_ix ix_tup (pv 2) pe_int (fun _ _ => rfl)) pe_str (nomark _)) (pss_cons (ps_expr (pe_bm PySem.F.plainAttrs_list PySem.F.slot_list_append PySem.F.type_list_append mt_append (pe_fld (pv 0) rfl) (pa_cons (pe_ix ix_tup (pv 2) pe_int (fun _ _ => rfl)) pa_nil)))
    (pss_one (ps_ret (pe_ix ix_tup (pv 2) pe_int (fun _ _ => rfl))))) pss_nil)
    (pss_cons (ps_if (pt_cmpR op_eq (pe_ix ix_tup (pv 2) pe_int (fun _ _ => rfl)) (pe_callB c_lenS (by rfl) T.f_len (by decide +kernel) (pa_cons (pv 3) pa_nil)) (nomark _)) (pss_one (ps_ret pe_non)) pss_nil)
    (pss_cons (ps_set (i := 4) nd rfl (Or.inl rfl) (pe_ix ix_str (pv 3) (pe_ix ix_tup (pv 2) pe_int (fun _ _ => rfl)) (fun _ _ => rfl)))
    (pss_cons (ps_expr (pe_bm PySem.F.plainAttrs_list PySem.F.slot_list_append PySem.F.type_list_append mt_append (pe_fld (pv 0) rfl) (pa_cons (pe_tup (pa_cons (pe_ix ix_tup (pv 2) pe_int (fun _ _ => rfl)) (pa_cons (pv 4) pa_nil))) pa_nil)))
    (pss_one (ps_ret (pe_ix ix_tup (pe_ix ix_tup (pv 2) pe_int (fun _ _ => rfl)) (pe_m1 F.slot_str_index F.type_str_index m_sidx (pe_fld (pv 1) rfl) (pv 4)) (fun _ _ => rfl)))))))))
theorem mk_WindowTurn_does {P : Program} {w : World} {K : PySem.W.Frag} {mg : Str → Option Value} {base : Heap} {sp : Sp} (T : Tx K mg)
    (len : ∀ vs H Q E, sp vs H Q E → vs.length = ps_WindowTurn_does.length) (rd : ∀ vs H Q E, sp vs H Q E → t_WindowTurn_does K { nx := fun _ H' => Q .non H', rt := Q } (start N_WindowTurn_does vs) H) :
    FnOk P w K mg base CX0 1 (f_WindowTurn_does K) (fd_WindowTurn_does K) ps_WindowTurn_does sp :=
  FunD.ok T.F_WindowTurn_does sc_WindowTurn_does len fun cdv A outer s H vs Q E hr hsp => ⟨_, PSs.nox (dv_WindowTurn_does (E := E) T hr), rd vs H Q E hsp⟩
theorem dv_Trace_init {P : Program} {w : World} {K : PySem.W.Frag} {mg : Str → Option Value} {base : Heap} {f : Addr} {cdv : Value} {A : Around} {outer : List Env} {s : Shared} {H : Hp} {E : XK} (T : Tx K mg)
    (hr : Room 0 (A.deeper (envOfC "Trace.__init__" (defScope s_Trace_init) s.heap.objs.size f cdv))) :
    PSs (cxOf CX0 P w K mg base N_Trace_init "Trace.__init__" (defScope s_Trace_init) f cdv A outer s H E).nox (defBody s_Trace_init) (t_Trace_init K) := by
  have hu := hu_of hr
  have nd := sc_Trace_init.nd
  exact (pss_cons (ps_fld (pv 0) (pe_callTy c_tupL (by rfl) T.f_tuple (by decide +kernel) (pa_cons (pv 1) pa_nil)) rfl)
    (pss_cons (ps_fld (pv 0) (pe_callTy c_tupL (by rfl) T.f_tuple (by decide +kernel) (pa_cons (pv 2) pa_nil)) rfl)
    (pss_one (ps_fld (pv 0) (pe_callB (cr_sum rfl) (by rfl) T.f_sum (by decide +kernel) (pa_cons (pe_lc (own := [("place", 3), ("state", 4), ("reads", 5)]) rfl nd (pi_tup (pe_fld (pv 0) rfl)) (blkOk_by (own := [("place", 3), ("state", 4), ("reads", 5)]) (N := N_Trace_init) (sc := defScope s_Trace_init) (by decide +kernel)) (fun _ _ _ _ _ => pg_tup rfl (pgs_cons (pg_name (i := 3) nd rfl (Or.inl rfl)) (pgs_cons (pg_name (i := 4) nd rfl (Or.inl rfl)) (pgs_cons (pg_name (i := 5) nd rfl (Or.inl rfl)) pgs_nil)))) (fun _ _ _ _ _ => pts_nil) (fun _ _ _ _ _ => pe_callB c_lenQ (by rfl) T.f_len (by decide +kernel) (pa_cons (pv 5) pa_nil))) pa_nil)) rfl))))
theorem mk_Trace_init {P : Program} {w : World} {K : PySem.W.Frag} {mg : Str → Option Value} {base : Heap} {sp : Sp} (T : Tx K mg)
    (len : ∀ vs H Q E, sp vs H Q E → vs.length = ps_Trace_init.length) (rd : ∀ vs H Q E, sp vs H Q E → t_Trace_init K { nx := fun _ H' => Q .non H', rt := Q } (start N_Trace_init vs) H) :
    FnOk P w K mg base CX0 1 (f_Trace_init K) (fd_Trace_init K) ps_Trace_init sp :=
  FunD.ok T.F_Trace_init sc_Trace_init len fun cdv A outer s H vs Q E hr hsp => ⟨_, PSs.nox (dv_Trace_init (E := E) T hr), rd vs H Q E hsp⟩
theorem dv_Node_init {P : Program} {w : World} {K : PySem.W.Frag} {mg : Str → Option Value} {base : Heap} {f : Addr} {cdv : Value} {A : Around} {outer : List Env} {s : Shared} {H : Hp} {E : XK} (T : Tx K mg)
    (hr : Room 0 (A.deeper (envOfC "Node.__init__" (defScope s_Node_init) s.heap.objs.size f cdv))) :
    PSs (cxOf CX0 P w K mg base N_Node_init "Node.__init__" (defScope s_Node_init) f cdv A outer s H E).nox (defBody s_Node_init) (t_Node_init K) := by
  have hu := hu_of hr
  have nd := sc_Node_init.nd
  exact (pss_cons (ps_fld (pv 0) (pv 1) rfl)
    (pss_cons (ps_fld (pv 0) (pv 2) rfl)
    (pss_cons (ps_fld (pv 0) (pv 3) rfl)
    (pss_cons (ps_fld (pv 0) (pv 4) rfl)
    (pss_one (ps_fld (pv 0) (pv 5) rfl))))))
theorem mk_Node_init {P : Program} {w : World} {K : PySem.W.Frag} {mg : Str → Option Value} {base : Heap} {sp : Sp} (T : Tx K mg)
    (len : ∀ vs H Q E, sp vs H Q E → vs.length = ps_Node_init.length) (rd : ∀ vs H Q E, sp vs H Q E → t_Node_init K { nx := fun _ H' => Q .non H', rt := Q } (start N_Node_init vs) H) :
    FnOk P w K mg base CX0 1 (f_Node_init K) (fd_Node_init K) ps_Node_init sp :=
  FunD.ok T.F_Node_init sc_Node_init len fun cdv A outer s H vs Q E hr hsp => ⟨_, PSs.nox (dv_Node_init (E := E) T hr), rd vs H Q E hsp⟩
theorem dv_Nodes_init {P : Program} {w : World} {K : PySem.W.Frag} {mg : Str → Option Value} {base : Heap} {f : Addr} {cdv : Value} {A : Around} {outer : List Env} {s : Shared} {H : Hp} {E : XK} (T : Tx K mg)
    (hr : Room 0 (A.deeper (envOfC "Nodes.__init__" (defScope s_Nodes_init) s.heap.objs.size f cdv))) :
    PSs (cxOf CX0 P w K mg base N_Nodes_init "Nodes.__init__" (defScope s_Nodes_init) f cdv A outer s H E).nox (defBody s_Nodes_init) (t_Nodes_init K) := by
  have hu := hu_of hr
  have nd := sc_Nodes_init.nd
  exact (pss_cons (ps_fld (pv 0) (pv 1) rfl)
    (pss_one (ps_fld (pv 0) (pe_lst pa_nil) rfl)))
theorem mk_Nodes_init {P : Program} {w : World} {K : PySem.W.Frag} {mg : Str → Option Value} {base : Heap} {sp : Sp} (T : Tx K mg)
    (len : ∀ vs H Q E, sp vs H Q E → vs.length = ps_Nodes_init.length) (rd : ∀ vs H Q E, sp vs H Q E → t_Nodes_init K { nx := fun _ H' => Q .non H', rt := Q } (start N_Nodes_init vs) H) :
    FnOk P w K mg base CX0 1 (f_Nodes_init K) (fd_Nodes_init K) ps_Nodes_init sp :=
  FunD.ok T.F_Nodes_init sc_Nodes_init len fun cdv A outer s H vs Q E hr hsp => ⟨_, PSs.nox (dv_Nodes_init (E := E) T hr), rd vs H Q E hsp⟩
theorem dv_Nodes_leaf {P : Program} {w : World} {K : PySem.W.Frag} {mg : Str → Option Value} {base : Heap} {f : Addr} {cdv : Value} {A : Around} {outer : List Env} {s : Shared} {H : Hp} {E : XK} {sp_Node_init : Sp} (T : Tx K mg)
    (hr : Room 2 (A.deeper (envOfC "Nodes.leaf" (defScope s_Nodes_leaf) s.heap.objs.size f cdv)))
    (G_Node_init : FnOk P w K mg base CX0 1 (f_Node_init K) (fd_Node_init K) ps_Node_init sp_Node_init) :
    PSs (cxOf CX0 P w K mg base N_Nodes_leaf "Nodes.leaf" (defScope s_Nodes_leaf) f cdv A outer s H E).nox (defBody s_Nodes_leaf) (t_Nodes_leaf K sp_Node_init) := by
  have hu := hu_of hr
  have nd := sc_Nodes_leaf.nd
  exact (pss_cons (ps_expr (pe_bm PySem.F.plainAttrs_list PySem.F.slot_list_append PySem.F.type_list_append mt_append (pe_fld (pv 0) rfl) (pa_cons (pe_make T.mk_Node G_Node_init (hr.mono (by first | decide | omega)) rfl T.g_Node T.b_Node_init .nil pass0 (pa_cons (pv 1) (pa_cons pe_non (pa_cons pe_non (pa_cons (pe_callB c_lenS (by rfl) T.f_len (by decide +kernel) (pa_cons (pv 1) pa_nil)) (pa_cons (pe_tup (pa_cons (pe_slice sl_str (pv 1) po_none (po_some (pe_fld (pv 0) rfl))) (pa_cons (pe_slice sl_str (pv 1) (po_some (pe_un u_negI (pe_fld (pv 0) rfl))) po_none) pa_nil))) pa_nil)))))) pa_nil)))
    (pss_one (ps_ret (pe_op o_subI (pe_callB c_lenQ (by rfl) T.f_len (by decide +kernel) (pa_cons (pe_fld (pv 0) rfl) pa_nil)) pe_int))))
theorem mk_Nodes_leaf {P : Program} {w : World} {K : PySem.W.Frag} {mg : Str → Option Value} {base : Heap} {sp_Node_init : Sp} {sp : Sp} (T : Tx K mg) (G_Node_init : FnOk P w K mg base CX0 1 (f_Node_init K) (fd_Node_init K) ps_Node_init sp_Node_init)
    (len : ∀ vs H Q E, sp vs H Q E → vs.length = ps_Nodes_leaf.length) (rd : ∀ vs H Q E, sp vs H Q E → t_Nodes_leaf K sp_Node_init { nx := fun _ H' => Q .non H', rt := Q } (start N_Nodes_leaf vs) H) :
    FnOk P w K mg base CX0 3 (f_Nodes_leaf K) (fd_Nodes_leaf K) ps_Nodes_leaf sp :=
  FunD.ok T.F_Nodes_leaf sc_Nodes_leaf len fun cdv A outer s H vs Q E hr hsp => ⟨_, PSs.nox (dv_Nodes_leaf (E := E) T hr G_Node_init), rd vs H Q E hsp⟩
theorem dv_Nodes_pair {P : Program} {w : World} {K : PySem.W.Frag} {mg : Str → Option Value} {base : Heap} {f : Addr} {cdv : Value} {A : Around} {outer : List Env} {s : Shared} {H : Hp} {E : XK} {sp_Node_init : Sp} (T : Tx K mg)
    (hr : Room 2 (A.deeper (envOfC "Nodes.pair" (defScope s_Nodes_pair) s.heap.objs.size f cdv)))
    (G_Node_init : FnOk P w K mg base CX0 1 (f_Node_init K) (fd_Node_init K) ps_Node_init sp_Node_init) :
    PSs (cxOf CX0 P w K mg base N_Nodes_pair "Nodes.pair" (defScope s_Nodes_pair) f cdv A outer s H E).nox (defBody s_Nodes_pair) (t_Nodes_pair K sp_Node_init) := by
  have hu := hu_of hr
  have nd := sc_Nodes_pair.nd
  exact (pss_cons (ps_par (i := 3) (j := 4) rfl nd rfl rfl (by decide) rfl rfl (pa_cons (pe_ix ix_list (pe_fld (pv 0) rfl) (pv 1) (fun _ _ => rfl)) (pa_cons (pe_ix ix_list (pe_fld (pv 0) rfl) (pv 2) (fun _ _ => rfl)) pa_nil)) (by rfl))
    (pss_cons (ps_set (i := 5) nd rfl (Or.inl rfl) (pe_slice sl_str (pe_op o_addS (pe_ix ix_tup (pe_fld (pv 3) rfl) pe_int (fun _ _ => rfl)) (pe_ix ix_tup (pe_fld (pv 4) rfl) pe_int (fun _ _ => rfl))) po_none (po_some (pe_fld (pv 0) rfl))))
    (pss_cons (ps_set (i := 6) nd rfl (Or.inl rfl) (pe_slice sl_str (pe_op o_addS (pe_ix ix_tup (pe_fld (pv 3) rfl) pe_int (fun _ _ => rfl)) (pe_ix ix_tup (pe_fld (pv 4) rfl) pe_int (fun _ _ => rfl))) (po_some (pe_un u_negI (pe_fld (pv 0) rfl))) po_none))
    (pss_cons (ps_expr (pe_bm PySem.F.plainAttrs_list PySem.F.slot_list_append PySem.F.type_list_append mt_append (pe_fld (pv 0) rfl) (pa_cons (pe_make T.mk_Node G_Node_init (hr.mono (by first | decide | omega)) rfl T.g_Node T.b_Node_init .nil pass0 (pa_cons pe_non (pa_cons (pv 1) (pa_cons (pv 2) (pa_cons (pe_op o_addI (pe_fld (pv 3) rfl) (pe_fld (pv 4) rfl)) (pa_cons (pe_tup (pa_cons (pv 5) (pa_cons (pv 6) pa_nil))) pa_nil)))))) pa_nil)))
    (pss_one (ps_ret (pe_op o_subI (pe_callB c_lenQ (by rfl) T.f_len (by decide +kernel) (pa_cons (pe_fld (pv 0) rfl) pa_nil)) pe_int)))))))
theorem mk_Nodes_pair {P : Program} {w : World} {K : PySem.W.Frag} {mg : Str → Option Value} {base : Heap} {sp_Node_init : Sp} {sp : Sp} (T : Tx K mg) (G_Node_init : FnOk P w K mg base CX0 1 (f_Node_init K) (fd_Node_init K) ps_Node_init sp_Node_init)
    (len : ∀ vs H Q E, sp vs H Q E → vs.length = ps_Nodes_pair.length) (rd : ∀ vs H Q E, sp vs H Q E → t_Nodes_pair K sp_Node_init { nx := fun _ H' => Q .non H', rt := Q } (start N_Nodes_pair vs) H) :
    FnOk P w K mg base CX0 3 (f_Nodes_pair K) (fd_Nodes_pair K) ps_Nodes_pair sp :=
  FunD.ok T.F_Nodes_pair sc_Nodes_pair len fun cdv A outer s H vs Q E hr hsp => ⟨_, PSs.nox (dv_Nodes_pair (E := E) T hr G_Node_init), rd vs H Q E hsp⟩
theorem dv_Nodes_often {P : Program} {w : World} {K : PySem.W.Frag} {mg : Str → Option Value} {base : Heap} {f : Addr} {cdv : Value} {A : Around} {outer : List Env} {s : Shared} {H : Hp} {E : XK} {sp_Nodes_pair : Sp} (T : Tx K mg)
    (hr : Room 3 (A.deeper (envOfC "Nodes.often" (defScope s_Nodes_often) s.heap.objs.size f cdv)))
    (G_Nodes_pair : FnOk P w K mg base CX0 3 (f_Nodes_pair K) (fd_Nodes_pair K) ps_Nodes_pair sp_Nodes_pair) :
    PSs (cxOf CX0 P w K mg base N_Nodes_often "Nodes.often" (defScope s_Nodes_often) f cdv A outer s H E).nox (defBody s_Nodes_often) (t_Nodes_often K sp_Nodes_pair) := by
  have hu := hu_of hr
  have nd := sc_Nodes_often.nd
  exact (pss_cons (ps_par (i := 3) (j := 4) rfl nd rfl rfl (by decide) rfl rfl (pa_cons pe_non (pa_cons (pv 2) pa_nil)) (by rfl))
    (pss_cons (ps_while PassesOwn.never (pt_cmpR o_gtI (pv 4) pe_int (nomark _)) (pss_cons (ps_if (pt_cmpR op_eq (pe_op o_modI (pe_callTy c_int (by rfl) T.f_int (by decide +kernel) (pa_cons (pv 4) pa_nil)) pe_int) pe_int (nomark _)) (pss_one (ps_set (i := 3) nd rfl (Or.inl rfl) (pe_ifExp (pt_cmp (pc_isN (pv 3))) (pv 1) (pe_meth (pv 0) T.c_Nodes T.me_Nodes_pair G_Nodes_pair (hr.mono (by first | decide | omega)) T.b_Nodes_pair .nil pass0 (pa_cons (pv 3) (pa_cons (pv 1) pa_nil)))))) pss_nil)
    (pss_cons (ps_set (i := 4) nd rfl (Or.inl rfl) (pe_op o_divI (pv 4) pe_int))
    (pss_one (ps_if (pt_cmpR o_gtI (pv 4) pe_int (nomark _)) (pss_one (ps_set (i := 1) nd rfl (Or.inl rfl) (pe_meth (pv 0) T.c_Nodes T.me_Nodes_pair G_Nodes_pair (hr.mono (by first | decide | omega)) T.b_Nodes_pair .nil pass0 (pa_cons (pv 1) (pa_cons (pv 1) pa_nil))))) pss_nil)))))
    (pss_one (ps_ret (pv 3)))))
theorem mk_Nodes_often {P : Program} {w : World} {K : PySem.W.Frag} {mg : Str → Option Value} {base : Heap} {sp_Nodes_pair : Sp} {sp : Sp} (T : Tx K mg) (G_Nodes_pair : FnOk P w K mg base CX0 3 (f_Nodes_pair K) (fd_Nodes_pair K) ps_Nodes_pair sp_Nodes_pair)
    (len : ∀ vs H Q E, sp vs H Q E → vs.length = ps_Nodes_often.length) (rd : ∀ vs H Q E, sp vs H Q E → t_Nodes_often K sp_Nodes_pair { nx := fun _ H' => Q .non H', rt := Q } (start N_Nodes_often vs) H) :
    FnOk P w K mg base CX0 4 (f_Nodes_often K) (fd_Nodes_often K) ps_Nodes_often sp :=
  FunD.ok T.F_Nodes_often sc_Nodes_often len fun cdv A outer s H vs Q E hr hsp => ⟨_, PSs.nox (dv_Nodes_often (E := E) T hr G_Nodes_pair), rd vs H Q E hsp⟩
theorem dv_Weave_init {P : Program} {w : World} {K : PySem.W.Frag} {mg : Str → Option Value} {base : Heap} {f : Addr} {cdv : Value} {A : Around} {outer : List Env} {s : Shared} {H : Hp} {E : XK} {sp_check_letters : Sp} {sp_check_rules : Sp} {sp_names_in : Sp} {sp_Nodes_init : Sp} {sp_Weave_woven : Sp} (T : Tx K mg)
    (hr : Room 5 (A.deeper (envOfC "Weave.__init__" (defScope s_Weave_init) s.heap.objs.size f cdv)))
    (G_check_letters : FnOk P w K mg base CX0 1 (f_check_letters K) (fd_check_letters K) ps_check_letters sp_check_letters)
    (G_check_rules : FnOk P w K mg base CX0 4 (f_check_rules K) (fd_check_rules K) ps_check_rules sp_check_rules)
    (G_names_in : FnOk P w K mg base CX0 2 (f_names_in K) (fd_names_in K) ps_names_in sp_names_in)
    (G_Nodes_init : FnOk P w K mg base CX0 1 (f_Nodes_init K) (fd_Nodes_init K) ps_Nodes_init sp_Nodes_init)
    (G_Weave_woven : FnOk P w K mg base CX0 5 (f_Weave_woven K) (fd_Weave_woven K) ps_Weave_woven sp_Weave_woven) :
    PSs (cxOf CX0 P w K mg base N_Weave_init "Weave.__init__" (defScope s_Weave_init) f cdv A outer s H E).nox (defBody s_Weave_init) (t_Weave_init K sp_check_letters sp_check_rules sp_names_in sp_Nodes_init sp_Weave_woven) := by
  have hu := hu_of hr
  have nd := sc_Weave_init.nd
  exact (pss_cons (ps_expr (pe_call G_check_letters (hr.mono (by first | decide | omega)) rfl T.g_check_letters T.k_check_letters T.b_check_letters .nil pass0 (pa_cons (pv 1) pa_nil)))
    (pss_cons (ps_expr (pe_call G_check_rules (hr.mono (by first | decide | omega)) rfl T.g_check_rules T.k_check_rules T.b_check_rules .nil pass0 (pa_cons (pv 1) (pa_cons (pv 2) pa_nil))))
    (pss_cons (ps_setLc (i := 4) (own := [("name", 5)]) rfl nd rfl rfl (sw_true rfl rfl rfl (by decide +kernel)) (pi_list (pe_callB (c_sortDK rfl) (by rfl) T.f_sorted (by decide +kernel) (pa_cons (pv 2) pa_nil))) (blkOk_by (own := [("name", 5)]) (N := N_Weave_init) (sc := defScope s_Weave_init) (by decide +kernel)) (fun _ _ _ _ _ => pg_name (i := 5) nd rfl (Or.inl rfl)) (fun _ _ _ _ _ => pts_one (pt_cmpR op_in_seq (pv 5) (pe_call G_names_in (hr.mono (by first | decide | omega)) rfl T.g_names_in T.k_names_in T.b_names_in .nil pass0 (pa_cons (pv 2) (pa_cons (pv 5) pa_nil))) (by rfl))) (fun _ _ _ _ _ => pv 5))
    (pss_cons (ps_if (pt_truth (pv 4) (by intro _; rfl)) (pss_one ps_never) pss_nil)
    (pss_cons (ps_if (PW.pt (pw_or (pt_not (pt_val (pe_callB call_isi (by rfl) T.f_isinstance (by decide +kernel) (pa_cons (pv 3) (pa_cons (pe_bltn (v := .ty "str") (by rfl) T.f_str (by decide +kernel) rfl) pa_nil))))) (pw_or1 (pt_cmp (pc_dnotin hu (pv 3) (pv 2)) (by rfl))))) (pss_one ps_never) pss_nil)
    (pss_cons (ps_fld (pv 0) (pv 1) rfl)
    (pss_cons (ps_fld (pv 0) (pe_make T.mk_Nodes G_Nodes_init (hr.mono (by first | decide | omega)) rfl T.g_Nodes T.b_Nodes_init .nil pass0 (pa_cons pe_int pa_nil)) rfl)
    (pss_cons (ps_fld (pv 0) (pe_meth (pv 0) T.c_Weave T.me_Weave_woven G_Weave_woven (hr.mono (by first | decide | omega)) T.b_Weave_woven .nil pass0 (pa_cons (pv 2) (pa_cons (pv 3) pa_nil))) rfl)
    (pss_one (ps_fld (pv 0) (pe_fld (pe_ix ix_list (pe_fld (pe_fld (pv 0) rfl) rfl) (pe_fld (pv 0) rfl) (fun _ _ => rfl)) rfl) rfl))))))))))
theorem mk_Weave_init {P : Program} {w : World} {K : PySem.W.Frag} {mg : Str → Option Value} {base : Heap} {sp_check_letters : Sp} {sp_check_rules : Sp} {sp_names_in : Sp} {sp_Nodes_init : Sp} {sp_Weave_woven : Sp} {sp : Sp} (T : Tx K mg) (G_check_letters : FnOk P w K mg base CX0 1 (f_check_letters K) (fd_check_letters K) ps_check_letters sp_check_letters) (G_check_rules : FnOk P w K mg base CX0 4 (f_check_rules K) (fd_check_rules K) ps_check_rules sp_check_rules) (G_names_in : FnOk P w K mg base CX0 2 (f_names_in K) (fd_names_in K) ps_names_in sp_names_in) (G_Nodes_init : FnOk P w K mg base CX0 1 (f_Nodes_init K) (fd_Nodes_init K) ps_Nodes_init sp_Nodes_init) (G_Weave_woven : FnOk P w K mg base CX0 5 (f_Weave_woven K) (fd_Weave_woven K) ps_Weave_woven sp_Weave_woven)
    (len : ∀ vs H Q E, sp vs H Q E → vs.length = ps_Weave_init.length) (rd : ∀ vs H Q E, sp vs H Q E → t_Weave_init K sp_check_letters sp_check_rules sp_names_in sp_Nodes_init sp_Weave_woven { nx := fun _ H' => Q .non H', rt := Q } (start N_Weave_init vs) H) :
    FnOk P w K mg base CX0 6 (f_Weave_init K) (fd_Weave_init K) ps_Weave_init sp :=
  FunD.ok T.F_Weave_init sc_Weave_init len fun cdv A outer s H vs Q E hr hsp => ⟨_, PSs.nox (dv_Weave_init (E := E) T hr G_check_letters G_check_rules G_names_in G_Nodes_init G_Weave_woven), rd vs H Q E hsp⟩
theorem dv_Weave_woven {P : Program} {w : World} {K : PySem.W.Frag} {mg : Str → Option Value} {base : Heap} {f : Addr} {cdv : Value} {A : Around} {outer : List Env} {s : Shared} {H : Hp} {E : XK} {sp_names_in : Sp} {sp_ordered : Sp} {sp_is_name : Sp} {sp_Nodes_leaf : Sp} {sp_Nodes_often : Sp} {sp_Nodes_pair : Sp} (T : Tx K mg)
    (hr : Room 4 (A.deeper (envOfC "Weave.woven" (defScope s_Weave_woven) s.heap.objs.size f cdv)))
    (G_names_in : FnOk P w K mg base CX0 2 (f_names_in K) (fd_names_in K) ps_names_in sp_names_in)
    (G_ordered : FnOk P w K mg base CX0 3 (f_ordered K) (fd_ordered K) ps_ordered sp_ordered)
    (G_is_name : FnOk P w K mg base CX0 1 (f_is_name K) (fd_is_name K) ps_is_name sp_is_name)
    (G_Nodes_leaf : FnOk P w K mg base CX0 3 (f_Nodes_leaf K) (fd_Nodes_leaf K) ps_Nodes_leaf sp_Nodes_leaf)
    (G_Nodes_often : FnOk P w K mg base CX0 4 (f_Nodes_often K) (fd_Nodes_often K) ps_Nodes_often sp_Nodes_often)
    (G_Nodes_pair : FnOk P w K mg base CX0 3 (f_Nodes_pair K) (fd_Nodes_pair K) ps_Nodes_pair sp_Nodes_pair) :
    PSs (cxOf CX0 P w K mg base N_Weave_woven "Weave.woven" (defScope s_Weave_woven) f cdv A outer s H E).nox (defBody s_Weave_woven) (t_Weave_woven K sp_names_in sp_ordered sp_is_name sp_Nodes_leaf sp_Nodes_often sp_Nodes_pair) := by
  have hu := hu_of hr
  have nd := sc_Weave_woven.nd
  exact (pss_cons (ps_asg (pe_tup (pa_cons pe_dnewK (pa_cons (pe_fld (pv 0) rfl) (pa_cons (pe_op op_cat (pe_call G_names_in (hr.mono (by first | decide | omega)) rfl T.g_names_in T.k_names_in T.b_names_in .nil pass0 (pa_cons (pv 1) (pa_cons (pv 2) pa_nil))) (pe_lst (pa_cons (pv 2) pa_nil))) pa_nil)))) (pg_tup rfl (pgs_cons (pg_name (i := 3) nd rfl (Or.inl rfl)) (pgs_cons (pg_name (i := 4) nd rfl (Or.inl rfl)) (pgs_cons (pg_name (i := 5) nd rfl (Or.inr rfl)) pgs_nil)))))
    (pss_cons (ps_for PassesOwn.never rfl (pi_list (pe_lc (own := [("one", 10)]) rfl nd (pi_list (pe_call G_ordered (hr.mono (by first | decide | omega)) rfl T.g_ordered T.k_ordered T.b_ordered .nil pass0 (pa_cons (pv 1) pa_nil))) (blkOk_by (own := [("one", 10)]) (N := N_Weave_woven) (sc := defScope s_Weave_woven) (by decide +kernel)) (fun _ _ _ _ _ => pg_name (i := 10) nd rfl (Or.inl rfl)) (fun _ _ _ _ _ => pts_one (pt_cmpR op_in_seq (pv 10) (pv 5) (by rfl))) (fun _ _ _ _ _ => pv 10))) (pg_name (i := 6) nd rfl (Or.inl rfl)) (pss_cons (ps_set (i := 7) nd rfl (Or.inl rfl) pe_non)
    (pss_cons (ps_for PassesOwn.never rfl (pi_list (pe_dget hu (pv 1) (pv 6) (fun _ _ => rfl))) (pg_tup rfl (pgs_cons (pg_name (i := 8) nd rfl (Or.inl rfl)) (pgs_cons (pg_name (i := 9) nd rfl (Or.inl rfl)) pgs_nil))) (pss_cons (ps_set (i := 10) nd rfl (Or.inl rfl) (pe_ifExp (pt_val (pe_call G_is_name (hr.mono (by first | decide | omega)) rfl T.g_is_name T.k_is_name T.b_is_name .nil pass0 (pa_cons (pv 8) pa_nil))) (pe_dget hu (pv 3) (pv 8) (fun _ _ => rfl)) (pe_meth (pv 4) T.c_Nodes T.me_Nodes_leaf G_Nodes_leaf (hr.mono (by first | decide | omega)) T.b_Nodes_leaf .nil pass0 (pa_cons (pv 8) pa_nil))))
    (pss_cons (ps_set (i := 10) nd rfl (Or.inl rfl) (pe_meth (pv 4) T.c_Nodes T.me_Nodes_often G_Nodes_often (hr.mono (by first | decide | omega)) T.b_Nodes_often .nil pass0 (pa_cons (pv 10) (pa_cons (pv 9) pa_nil))))
    (pss_one (ps_set (i := 7) nd rfl (Or.inl rfl) (pe_ifExp (pt_cmp (pc_isN (pv 7))) (pv 10) (pe_meth (pv 4) T.c_Nodes T.me_Nodes_pair G_Nodes_pair (hr.mono (by first | decide | omega)) T.b_Nodes_pair .nil pass0 (pa_cons (pv 7) (pa_cons (pv 10) pa_nil)))))))))
    (pss_one (ps_dput hu (pv 3) (pv 6) (pv 7) rfl)))))
    (pss_one (ps_ret (pe_dget hu (pv 3) (pv 2) (fun _ _ => rfl))))))
theorem mk_Weave_woven {P : Program} {w : World} {K : PySem.W.Frag} {mg : Str → Option Value} {base : Heap} {sp_names_in : Sp} {sp_ordered : Sp} {sp_is_name : Sp} {sp_Nodes_leaf : Sp} {sp_Nodes_often : Sp} {sp_Nodes_pair : Sp} {sp : Sp} (T : Tx K mg) (G_names_in : FnOk P w K mg base CX0 2 (f_names_in K) (fd_names_in K) ps_names_in sp_names_in) (G_ordered : FnOk P w K mg base CX0 3 (f_ordered K) (fd_ordered K) ps_ordered sp_ordered) (G_is_name : FnOk P w K mg base CX0 1 (f_is_name K) (fd_is_name K) ps_is_name sp_is_name) (G_Nodes_leaf : FnOk P w K mg base CX0 3 (f_Nodes_leaf K) (fd_Nodes_leaf K) ps_Nodes_leaf sp_Nodes_leaf) (G_Nodes_often : FnOk P w K mg base CX0 4 (f_Nodes_often K) (fd_Nodes_often K) ps_Nodes_often sp_Nodes_often) (G_Nodes_pair : FnOk P w K mg base CX0 3 (f_Nodes_pair K) (fd_Nodes_pair K) ps_Nodes_pair sp_Nodes_pair)
    (len : ∀ vs H Q E, sp vs H Q E → vs.length = ps_Weave_woven.length) (rd : ∀ vs H Q E, sp vs H Q E → t_Weave_woven K sp_names_in sp_ordered sp_is_name sp_Nodes_leaf sp_Nodes_often sp_Nodes_pair { nx := fun _ H' => Q .non H', rt := Q } (start N_Weave_woven vs) H) :
    FnOk P w K mg base CX0 5 (f_Weave_woven K) (fd_Weave_woven K) ps_Weave_woven sp :=
  FunD.ok T.F_Weave_woven sc_Weave_woven len fun cdv A outer s H vs Q E hr hsp => ⟨_, PSs.nox (dv_Weave_woven (E := E) T hr G_names_in G_ordered G_is_name G_Nodes_leaf G_Nodes_often G_Nodes_pair), rd vs H Q E hsp⟩
theorem dv_Weave_letter {P : Program} {w : World} {K : PySem.W.Frag} {mg : Str → Option Value} {base : Heap} {f : Addr} {cdv : Value} {A : Around} {outer : List Env} {s : Shared} {H : Hp} {E : XK} (T : Tx K mg)
    (hr : Room 0 (A.deeper (envOfC "Weave.letter" (defScope s_Weave_letter) s.heap.objs.size f cdv))) :
    PSs (cxOf CX0 P w K mg base N_Weave_letter "Weave.letter" (defScope s_Weave_letter) f cdv A outer s H E).nox (defBody s_Weave_letter) (t_Weave_letter K) := by
  have hu := hu_of hr
  have nd := sc_Weave_letter.nd
  exact (pss_cons (ps_if (PW.pt (pw_or (pt_not (pt_val (pe_callB call_isi (by rfl) T.f_isinstance (by decide +kernel) (pa_cons (pv 1) (pa_cons (pe_bltn (v := .ty "int") (by rfl) T.f_int (by decide +kernel) rfl) pa_nil))))) (pw_or (pt_val (pe_callB call_isi (by rfl) T.f_isinstance (by decide +kernel) (pa_cons (pv 1) (pa_cons (pe_bltn (v := .ty "bool") (by rfl) T.f_bool (by decide +kernel) rfl) pa_nil)))) (pw_or1 (pt_not (pt_chain o_leI o_ltI pe_int (pv 1) (pe_fld (pv 0) rfl))))))) (pss_one ps_never) pss_nil)
    (pss_cons (ps_par (i := 2) (j := 3) rfl nd rfl rfl (by decide) rfl rfl (pa_cons (pv 1) (pa_cons (pe_ix ix_list (pe_fld (pe_fld (pv 0) rfl) rfl) (pe_fld (pv 0) rfl) (fun _ _ => rfl)) pa_nil)) (by rfl))
    (pss_cons (ps_while PassesOwn.never (pt_cmp (pc_isN (pe_fld (pv 3) rfl))) (pss_cons (ps_set (i := 4) nd rfl (Or.inl rfl) (pe_ix ix_list (pe_fld (pe_fld (pv 0) rfl) rfl) (pe_fld (pv 3) rfl) (fun _ _ => rfl)))
    (pss_one (ps_if (pt_cmpR o_ltI (pv 2) (pe_fld (pv 4) rfl) (nomark _)) (pss_one (ps_set (i := 3) nd rfl (Or.inl rfl) (pv 4))) (pss_cons (ps_set (i := 2) nd rfl (Or.inl rfl) (pe_op o_subI (pv 2) (pe_fld (pv 4) rfl)))
    (pss_one (ps_set (i := 3) nd rfl (Or.inl rfl) (pe_ix ix_list (pe_fld (pe_fld (pv 0) rfl) rfl) (pe_fld (pv 3) rfl) (fun _ _ => rfl)))))))))
    (pss_one (ps_ret (pe_ix ix_str (pe_fld (pv 3) rfl) (pv 2) (fun _ _ => rfl)))))))
theorem mk_Weave_letter {P : Program} {w : World} {K : PySem.W.Frag} {mg : Str → Option Value} {base : Heap} {sp : Sp} (T : Tx K mg)
    (len : ∀ vs H Q E, sp vs H Q E → vs.length = ps_Weave_letter.length) (rd : ∀ vs H Q E, sp vs H Q E → t_Weave_letter K { nx := fun _ H' => Q .non H', rt := Q } (start N_Weave_letter vs) H) :
    FnOk P w K mg base CX0 1 (f_Weave_letter K) (fd_Weave_letter K) ps_Weave_letter sp :=
  FunD.ok T.F_Weave_letter sc_Weave_letter len fun cdv A outer s H vs Q E hr hsp => ⟨_, PSs.nox (dv_Weave_letter (E := E) T hr), rd vs H Q E hsp⟩
theorem dv_Weave_part {P : Program} {w : World} {K : PySem.W.Frag} {mg : Str → Option Value} {base : Heap} {f : Addr} {cdv : Value} {A : Around} {outer : List Env} {s : Shared} {H : Hp} {E : XK} {sp_Weave_letter : Sp} (T : Tx K mg)
    (hr : Room 1 (A.deeper (envOfC "Weave.part" (defScope s_Weave_part) s.heap.objs.size f cdv)))
    (G_Weave_letter : FnOk P w K mg base CX0 1 (f_Weave_letter K) (fd_Weave_letter K) ps_Weave_letter sp_Weave_letter) :
    PSs (cxOf CX0 P w K mg base N_Weave_part "Weave.part" (defScope s_Weave_part) f cdv A outer s H E).nox (defBody s_Weave_part) (t_Weave_part K sp_Weave_letter) := by
  have hu := hu_of hr
  have nd := sc_Weave_part.nd
  exact (pss_cons (ps_if (pt_cmpR o_gtI (pv 2) (pe_glob rfl T.i_MOST_CUT ⟨T.tk_MOST_CUT, rfl⟩) (nomark _)) (pss_one ps_never) pss_nil)
    (pss_cons (ps_if (PW.pt (pw_or (pt_not (pt_val (pe_callB call_isi (by rfl) T.f_isinstance (by decide +kernel) (pa_cons (pv 1) (pa_cons (pe_bltn (v := .ty "int") (by rfl) T.f_int (by decide +kernel) rfl) pa_nil))))) (pw_or (pt_val (pe_callB call_isi (by rfl) T.f_isinstance (by decide +kernel) (pa_cons (pv 1) (pa_cons (pe_bltn (v := .ty "bool") (by rfl) T.f_bool (by decide +kernel) rfl) pa_nil)))) (pw_or1 (pt_not (pt_chain o_leI o_leI pe_int (pv 1) (pe_op o_subI (pe_fld (pv 0) rfl) (pv 2)))))))) (pss_one ps_never) pss_nil)
    (pss_one (ps_ret (pe_m1 F.slot_str_join F.type_str_join m_join pe_str (pe_lc (own := [("at", 3)]) rfl nd (pi_range1 rfl T.f_range (pa_cons (pv 2) pa_nil)) (blkOk_by (own := [("at", 3)]) (N := N_Weave_part) (sc := defScope s_Weave_part) (by decide +kernel)) (fun _ _ _ _ _ => pg_name (i := 3) nd rfl (Or.inl rfl)) (fun _ _ _ _ _ => pts_nil) (fun _ _ _ _ _ => pe_meth (pv 0) T.c_Weave T.me_Weave_letter G_Weave_letter (hr.mono (by first | decide | omega)) T.b_Weave_letter .nil pass0 (pa_cons (pe_op o_addI (pv 1) (pv 3)) pa_nil))))))))
theorem mk_Weave_part {P : Program} {w : World} {K : PySem.W.Frag} {mg : Str → Option Value} {base : Heap} {sp_Weave_letter : Sp} {sp : Sp} (T : Tx K mg) (G_Weave_letter : FnOk P w K mg base CX0 1 (f_Weave_letter K) (fd_Weave_letter K) ps_Weave_letter sp_Weave_letter)
    (len : ∀ vs H Q E, sp vs H Q E → vs.length = ps_Weave_part.length) (rd : ∀ vs H Q E, sp vs H Q E → t_Weave_part K sp_Weave_letter { nx := fun _ H' => Q .non H', rt := Q } (start N_Weave_part vs) H) :
    FnOk P w K mg base CX0 2 (f_Weave_part K) (fd_Weave_part K) ps_Weave_part sp :=
  FunD.ok T.F_Weave_part sc_Weave_part len fun cdv A outer s H vs Q E hr hsp => ⟨_, PSs.nox (dv_Weave_part (E := E) T hr G_Weave_letter), rd vs H Q E hsp⟩
theorem dv_Sums_init {P : Program} {w : World} {K : PySem.W.Frag} {mg : Str → Option Value} {base : Heap} {f : Addr} {cdv : Value} {A : Around} {outer : List Env} {s : Shared} {H : Hp} {E : XK} (T : Tx K mg)
    (hr : Room 0 (A.deeper (envOfC "Sums.__init__" (defScope s_Sums_init) s.heap.objs.size f cdv))) :
    PSs (cxOf CX0 P w K mg base N_Sums_init "Sums.__init__" (defScope s_Sums_init) f cdv A outer s H E).nox (defBody s_Sums_init) (t_Sums_init K) := by
  have hu := hu_of hr
  have nd := sc_Sums_init.nd
  exact (pss_cons (ps_fld (pv 0) (pv 1) rfl)
    (pss_cons (ps_fld (pv 0) (pv 2) rfl)
    (pss_one (ps_fld (pv 0) (pv 3) rfl))))
theorem mk_Sums_init {P : Program} {w : World} {K : PySem.W.Frag} {mg : Str → Option Value} {base : Heap} {sp : Sp} (T : Tx K mg)
    (len : ∀ vs H Q E, sp vs H Q E → vs.length = ps_Sums_init.length) (rd : ∀ vs H Q E, sp vs H Q E → t_Sums_init K { nx := fun _ H' => Q .non H', rt := Q } (start N_Sums_init vs) H) :
    FnOk P w K mg base CX0 1 (f_Sums_init K) (fd_Sums_init K) ps_Sums_init sp :=
  FunD.ok T.F_Sums_init sc_Sums_init len fun cdv A outer s H vs Q E hr hsp => ⟨_, PSs.nox (dv_Sums_init (E := E) T hr), rd vs H Q E hsp⟩
theorem dv_Sums_plus {P : Program} {w : World} {K : PySem.W.Frag} {mg : Str → Option Value} {base : Heap} {f : Addr} {cdv : Value} {A : Around} {outer : List Env} {s : Shared} {H : Hp} {E : XK} {sp_Sums_init : Sp} (T : Tx K mg)
    (hr : Room 2 (A.deeper (envOfC "Sums.plus" (defScope s_Sums_plus) s.heap.objs.size f cdv)))
    (G_Sums_init : FnOk P w K mg base CX0 1 (f_Sums_init K) (fd_Sums_init K) ps_Sums_init sp_Sums_init) :
    PSs (cxOf CX0 P w K mg base N_Sums_plus "Sums.plus" (defScope s_Sums_plus) f cdv A outer s H E).nox (defBody s_Sums_plus) (t_Sums_plus K sp_Sums_init) := by
  have hu := hu_of hr
  have nd := sc_Sums_plus.nd
  exact (pss_one (ps_ret (pe_make T.mk_Sums G_Sums_init (hr.mono (by first | decide | omega)) rfl T.g_Sums T.b_Sums_init .nil pass0 (pa_cons (pe_op o_addI (pe_fld (pv 0) rfl) (pe_fld (pv 1) rfl)) (pa_cons (pe_op o_addI (pe_fld (pv 0) rfl) (pe_fld (pv 1) rfl)) (pa_cons (pe_op o_addI (pe_fld (pv 0) rfl) (pe_fld (pv 1) rfl)) pa_nil))))))
theorem mk_Sums_plus {P : Program} {w : World} {K : PySem.W.Frag} {mg : Str → Option Value} {base : Heap} {sp_Sums_init : Sp} {sp : Sp} (T : Tx K mg) (G_Sums_init : FnOk P w K mg base CX0 1 (f_Sums_init K) (fd_Sums_init K) ps_Sums_init sp_Sums_init)
    (len : ∀ vs H Q E, sp vs H Q E → vs.length = ps_Sums_plus.length) (rd : ∀ vs H Q E, sp vs H Q E → t_Sums_plus K sp_Sums_init { nx := fun _ H' => Q .non H', rt := Q } (start N_Sums_plus vs) H) :
    FnOk P w K mg base CX0 3 (f_Sums_plus K) (fd_Sums_plus K) ps_Sums_plus sp :=
  FunD.ok T.F_Sums_plus sc_Sums_plus len fun cdv A outer s H vs Q E hr hsp => ⟨_, PSs.nox (dv_Sums_plus (E := E) T hr G_Sums_init), rd vs H Q E hsp⟩
theorem dv_Walk_init {P : Program} {w : World} {K : PySem.W.Frag} {mg : Str → Option Value} {base : Heap} {f : Addr} {cdv : Value} {A : Around} {outer : List Env} {s : Shared} {H : Hp} {E : XK} (T : Tx K mg)
    (hr : Room 0 (A.deeper (envOfC "Walk.__init__" (defScope s_Walk_init) s.heap.objs.size f cdv))) :
    PSs (cxOf CX0 P w K mg base N_Walk_init "Walk.__init__" (defScope s_Walk_init) f cdv A outer s H E).nox (defBody s_Walk_init) (t_Walk_init K) := by
  have hu := hu_of hr
  have nd := sc_Walk_init.nd
  exact (pss_cons (ps_fld (pv 0) (pv 1) rfl)
    (pss_cons (ps_fld (pv 0) (pe_fld (pv 2) rfl) rfl)
    (pss_cons (ps_fld (pv 0) pe_dnewT rfl)
    (pss_one (ps_fld (pv 0) pe_dnewT rfl)))))
theorem mk_Walk_init {P : Program} {w : World} {K : PySem.W.Frag} {mg : Str → Option Value} {base : Heap} {sp : Sp} (T : Tx K mg)
    (len : ∀ vs H Q E, sp vs H Q E → vs.length = ps_Walk_init.length) (rd : ∀ vs H Q E, sp vs H Q E → t_Walk_init K { nx := fun _ H' => Q .non H', rt := Q } (start N_Walk_init vs) H) :
    FnOk P w K mg base CX0 1 (f_Walk_init K) (fd_Walk_init K) ps_Walk_init sp :=
  FunD.ok T.F_Walk_init sc_Walk_init len fun cdv A outer s H vs Q E hr hsp => ⟨_, PSs.nox (dv_Walk_init (E := E) T hr), rd vs H Q E hsp⟩
theorem dv_Walk_turns {P : Program} {w : World} {K : PySem.W.Frag} {mg : Str → Option Value} {base : Heap} {f : Addr} {cdv : Value} {A : Around} {outer : List Env} {s : Shared} {H : Hp} {E : XK} {sp_WindowTurn_init : Sp} (T : Tx K mg)
    (hr : Room 3 (A.deeper (envOfC "Walk.turns" (defScope s_Walk_turns) s.heap.objs.size f cdv)))
    (G_WindowTurn_init : FnOk P w K mg base CX0 2 (f_WindowTurn_init K) (fd_WindowTurn_init K) ps_WindowTurn_init sp_WindowTurn_init) :
    PSs (cxOf CX0 P w K mg base N_Walk_turns "Walk.turns" (defScope s_Walk_turns) f cdv A outer s H E).nox (defBody s_Walk_turns) (t_Walk_turns K sp_WindowTurn_init) := by
  have hu := hu_of hr
  have nd := sc_Walk_turns.nd
  exact (pss_cons (ps_par (i := 6) (j := 7) rfl nd rfl rfl (by decide) rfl rfl (pa_cons (pe_fld (pe_fld (pv 0) rfl) rfl) (pa_cons (pe_lst pa_nil) pa_nil)) (by rfl))
    (pss_cons (ps_while PassesOwn.never (PW.pt (pw_and (pt_cmpR o_ltI (pv 2) (pe_op o_addI (pv 4) (pe_callB c_lenS (by rfl) T.f_len (by decide +kernel) (pa_cons (pv 1) pa_nil))) (nomark _)) (pw_and1 (pt_cmpR o_ltI (pe_op o_addI (pv 2) (pv 6)) (pv 5) (nomark _))))) (pss_cons (ps_set (i := 8) nd rfl (Or.inl rfl) (pe_op o_subI (pv 2) (pv 4)))
    (pss_cons (ps_set (i := 9) nd rfl (Or.inl rfl) (pe_make T.mk_WindowTurn G_WindowTurn_init (hr.mono (by first | decide | omega)) rfl T.g_WindowTurn T.b_WindowTurn_init .nil pass0 (pa_cons (pe_fld (pv 0) rfl) (pa_cons (pv 3) (pa_cons (pe_slice sl_str (pv 1) (po_some (pv 8)) (po_some (pe_op o_addI (pe_op o_addI (pv 8) (pv 6)) pe_int))) pa_nil)))))
    (pss_cons (ps_expr (pe_bm PySem.F.plainAttrs_list PySem.F.slot_list_append PySem.F.type_list_append mt_append (pv 7) (pa_cons (pe_tup (pa_cons (pv 2) (pa_cons (pe_callB c_lenQ (by rfl) T.f_len (by decide +kernel) (pa_cons (pe_fld (pv 9) rfl) pa_nil)) (pa_cons (pe_fld (pv 9) rfl) pa_nil)))) pa_nil)))
    (pss_one (ps_par (i := 2) (j := 3) rfl nd rfl rfl (by decide) rfl rfl (pa_cons (pe_op o_addI (pv 2) (pe_fld (pv 9) rfl)) (pa_cons (pe_fld (pv 9) rfl) pa_nil)) (by rfl)))))))
    (pss_one (ps_ret (pe_tup (pa_cons (pv 2) (pa_cons (pv 3) (pa_cons (pv 7) pa_nil))))))))
theorem mk_Walk_turns {P : Program} {w : World} {K : PySem.W.Frag} {mg : Str → Option Value} {base : Heap} {sp_WindowTurn_init : Sp} {sp : Sp} (T : Tx K mg) (G_WindowTurn_init : FnOk P w K mg base CX0 2 (f_WindowTurn_init K) (fd_WindowTurn_init K) ps_WindowTurn_init sp_WindowTurn_init)
    (len : ∀ vs H Q E, sp vs H Q E → vs.length = ps_Walk_turns.length) (rd : ∀ vs H Q E, sp vs H Q E → t_Walk_turns K sp_WindowTurn_init { nx := fun _ H' => Q .non H', rt := Q } (start N_Walk_turns vs) H) :
    FnOk P w K mg base CX0 4 (f_Walk_turns K) (fd_Walk_turns K) ps_Walk_turns sp :=
  FunD.ok T.F_Walk_turns sc_Walk_turns len fun cdv A outer s H vs Q E hr hsp => ⟨_, PSs.nox (dv_Walk_turns (E := E) T hr G_WindowTurn_init), rd vs H Q E hsp⟩
theorem dv_Walk_summed {P : Program} {w : World} {K : PySem.W.Frag} {mg : Str → Option Value} {base : Heap} {f : Addr} {cdv : Value} {A : Around} {outer : List Env} {s : Shared} {H : Hp} {E : XK} {sp_Sums_init : Sp} (T : Tx K mg)
    (hr : Room 2 (A.deeper (envOfC "Walk.summed" (defScope s_Walk_summed) s.heap.objs.size f cdv)))
    (G_Sums_init : FnOk P w K mg base CX0 1 (f_Sums_init K) (fd_Sums_init K) ps_Sums_init sp_Sums_init) :
    PSs (cxOf CX0 P w K mg base N_Walk_summed "Walk.summed" (defScope s_Walk_summed) f cdv A outer s H E).nox (defBody s_Walk_summed) (t_Walk_summed K sp_Sums_init) := by
  have hu := hu_of hr
  have nd := sc_Walk_summed.nd
  exact (pss_cons (ps_set (i := 2) nd rfl (Or.inl rfl) (pe_callB (cr_sum rfl) (by rfl) T.f_sum (by decide +kernel) (pa_cons (pe_lc (own := [("place", 3), ("cost", 4), ("numbers", 5)]) rfl nd (pi_list (pv 1)) (blkOk_by (own := [("place", 3), ("cost", 4), ("numbers", 5)]) (N := N_Walk_summed) (sc := defScope s_Walk_summed) (by decide +kernel)) (fun _ _ _ _ _ => pg_tup rfl (pgs_cons (pg_name (i := 3) nd rfl (Or.inl rfl)) (pgs_cons (pg_name (i := 4) nd rfl (Or.inl rfl)) (pgs_cons (pg_name (i := 5) nd rfl (Or.inl rfl)) pgs_nil)))) (fun _ _ _ _ _ => pts_nil) (fun _ _ _ _ _ => pe_callB c_lenQ (by rfl) T.f_len (by decide +kernel) (pa_cons (pv 5) pa_nil))) pa_nil)))
    (pss_one (ps_ret (pe_make T.mk_Sums G_Sums_init (hr.mono (by first | decide | omega)) rfl T.g_Sums T.b_Sums_init .nil pass0 (pa_cons (pe_callB (cr_sum rfl) (by rfl) T.f_sum (by decide +kernel) (pa_cons (pe_lc (own := [("place", 3), ("cost", 4), ("numbers", 5)]) rfl nd (pi_list (pv 1)) (blkOk_by (own := [("place", 3), ("cost", 4), ("numbers", 5)]) (N := N_Walk_summed) (sc := defScope s_Walk_summed) (by decide +kernel)) (fun _ _ _ _ _ => pg_tup rfl (pgs_cons (pg_name (i := 3) nd rfl (Or.inl rfl)) (pgs_cons (pg_name (i := 4) nd rfl (Or.inl rfl)) (pgs_cons (pg_name (i := 5) nd rfl (Or.inl rfl)) pgs_nil)))) (fun _ _ _ _ _ => pts_nil) (fun _ _ _ _ _ => pv 4)) pa_nil)) (pa_cons (pe_callB c_lenQ (by rfl) T.f_len (by decide +kernel) (pa_cons (pv 1) pa_nil)) (pa_cons (pv 2) pa_nil)))))))
theorem mk_Walk_summed {P : Program} {w : World} {K : PySem.W.Frag} {mg : Str → Option Value} {base : Heap} {sp_Sums_init : Sp} {sp : Sp} (T : Tx K mg) (G_Sums_init : FnOk P w K mg base CX0 1 (f_Sums_init K) (fd_Sums_init K) ps_Sums_init sp_Sums_init)
    (len : ∀ vs H Q E, sp vs H Q E → vs.length = ps_Walk_summed.length) (rd : ∀ vs H Q E, sp vs H Q E → t_Walk_summed K sp_Sums_init { nx := fun _ H' => Q .non H', rt := Q } (start N_Walk_summed vs) H) :
    FnOk P w K mg base CX0 3 (f_Walk_summed K) (fd_Walk_summed K) ps_Walk_summed sp :=
  FunD.ok T.F_Walk_summed sc_Walk_summed len fun cdv A outer s H vs Q E hr hsp => ⟨_, PSs.nox (dv_Walk_summed (E := E) T hr G_Sums_init), rd vs H Q E hsp⟩
theorem dv_Walk_solved {P : Program} {w : World} {K : PySem.W.Frag} {mg : Str → Option Value} {base : Heap} {f : Addr} {cdv : Value} {A : Around} {outer : List Env} {s : Shared} {H : Hp} {E : XK} {sp_Walk_lacking : Sp} (T : Tx K mg)
    (hr : Room 6 (A.deeper (envOfC "Walk.solved" (defScope s_Walk_solved) s.heap.objs.size f cdv)))
    (G_Walk_lacking : FnOk P w K mg base CX0 6 (f_Walk_lacking K) (fd_Walk_lacking K) ps_Walk_lacking sp_Walk_lacking) :
    PSs (cxOf CX0 P w K mg base N_Walk_solved "Walk.solved" (defScope s_Walk_solved) f cdv A outer s H E).nox (defBody s_Walk_solved) (t_Walk_solved K sp_Walk_lacking) := by
  have hu := hu_of hr
  have nd := sc_Walk_solved.nd
  exact (pss_cons (ps_set (i := 4) nd rfl (Or.inl rfl) (pe_lst (pa_cons (pe_tup (pa_cons (pv 1) (pa_cons (pv 2) (pa_cons (pv 3) pa_nil)))) pa_nil)))
    (pss_cons (ps_while PassesOwn.never (pt_truth (pv 4) (by intro _; rfl)) (pss_cons (ps_set (i := 5) nd rfl (Or.inl rfl) (pe_ix ix_list (pv 4) (pe_un u_negI pe_int) (fun _ _ => rfl)))
    (pss_cons (ps_set (i := 6) nd rfl (Or.inl rfl) (pe_ifExp (pt_cmp (pc_din hu (pv 5) (pe_fld (pv 0) rfl)) (by rfl)) pe_non (pe_meth (pv 0) T.c_Walk T.me_Walk_lacking G_Walk_lacking (hr.mono (by first | decide | omega)) T.b_Walk_lacking .nil pass0 (pa_cons (pv 5) pa_nil))))
    (pss_one (ps_if (pt_cmp (pc_isN (pv 6))) (pss_one (ps_expr (pe_bm0 PySem.F.plainAttrs_list PySem.F.slot_list_pop PySem.F.type_list_pop mt_pop (pv 4)))) (pss_one (ps_expr (pe_bm PySem.F.plainAttrs_list PySem.F.slot_list_append PySem.F.type_list_append mt_append (pv 4) (pa_cons (pv 6) pa_nil)))))))))
    (pss_one (ps_ret (pe_dget hu (pe_fld (pv 0) rfl) (pe_tup (pa_cons (pv 1) (pa_cons (pv 2) (pa_cons (pv 3) pa_nil)))) (fun _ _ => rfl))))))
theorem mk_Walk_solved {P : Program} {w : World} {K : PySem.W.Frag} {mg : Str → Option Value} {base : Heap} {sp_Walk_lacking : Sp} {sp : Sp} (T : Tx K mg) (G_Walk_lacking : FnOk P w K mg base CX0 6 (f_Walk_lacking K) (fd_Walk_lacking K) ps_Walk_lacking sp_Walk_lacking)
    (len : ∀ vs H Q E, sp vs H Q E → vs.length = ps_Walk_solved.length) (rd : ∀ vs H Q E, sp vs H Q E → t_Walk_solved K sp_Walk_lacking { nx := fun _ H' => Q .non H', rt := Q } (start N_Walk_solved vs) H) :
    FnOk P w K mg base CX0 7 (f_Walk_solved K) (fd_Walk_solved K) ps_Walk_solved sp :=
  FunD.ok T.F_Walk_solved sc_Walk_solved len fun cdv A outer s H vs Q E hr hsp => ⟨_, PSs.nox (dv_Walk_solved (E := E) T hr G_Walk_lacking), rd vs H Q E hsp⟩
theorem dv_Walk_lacking {P : Program} {w : World} {K : PySem.W.Frag} {mg : Str → Option Value} {base : Heap} {f : Addr} {cdv : Value} {A : Around} {outer : List Env} {s : Shared} {H : Hp} {E : XK} {sp_Walk_turns : Sp} {sp_Walk_summed : Sp} {sp_Sums_init : Sp} {sp_Walk_crossed : Sp} {sp_Sums_plus : Sp} (T : Tx K mg)
    (hr : Room 5 (A.deeper (envOfC "Walk.lacking" (defScope s_Walk_lacking) s.heap.objs.size f cdv)))
    (G_Walk_turns : FnOk P w K mg base CX0 4 (f_Walk_turns K) (fd_Walk_turns K) ps_Walk_turns sp_Walk_turns)
    (G_Walk_summed : FnOk P w K mg base CX0 3 (f_Walk_summed K) (fd_Walk_summed K) ps_Walk_summed sp_Walk_summed)
    (G_Sums_init : FnOk P w K mg base CX0 1 (f_Sums_init K) (fd_Sums_init K) ps_Sums_init sp_Sums_init)
    (G_Walk_crossed : FnOk P w K mg base CX0 5 (f_Walk_crossed K) (fd_Walk_crossed K) ps_Walk_crossed sp_Walk_crossed)
    (G_Sums_plus : FnOk P w K mg base CX0 3 (f_Sums_plus K) (fd_Sums_plus K) ps_Sums_plus sp_Sums_plus) :
    PSs (cxOf CX0 P w K mg base N_Walk_lacking "Walk.lacking" (defScope s_Walk_lacking) f cdv A outer s H E).nox (defBody s_Walk_lacking) (t_Walk_lacking K sp_Walk_turns sp_Walk_summed sp_Sums_init sp_Walk_crossed sp_Sums_plus) := by
  have hu := hu_of hr
  have nd := sc_Walk_lacking.nd
  exact (pss_cons (ps_par3 (i := 2) (j := 3) (l := 4) rfl nd rfl rfl rfl (by decide) (by decide) (by decide) rfl rfl rfl (pa_cons (pe_ix ix_list (pe_fld (pv 0) rfl) (pe_ix ix_tup (pv 1) pe_int (fun _ _ => rfl)) (fun _ _ => rfl)) (pa_cons (pe_ix ix_tup (pv 1) pe_int (fun _ _ => rfl)) (pa_cons (pe_ix ix_tup (pv 1) pe_int (fun _ _ => rfl)) pa_nil))) (by rfl))
    (pss_cons (ps_if (pt_cmp (pc_notN (pe_fld (pv 2) rfl))) (pss_cons (ps_asg (pe_meth (pv 0) T.c_Walk T.me_Walk_turns G_Walk_turns (hr.mono (by first | decide | omega)) T.b_Walk_turns .nil pass0 (pa_cons (pe_slice sl_str (pe_fld (pv 2) rfl) (po_some (pv 3)) po_none) (pa_cons (pv 3) (pa_cons (pv 4) (pa_cons (pv 3) (pa_cons (pe_fld (pv 2) rfl) pa_nil)))))) (pg_tup rfl (pgs_cons (pg_name (i := 3) nd rfl (Or.inl rfl)) (pgs_cons (pg_name (i := 4) nd rfl (Or.inl rfl)) (pgs_cons (pg_name (i := 7) nd rfl (Or.inl rfl)) pgs_nil)))))
    (pss_cons (ps_dput hu (pe_fld (pv 0) rfl) (pv 1) (pe_tup (pa_cons (pv 3) (pa_cons (pv 4) (pa_cons (pe_meth (pv 0) T.c_Walk T.me_Walk_summed G_Walk_summed (hr.mono (by first | decide | omega)) T.b_Walk_summed .nil pass0 (pa_cons (pv 7) pa_nil)) pa_nil)))) rfl)
    (pss_one (ps_ret pe_non)))) pss_nil)
    (pss_cons (ps_set (i := 5) nd rfl (Or.inl rfl) (pe_make T.mk_Sums G_Sums_init (hr.mono (by first | decide | omega)) rfl T.g_Sums T.b_Sums_init .nil pass0 (pa_cons pe_int (pa_cons pe_int (pa_cons pe_int pa_nil)))))
    (pss_cons (ps_set (i := 6) nd rfl (Or.inl rfl) (pe_ix ix_list (pe_fld (pv 0) rfl) (pe_fld (pv 2) rfl) (fun _ _ => rfl)))
    (pss_cons (ps_if (pt_cmpR o_ltI (pv 3) (pe_fld (pv 6) rfl) (nomark _)) (pss_cons (ps_set (i := 8) nd rfl (Or.inl rfl) (pe_tup (pa_cons (pe_fld (pv 2) rfl) (pa_cons (pv 3) (pa_cons (pv 4) pa_nil)))))
    (pss_cons (ps_if (pt_cmp (pc_dnotin hu (pv 8) (pe_fld (pv 0) rfl)) (by rfl)) (pss_one (ps_ret (pv 8))) pss_nil)
    (pss_cons (ps_asg (pe_dget hu (pe_fld (pv 0) rfl) (pv 8) (fun _ _ => rfl)) (pg_tup rfl (pgs_cons (pg_name (i := 3) nd rfl (Or.inl rfl)) (pgs_cons (pg_name (i := 4) nd rfl (Or.inl rfl)) (pgs_cons (pg_name (i := 5) nd rfl (Or.inl rfl)) pgs_nil)))))
    (pss_cons (ps_asg (pe_meth (pv 0) T.c_Walk T.me_Walk_crossed G_Walk_crossed (hr.mono (by first | decide | omega)) T.b_Walk_crossed .nil pass0 (pa_cons (pv 2) (pa_cons (pv 3) (pa_cons (pv 4) pa_nil)))) (pg_tup rfl (pgs_cons (pg_name (i := 3) nd rfl (Or.inl rfl)) (pgs_cons (pg_name (i := 4) nd rfl (Or.inl rfl)) (pgs_cons (pg_name (i := 7) nd rfl (Or.inl rfl)) pgs_nil)))))
    (pss_cons (ps_dput hu (pe_fld (pv 0) rfl) (pv 1) (pe_tup (pa_cons (pv 3) (pa_cons (pv 4) (pa_cons (pv 7) pa_nil)))) rfl)
    (pss_one (ps_set (i := 5) nd rfl (Or.inl rfl) (pe_meth (pv 5) T.c_Sums T.me_Sums_plus G_Sums_plus (hr.mono (by first | decide | omega)) T.b_Sums_plus .nil pass0 (pa_cons (pe_meth (pv 0) T.c_Walk T.me_Walk_summed G_Walk_summed (hr.mono (by first | decide | omega)) T.b_Walk_summed .nil pass0 (pa_cons (pv 7) pa_nil)) pa_nil))))))))) pss_nil)
    (pss_cons (ps_if (pt_cmpR o_geI (pv 3) (pe_fld (pv 6) rfl) (nomark _)) (pss_cons (ps_set (i := 9) nd rfl (Or.inl rfl) (pe_tup (pa_cons (pe_fld (pv 2) rfl) (pa_cons (pe_op o_subI (pv 3) (pe_fld (pv 6) rfl)) (pa_cons (pv 4) pa_nil)))))
    (pss_cons (ps_if (pt_cmp (pc_dnotin hu (pv 9) (pe_fld (pv 0) rfl)) (by rfl)) (pss_one (ps_ret (pv 9))) pss_nil)
    (pss_cons (ps_asg (pe_dget hu (pe_fld (pv 0) rfl) (pv 9) (fun _ _ => rfl)) (pg_tup rfl (pgs_cons (pg_name (i := 10) nd rfl (Or.inl rfl)) (pgs_cons (pg_name (i := 4) nd rfl (Or.inl rfl)) (pgs_cons (pg_name (i := 11) nd rfl (Or.inl rfl)) pgs_nil)))))
    (pss_one (ps_par (i := 3) (j := 5) rfl nd rfl rfl (by decide) rfl rfl (pa_cons (pe_op o_addI (pe_fld (pv 6) rfl) (pv 10)) (pa_cons (pe_meth (pv 5) T.c_Sums T.me_Sums_plus G_Sums_plus (hr.mono (by first | decide | omega)) T.b_Sums_plus .nil pass0 (pa_cons (pv 11) pa_nil)) pa_nil)) (by rfl)))))) pss_nil)
    (pss_cons (ps_dput hu (pe_fld (pv 0) rfl) (pv 1) (pe_tup (pa_cons (pv 3) (pa_cons (pv 4) (pa_cons (pv 5) pa_nil)))) rfl)
    (pss_one (ps_ret pe_non)))))))))
theorem mk_Walk_lacking {P : Program} {w : World} {K : PySem.W.Frag} {mg : Str → Option Value} {base : Heap} {sp_Walk_turns : Sp} {sp_Walk_summed : Sp} {sp_Sums_init : Sp} {sp_Walk_crossed : Sp} {sp_Sums_plus : Sp} {sp : Sp} (T : Tx K mg) (G_Walk_turns : FnOk P w K mg base CX0 4 (f_Walk_turns K) (fd_Walk_turns K) ps_Walk_turns sp_Walk_turns) (G_Walk_summed : FnOk P w K mg base CX0 3 (f_Walk_summed K) (fd_Walk_summed K) ps_Walk_summed sp_Walk_summed) (G_Sums_init : FnOk P w K mg base CX0 1 (f_Sums_init K) (fd_Sums_init K) ps_Sums_init sp_Sums_init) (G_Walk_crossed : FnOk P w K mg base CX0 5 (f_Walk_crossed K) (fd_Walk_crossed K) ps_Walk_crossed sp_Walk_crossed) (G_Sums_plus : FnOk P w K mg base CX0 3 (f_Sums_plus K) (fd_Sums_plus K) ps_Sums_plus sp_Sums_plus)
    (len : ∀ vs H Q E, sp vs H Q E → vs.length = ps_Walk_lacking.length) (rd : ∀ vs H Q E, sp vs H Q E → t_Walk_lacking K sp_Walk_turns sp_Walk_summed sp_Sums_init sp_Walk_crossed sp_Sums_plus { nx := fun _ H' => Q .non H', rt := Q } (start N_Walk_lacking vs) H) :
    FnOk P w K mg base CX0 6 (f_Walk_lacking K) (fd_Walk_lacking K) ps_Walk_lacking sp :=
  FunD.ok T.F_Walk_lacking sc_Walk_lacking len fun cdv A outer s H vs Q E hr hsp => ⟨_, PSs.nox (dv_Walk_lacking (E := E) T hr G_Walk_turns G_Walk_summed G_Sums_init G_Walk_crossed G_Sums_plus), rd vs H Q E hsp⟩
theorem dv_Walk_crossed {P : Program} {w : World} {K : PySem.W.Frag} {mg : Str → Option Value} {base : Heap} {f : Addr} {cdv : Value} {A : Around} {outer : List Env} {s : Shared} {H : Hp} {E : XK} {sp_Walk_one_seam : Sp} (T : Tx K mg)
    (hr : Room 4 (A.deeper (envOfC "Walk.crossed" (defScope s_Walk_crossed) s.heap.objs.size f cdv)))
    (G_Walk_one_seam : FnOk P w K mg base CX0 4 (f_Walk_one_seam K) (fd_Walk_one_seam K) ps_Walk_one_seam sp_Walk_one_seam) :
    PSs (cxOf CX0 P w K mg base N_Walk_crossed "Walk.crossed" (defScope s_Walk_crossed) f cdv A outer s H E).nox (defBody s_Walk_crossed) (t_Walk_crossed K sp_Walk_one_seam) := by
  have hu := hu_of hr
  have nd := sc_Walk_crossed.nd
  exact (pss_cons (ps_par (i := 4) (j := 5) rfl nd rfl rfl (by decide) rfl rfl (pa_cons (pe_ix ix_list (pe_fld (pv 0) rfl) (pe_fld (pv 1) rfl) (fun _ _ => rfl)) (pa_cons (pe_lst pa_nil) pa_nil)) (by rfl))
    (pss_cons (ps_while PassesOwn.never (PW.pt (pw_and (pt_cmpR o_ltI (pv 2) (pe_fld (pv 4) rfl) (nomark _)) (pw_and1 (pt_cmpR o_ltI (pe_op o_addI (pv 2) (pe_fld (pe_fld (pv 0) rfl) rfl)) (pe_fld (pv 1) rfl) (nomark _))))) (pss_cons (ps_asg (pe_meth (pv 0) T.c_Walk T.me_Walk_one_seam G_Walk_one_seam (hr.mono (by first | decide | omega)) T.b_Walk_one_seam .nil pass0 (pa_cons (pv 1) (pa_cons (pv 2) (pa_cons (pv 3) pa_nil)))) (pg_tup rfl (pgs_cons (pg_name (i := 2) nd rfl (Or.inl rfl)) (pgs_cons (pg_name (i := 3) nd rfl (Or.inl rfl)) (pgs_cons (pg_name (i := 6) nd rfl (Or.inl rfl)) pgs_nil)))))
    (pss_one (ps_set (i := 5) nd rfl (Or.inl rfl) (pe_op op_cat (pv 5) (pv 6))))))
    (pss_one (ps_ret (pe_tup (pa_cons (pv 2) (pa_cons (pv 3) (pa_cons (pv 5) pa_nil))))))))
theorem mk_Walk_crossed {P : Program} {w : World} {K : PySem.W.Frag} {mg : Str → Option Value} {base : Heap} {sp_Walk_one_seam : Sp} {sp : Sp} (T : Tx K mg) (G_Walk_one_seam : FnOk P w K mg base CX0 4 (f_Walk_one_seam K) (fd_Walk_one_seam K) ps_Walk_one_seam sp_Walk_one_seam)
    (len : ∀ vs H Q E, sp vs H Q E → vs.length = ps_Walk_crossed.length) (rd : ∀ vs H Q E, sp vs H Q E → t_Walk_crossed K sp_Walk_one_seam { nx := fun _ H' => Q .non H', rt := Q } (start N_Walk_crossed vs) H) :
    FnOk P w K mg base CX0 5 (f_Walk_crossed K) (fd_Walk_crossed K) ps_Walk_crossed sp :=
  FunD.ok T.F_Walk_crossed sc_Walk_crossed len fun cdv A outer s H vs Q E hr hsp => ⟨_, PSs.nox (dv_Walk_crossed (E := E) T hr G_Walk_one_seam), rd vs H Q E hsp⟩
theorem dv_Walk_one_seam {P : Program} {w : World} {K : PySem.W.Frag} {mg : Str → Option Value} {base : Heap} {f : Addr} {cdv : Value} {A : Around} {outer : List Env} {s : Shared} {H : Hp} {E : XK} {sp_WindowTurn_init : Sp} (T : Tx K mg)
    (hr : Room 3 (A.deeper (envOfC "Walk.one_seam" (defScope s_Walk_one_seam) s.heap.objs.size f cdv)))
    (G_WindowTurn_init : FnOk P w K mg base CX0 2 (f_WindowTurn_init K) (fd_WindowTurn_init K) ps_WindowTurn_init sp_WindowTurn_init) :
    PSs (cxOf CX0 P w K mg base N_Walk_one_seam "Walk.one_seam" (defScope s_Walk_one_seam) f cdv A outer s H E).nox (defBody s_Walk_one_seam) (t_Walk_one_seam K sp_WindowTurn_init) := by
  have hu := hu_of hr
  have nd := sc_Walk_one_seam.nd
  exact (pss_cons (ps_par3 (i := 4) (j := 5) (l := 6) rfl nd rfl rfl rfl (by decide) (by decide) (by decide) rfl rfl rfl (pa_cons (pe_ix ix_list (pe_fld (pv 0) rfl) (pe_fld (pv 1) rfl) (fun _ _ => rfl)) (pa_cons (pe_ix ix_list (pe_fld (pv 0) rfl) (pe_fld (pv 1) rfl) (fun _ _ => rfl)) (pa_cons (pe_fld (pe_fld (pv 0) rfl) rfl) pa_nil))) (by rfl))
    (pss_cons (ps_set (i := 7) nd rfl (Or.inl rfl) (pe_slice sl_str (pe_ix ix_tup (pe_fld (pv 4) rfl) pe_int (fun _ _ => rfl)) (po_some (pe_un u_negI (pe_op o_subI (pe_fld (pv 4) rfl) (pv 2)))) po_none))
    (pss_cons (ps_set (i := 8) nd rfl (Or.inl rfl) (pe_slice sl_str (pe_op o_addS (pv 7) (pe_ix ix_tup (pe_fld (pv 5) rfl) pe_int (fun _ _ => rfl))) po_none (po_some (pe_op o_addI (pv 6) pe_int))))
    (pss_cons (ps_set (i := 9) nd rfl (Or.inl rfl) (pe_make T.mk_WindowTurn G_WindowTurn_init (hr.mono (by first | decide | omega)) rfl T.g_WindowTurn T.b_WindowTurn_init .nil pass0 (pa_cons (pe_fld (pv 0) rfl) (pa_cons (pv 3) (pa_cons (pv 8) pa_nil)))))
    (pss_one (ps_ret (pe_tup (pa_cons (pe_op o_addI (pv 2) (pe_fld (pv 9) rfl)) (pa_cons (pe_fld (pv 9) rfl) (pa_cons (pe_lst (pa_cons (pe_tup (pa_cons (pv 2) (pa_cons (pe_callB c_lenQ (by rfl) T.f_len (by decide +kernel) (pa_cons (pe_fld (pv 9) rfl) pa_nil)) (pa_cons (pe_fld (pv 9) rfl) pa_nil)))) pa_nil)) pa_nil))))))))))
theorem mk_Walk_one_seam {P : Program} {w : World} {K : PySem.W.Frag} {mg : Str → Option Value} {base : Heap} {sp_WindowTurn_init : Sp} {sp : Sp} (T : Tx K mg) (G_WindowTurn_init : FnOk P w K mg base CX0 2 (f_WindowTurn_init K) (fd_WindowTurn_init K) ps_WindowTurn_init sp_WindowTurn_init)
    (len : ∀ vs H Q E, sp vs H Q E → vs.length = ps_Walk_one_seam.length) (rd : ∀ vs H Q E, sp vs H Q E → t_Walk_one_seam K sp_WindowTurn_init { nx := fun _ H' => Q .non H', rt := Q } (start N_Walk_one_seam vs) H) :
    FnOk P w K mg base CX0 4 (f_Walk_one_seam K) (fd_Walk_one_seam K) ps_Walk_one_seam sp :=
  FunD.ok T.F_Walk_one_seam sc_Walk_one_seam len fun cdv A outer s H vs Q E hr hsp => ⟨_, PSs.nox (dv_Walk_one_seam (E := E) T hr G_WindowTurn_init), rd vs H Q E hsp⟩
theorem dv_Walk_told_in {P : Program} {w : World} {K : PySem.W.Frag} {mg : Str → Option Value} {base : Heap} {f : Addr} {cdv : Value} {A : Around} {outer : List Env} {s : Shared} {H : Hp} {E : XK} {sp_Walk_turns : Sp} (T : Tx K mg)
    (hr : Room 4 (A.deeper (envOfC "Walk.told_in" (defScope s_Walk_told_in) s.heap.objs.size f cdv)))
    (G_Walk_turns : FnOk P w K mg base CX0 4 (f_Walk_turns K) (fd_Walk_turns K) ps_Walk_turns sp_Walk_turns) :
    PSs (cxOf CX0 P w K mg base N_Walk_told_in "Walk.told_in" (defScope s_Walk_told_in) f cdv A outer s H E).nox (defBody s_Walk_told_in) (t_Walk_told_in K sp_Walk_turns) := by
  have hu := hu_of hr
  have nd := sc_Walk_told_in.nd
  exact (pss_cons (ps_set (i := 3) nd rfl (Or.inr rfl) pe_int)
    (pss_cons (ps_while PassesOwn.never (pt_cmp (pc_isN (pe_fld (pe_ix ix_list (pe_fld (pv 0) rfl) (pe_ix ix_tup (pv 1) pe_int (fun _ _ => rfl)) (fun _ _ => rfl)) rfl))) (pss_cons (ps_par3 (i := 4) (j := 5) (l := 6) rfl nd rfl rfl rfl (by decide) (by decide) (by decide) rfl rfl rfl (pa_cons (pe_ix ix_list (pe_fld (pv 0) rfl) (pe_ix ix_tup (pv 1) pe_int (fun _ _ => rfl)) (fun _ _ => rfl)) (pa_cons (pe_ix ix_tup (pv 1) pe_int (fun _ _ => rfl)) (pa_cons (pe_ix ix_tup (pv 1) pe_int (fun _ _ => rfl)) pa_nil))) (by rfl))
    (pss_cons (ps_par (i := 9) (j := 10) rfl nd rfl rfl (by decide) rfl rfl (pa_cons (pe_ix ix_list (pe_fld (pv 0) rfl) (pe_fld (pv 4) rfl) (fun _ _ => rfl)) (pa_cons (pe_lst pa_nil) pa_nil)) (by rfl))
    (pss_cons (ps_if (pt_cmpR o_ltI (pv 5) (pe_fld (pv 9) rfl) (nomark _)) (pss_cons (ps_set (i := 14) nd rfl (Or.inl rfl) (pe_tup (pa_cons (pe_fld (pv 4) rfl) (pa_cons (pv 5) (pa_cons (pv 6) pa_nil)))))
    (pss_cons (ps_asg (pe_dget hu (pe_fld (pv 0) rfl) (pv 14) (fun _ _ => rfl)) (pg_tup rfl (pgs_cons (pg_name (i := 5) nd rfl (Or.inl rfl)) (pgs_cons (pg_name (i := 6) nd rfl (Or.inl rfl)) (pgs_cons (pg_name (i := 15) nd rfl (Or.inl rfl)) pgs_nil)))))
    (pss_cons (ps_if (pt_cmpR o_ltI (pv 2) (pe_fld (pv 15) rfl) (nomark _)) (pss_cons (ps_set (i := 1) nd rfl (Or.inl rfl) (pv 14))
    (pss_one ps_continue)) pss_nil)
    (pss_cons (ps_set (i := 2) nd rfl (Or.inl rfl) (pe_op o_subI (pv 2) (pe_fld (pv 15) rfl)))
    (pss_one (ps_asg (pe_dget hu (pe_fld (pv 0) rfl) (pv 1) (fun _ _ => rfl)) (pg_tup rfl (pgs_cons (pg_name (i := 5) nd rfl (Or.inl rfl)) (pgs_cons (pg_name (i := 6) nd rfl (Or.inl rfl)) (pgs_cons (pg_name (i := 10) nd rfl (Or.inl rfl)) pgs_nil)))))))))) pss_nil)
    (pss_cons (ps_for PassesOwn.never rfl (pi_list (pv 10)) (pg_tup rfl (pgs_cons (pg_name (i := 11) nd rfl (Or.inl rfl)) (pgs_cons (pg_name (i := 12) nd rfl (Or.inl rfl)) (pgs_cons (pg_name (i := 13) nd rfl (Or.inl rfl)) pgs_nil)))) (pss_cons (ps_if (pt_cmpR o_ltI (pv 2) (pe_callB c_lenQ (by rfl) T.f_len (by decide +kernel) (pa_cons (pv 13) pa_nil)) (nomark _)) (pss_one (ps_ret (pe_tup (pa_cons (pe_op o_addI (pv 3) (pv 11)) (pa_cons (pe_ix ix_list (pv 13) (pv 2) (fun _ _ => rfl)) pa_nil))))) pss_nil)
    (pss_one (ps_set (i := 2) nd rfl (Or.inl rfl) (pe_op o_subI (pv 2) (pe_callB c_lenQ (by rfl) T.f_len (by decide +kernel) (pa_cons (pv 13) pa_nil)))))))
    (pss_one (ps_asg (pe_tup (pa_cons (pe_tup (pa_cons (pe_fld (pv 4) rfl) (pa_cons (pe_op o_subI (pv 5) (pe_fld (pv 9) rfl)) (pa_cons (pv 6) pa_nil)))) (pa_cons (pe_op o_addI (pv 3) (pe_fld (pv 9) rfl)) pa_nil))) (pg_tup rfl (pgs_cons (pg_name (i := 1) nd rfl (Or.inl rfl)) (pgs_cons (pg_name (i := 3) nd rfl (Or.inr rfl)) pgs_nil))))))))))
    (pss_cons (ps_par3 (i := 4) (j := 5) (l := 6) rfl nd rfl rfl rfl (by decide) (by decide) (by decide) rfl rfl rfl (pa_cons (pe_ix ix_list (pe_fld (pv 0) rfl) (pe_ix ix_tup (pv 1) pe_int (fun _ _ => rfl)) (fun _ _ => rfl)) (pa_cons (pe_ix ix_tup (pv 1) pe_int (fun _ _ => rfl)) (pa_cons (pe_ix ix_tup (pv 1) pe_int (fun _ _ => rfl)) pa_nil))) (by rfl))
    (pss_cons (ps_set (i := 7) nd rfl (Or.inl rfl) (pe_ix ix_tup (pe_meth (pv 0) T.c_Walk T.me_Walk_turns G_Walk_turns (hr.mono (by first | decide | omega)) T.b_Walk_turns .nil pass0 (pa_cons (pe_slice sl_str (pe_fld (pv 4) rfl) (po_some (pv 5)) po_none) (pa_cons (pv 5) (pa_cons (pv 6) (pa_cons (pv 5) (pa_cons (pe_fld (pv 4) rfl) pa_nil)))))) pe_int (fun _ _ => rfl)))
    (pss_cons (ps_setLc2 (i := 8) (own := [("begin", 11), ("cost", 12), ("numbers", 13), ("number", 16)]) (vs1 := [16]) rfl nd rfl rfl (sw_true rfl rfl rfl (by decide +kernel)) (pi_list (pv 7)) (blkOk_by (own := [("begin", 11), ("cost", 12), ("numbers", 13), ("number", 16)]) (N := N_Walk_told_in) (sc := defScope s_Walk_told_in) (by decide +kernel)) (by decide) (fun _ _ _ _ _ => pg_tup rfl (pgs_cons (pg_name (i := 11) nd rfl (Or.inl rfl)) (pgs_cons (pg_name (i := 12) nd rfl (Or.inl rfl)) (pgs_cons (pg_name (i := 13) nd rfl (Or.inl rfl)) pgs_nil)))) (fun _ _ _ _ _ => pts_nil) (fun _ _ _ _ _ => pi_list (pv 13)) (fun _ _ _ _ _ => pg_name (i := 16) nd rfl (Or.inl rfl)) (fun _ _ _ _ _ => pts_nil) (fun _ _ _ _ _ => pe_tup (pa_cons (pe_op o_addI (pv 3) (pv 11)) (pa_cons (pv 16) pa_nil))))
    (pss_one (ps_ret (pe_ix ix_list (pv 8) (pv 2) (fun _ _ => rfl)))))))))
theorem mk_Walk_told_in {P : Program} {w : World} {K : PySem.W.Frag} {mg : Str → Option Value} {base : Heap} {sp_Walk_turns : Sp} {sp : Sp} (T : Tx K mg) (G_Walk_turns : FnOk P w K mg base CX0 4 (f_Walk_turns K) (fd_Walk_turns K) ps_Walk_turns sp_Walk_turns)
    (len : ∀ vs H Q E, sp vs H Q E → vs.length = ps_Walk_told_in.length) (rd : ∀ vs H Q E, sp vs H Q E → t_Walk_told_in K sp_Walk_turns { nx := fun _ H' => Q .non H', rt := Q } (start N_Walk_told_in vs) H) :
    FnOk P w K mg base CX0 5 (f_Walk_told_in K) (fd_Walk_told_in K) ps_Walk_told_in sp :=
  FunD.ok T.F_Walk_told_in sc_Walk_told_in len fun cdv A outer s H vs Q E hr hsp => ⟨_, PSs.nox (dv_Walk_told_in (E := E) T hr G_Walk_turns), rd vs H Q E hsp⟩
theorem dv_Far_init {P : Program} {w : World} {K : PySem.W.Frag} {mg : Str → Option Value} {base : Heap} {f : Addr} {cdv : Value} {A : Around} {outer : List Env} {s : Shared} {H : Hp} {E : XK} {sp_Sums_plus : Sp} {sp_Walk_summed : Sp} (T : Tx K mg)
    (hr : Room 3 (A.deeper (envOfC "Far.__init__" (defScope s_Far_init) s.heap.objs.size f cdv)))
    (G_Sums_plus : FnOk P w K mg base CX0 3 (f_Sums_plus K) (fd_Sums_plus K) ps_Sums_plus sp_Sums_plus)
    (G_Walk_summed : FnOk P w K mg base CX0 3 (f_Walk_summed K) (fd_Walk_summed K) ps_Walk_summed sp_Walk_summed) :
    PSs (cxOf CX0 P w K mg base N_Far_init "Far.__init__" (defScope s_Far_init) f cdv A outer s H E).nox (defBody s_Far_init) (t_Far_init K sp_Sums_plus sp_Walk_summed) := by
  have hu := hu_of hr
  have nd := sc_Far_init.nd
  exact (pss_cons (ps_set (i := 4) nd rfl (Or.inl rfl) (pe_meth (pe_ix ix_tup (pe_dget hu (pe_fld (pv 1) rfl) (pe_tup (pa_cons (pv 2) (pa_cons pe_int (pa_cons pe_int pa_nil)))) (fun _ _ => rfl)) pe_int (fun _ _ => rfl)) T.c_Sums T.me_Sums_plus G_Sums_plus (hr.mono (by first | decide | omega)) T.b_Sums_plus .nil pass0 (pa_cons (pe_meth (pv 1) T.c_Walk T.me_Walk_summed G_Walk_summed (hr.mono (by first | decide | omega)) T.b_Walk_summed .nil pass0 (pa_cons (pv 3) pa_nil)) pa_nil)))
    (pss_cons (ps_fld (pv 0) (pe_fld (pv 4) rfl) rfl)
    (pss_cons (ps_fld (pv 0) (pe_fld (pv 4) rfl) rfl)
    (pss_cons (ps_fld (pv 0) (pe_fld (pv 4) rfl) rfl)
    (pss_cons (ps_fld (pv 0) (pv 1) rfl)
    (pss_cons (ps_fld (pv 0) (pv 2) rfl)
    (pss_one (ps_fld (pv 0) (pe_lc2 (own := [("place", 5), ("cost", 6), ("numbers", 7), ("number", 8)]) (vs1 := [8]) rfl nd (pi_list (pv 3)) (blkOk_by (own := [("place", 5), ("cost", 6), ("numbers", 7), ("number", 8)]) (N := N_Far_init) (sc := defScope s_Far_init) (by decide +kernel)) (by decide) (fun _ _ _ _ _ => pg_tup rfl (pgs_cons (pg_name (i := 5) nd rfl (Or.inl rfl)) (pgs_cons (pg_name (i := 6) nd rfl (Or.inl rfl)) (pgs_cons (pg_name (i := 7) nd rfl (Or.inl rfl)) pgs_nil)))) (fun _ _ _ _ _ => pts_nil) (fun _ _ _ _ _ => pi_list (pv 7)) (fun _ _ _ _ _ => pg_name (i := 8) nd rfl (Or.inl rfl)) (fun _ _ _ _ _ => pts_nil) (fun _ _ _ _ _ => pe_tup (pa_cons (pv 5) (pa_cons (pv 8) pa_nil)))) rfl))))))))
theorem mk_Far_init {P : Program} {w : World} {K : PySem.W.Frag} {mg : Str → Option Value} {base : Heap} {sp_Sums_plus : Sp} {sp_Walk_summed : Sp} {sp : Sp} (T : Tx K mg) (G_Sums_plus : FnOk P w K mg base CX0 3 (f_Sums_plus K) (fd_Sums_plus K) ps_Sums_plus sp_Sums_plus) (G_Walk_summed : FnOk P w K mg base CX0 3 (f_Walk_summed K) (fd_Walk_summed K) ps_Walk_summed sp_Walk_summed)
    (len : ∀ vs H Q E, sp vs H Q E → vs.length = ps_Far_init.length) (rd : ∀ vs H Q E, sp vs H Q E → t_Far_init K sp_Sums_plus sp_Walk_summed { nx := fun _ H' => Q .non H', rt := Q } (start N_Far_init vs) H) :
    FnOk P w K mg base CX0 4 (f_Far_init K) (fd_Far_init K) ps_Far_init sp :=
  FunD.ok T.F_Far_init sc_Far_init len fun cdv A outer s H vs Q E hr hsp => ⟨_, PSs.nox (dv_Far_init (E := E) T hr G_Sums_plus G_Walk_summed), rd vs H Q E hsp⟩
theorem dv_Far_told_at {P : Program} {w : World} {K : PySem.W.Frag} {mg : Str → Option Value} {base : Heap} {f : Addr} {cdv : Value} {A : Around} {outer : List Env} {s : Shared} {H : Hp} {E : XK} {sp_Walk_told_in : Sp} (T : Tx K mg)
    (hr : Room 5 (A.deeper (envOfC "Far.told_at" (defScope s_Far_told_at) s.heap.objs.size f cdv)))
    (G_Walk_told_in : FnOk P w K mg base CX0 5 (f_Walk_told_in K) (fd_Walk_told_in K) ps_Walk_told_in sp_Walk_told_in) :
    PSs (cxOf CX0 P w K mg base N_Far_told_at "Far.told_at" (defScope s_Far_told_at) f cdv A outer s H E).nox (defBody s_Far_told_at) (t_Far_told_at K sp_Walk_told_in) := by
  have hu := hu_of hr
  have nd := sc_Far_told_at.nd
  exact (pss_cons (ps_if (PW.pt (pw_or (pt_not (pt_val (pe_callB call_isi (by rfl) T.f_isinstance (by decide +kernel) (pa_cons (pv 1) (pa_cons (pe_bltn (v := .ty "int") (by rfl) T.f_int (by decide +kernel) rfl) pa_nil))))) (pw_or (pt_val (pe_callB call_isi (by rfl) T.f_isinstance (by decide +kernel) (pa_cons (pv 1) (pa_cons (pe_bltn (v := .ty "bool") (by rfl) T.f_bool (by decide +kernel) rfl) pa_nil)))) (pw_or1 (pt_not (pt_chain o_leI o_ltI pe_int (pv 1) (pe_fld (pv 0) rfl))))))) (pss_one ps_never) pss_nil)
    (pss_cons (ps_set (i := 2) nd rfl (Or.inl rfl) (pe_op o_subI (pe_fld (pv 0) rfl) (pe_callB c_lenQ (by rfl) T.f_len (by decide +kernel) (pa_cons (pe_fld (pv 0) rfl) pa_nil))))
    (pss_cons (ps_if (pt_cmpR o_geI (pv 1) (pv 2) (nomark _)) (pss_one (ps_ret (pe_ix ix_list (pe_fld (pv 0) rfl) (pe_op o_subI (pv 1) (pv 2)) (fun _ _ => rfl)))) pss_nil)
    (pss_one (ps_ret (pe_meth (pe_fld (pv 0) rfl) T.c_Walk T.me_Walk_told_in G_Walk_told_in (hr.mono (by first | decide | omega)) T.b_Walk_told_in .nil pass0 (pa_cons (pe_tup (pa_cons (pe_fld (pv 0) rfl) (pa_cons pe_int (pa_cons pe_int pa_nil)))) (pa_cons (pv 1) pa_nil))))))))
theorem mk_Far_told_at {P : Program} {w : World} {K : PySem.W.Frag} {mg : Str → Option Value} {base : Heap} {sp_Walk_told_in : Sp} {sp : Sp} (T : Tx K mg) (G_Walk_told_in : FnOk P w K mg base CX0 5 (f_Walk_told_in K) (fd_Walk_told_in K) ps_Walk_told_in sp_Walk_told_in)
    (len : ∀ vs H Q E, sp vs H Q E → vs.length = ps_Far_told_at.length) (rd : ∀ vs H Q E, sp vs H Q E → t_Far_told_at K sp_Walk_told_in { nx := fun _ H' => Q .non H', rt := Q } (start N_Far_told_at vs) H) :
    FnOk P w K mg base CX0 6 (f_Far_told_at K) (fd_Far_told_at K) ps_Far_told_at sp :=
  FunD.ok T.F_Far_told_at sc_Far_told_at len fun cdv A outer s H vs Q E hr hsp => ⟨_, PSs.nox (dv_Far_told_at (E := E) T hr G_Walk_told_in), rd vs H Q E hsp⟩
theorem dv_Searcher_init {P : Program} {w : World} {K : PySem.W.Frag} {mg : Str → Option Value} {base : Heap} {f : Addr} {cdv : Value} {A : Around} {outer : List Env} {s : Shared} {H : Hp} {E : XK} {sp_check_letters : Sp} {sp_is_number : Sp} {sp_checked : Sp} {sp_kept : Sp} (T : Tx K mg)
    (hr : Room 48 (A.deeper (envOfC "Searcher.__init__" (defScope s_Searcher_init) s.heap.objs.size f cdv)))
    (G_check_letters : FnOk P w K mg base CX0 1 (f_check_letters K) (fd_check_letters K) ps_check_letters sp_check_letters)
    (G_is_number : FnOk P w K mg base CX0 1 (f_is_number K) (fd_is_number K) ps_is_number sp_is_number)
    (G_checked : FnOk P w K mg base CX0 48 (f_checked K) (fd_checked K) ps_checked sp_checked)
    (G_kept : FnOk P w K mg base CX0 46 (f_kept K) (fd_kept K) ps_kept sp_kept) :
    PSs (cxOf CX0 P w K mg base N_Searcher_init "Searcher.__init__" (defScope s_Searcher_init) f cdv A outer s H E).nox (defBody s_Searcher_init) (t_Searcher_init K sp_check_letters sp_is_number sp_checked sp_kept) := by
  have hu := hu_of hr
  have nd := sc_Searcher_init.nd
  exact (pss_cons (ps_expr (pe_call G_check_letters (hr.mono (by first | decide | omega)) rfl T.g_check_letters T.k_check_letters T.b_check_letters .nil pass0 (pa_cons (pv 1) pa_nil)))
    (pss_cons (ps_if (pt_not (pt_val (pe_call G_is_number (hr.mono (by first | decide | omega)) rfl T.g_is_number T.k_is_number T.b_is_number .nil pass0 (pa_cons (pv 2) (pa_cons pe_int (pa_cons (pe_glob rfl T.i_MOST_WIDTH ⟨T.tk_MOST_WIDTH, rfl⟩) pa_nil)))))) (pss_one ps_never) pss_nil)
    (pss_cons (ps_if (pt_not (pt_chain o_leI o_leI pe_int (pe_callB c_lenQ (by rfl) T.f_len (by decide +kernel) (pa_cons (pv 3) pa_nil)) (pe_glob rfl T.i_MOST_STATES ⟨T.tk_MOST_STATES, rfl⟩))) (pss_one ps_never) pss_nil)
    (pss_cons (ps_set (i := 4) nd rfl (Or.inl rfl) pe_int)
    (pss_cons (ps_for PassesOwn.never rfl (pi_enum rfl T.f_enumerate (pa_cons (pv 3) pa_nil)) (pg_tup rfl (pgs_cons (pg_name (i := 5) nd rfl (Or.inl rfl)) (pgs_cons (pg_name (i := 6) nd rfl (Or.inl rfl)) pgs_nil))) (pss_cons (ps_asg (pe_call G_checked (hr.mono (by first | decide | omega)) rfl T.g_checked T.k_checked T.b_checked .nil pass0 (pa_cons (pv 6) (pa_cons (pe_callB c_lenS (by rfl) T.f_len (by decide +kernel) (pa_cons (pv 1) pa_nil)) (pa_cons (pv 2) (pa_cons (pe_callB c_lenQ (by rfl) T.f_len (by decide +kernel) (pa_cons (pv 3) pa_nil)) (pa_cons pe_int (pa_cons pe_int pa_nil))))))) (pg_tup rfl (pgs_cons (pg_name (i := 7) nd rfl (Or.inl rfl)) (pgs_cons (pg_name (i := 8) nd rfl (Or.inl rfl)) pgs_nil))))
    (pss_cons (ps_if (pt_val (pv 7)) (pss_one ps_never) pss_nil)
    (pss_one (ps_set (i := 4) nd rfl (Or.inl rfl) (pe_op o_addI (pv 4) (pv 8)))))))
    (pss_cons (ps_if (pt_cmpR o_gtI (pv 4) (pe_glob rfl T.i_MOST_NODES ⟨T.tk_MOST_NODES, rfl⟩) (nomark _)) (pss_one ps_never) pss_nil)
    (pss_cons (ps_fld (pv 0) (pv 1) rfl)
    (pss_cons (ps_fld (pv 0) (pv 2) rfl)
    (pss_cons (ps_fld (pv 0) (pe_callTy c_tupL (by rfl) T.f_tuple (by decide +kernel) (pa_cons (pe_lc (own := [("tree", 6)]) rfl nd (pi_list (pv 3)) (blkOk_by (own := [("tree", 6)]) (N := N_Searcher_init) (sc := defScope s_Searcher_init) (by decide +kernel)) (fun _ _ _ _ _ => pg_name (i := 6) nd rfl (Or.inl rfl)) (fun _ _ _ _ _ => pts_nil) (fun _ _ _ _ _ => pe_call G_kept (hr.mono (by first | decide | omega)) rfl T.g_kept T.k_kept T.b_kept .nil pass0 (pa_cons (pv 6) pa_nil))) pa_nil)) rfl)
    (pss_one (ps_fld (pv 0) (pv 4) rfl)))))))))))
theorem mk_Searcher_init {P : Program} {w : World} {K : PySem.W.Frag} {mg : Str → Option Value} {base : Heap} {sp_check_letters : Sp} {sp_is_number : Sp} {sp_checked : Sp} {sp_kept : Sp} {sp : Sp} (T : Tx K mg) (G_check_letters : FnOk P w K mg base CX0 1 (f_check_letters K) (fd_check_letters K) ps_check_letters sp_check_letters) (G_is_number : FnOk P w K mg base CX0 1 (f_is_number K) (fd_is_number K) ps_is_number sp_is_number) (G_checked : FnOk P w K mg base CX0 48 (f_checked K) (fd_checked K) ps_checked sp_checked) (G_kept : FnOk P w K mg base CX0 46 (f_kept K) (fd_kept K) ps_kept sp_kept)
    (len : ∀ vs H Q E, sp vs H Q E → vs.length = ps_Searcher_init.length) (rd : ∀ vs H Q E, sp vs H Q E → t_Searcher_init K sp_check_letters sp_is_number sp_checked sp_kept { nx := fun _ H' => Q .non H', rt := Q } (start N_Searcher_init vs) H) :
    FnOk P w K mg base CX0 49 (f_Searcher_init K) (fd_Searcher_init K) ps_Searcher_init sp :=
  FunD.ok T.F_Searcher_init sc_Searcher_init len fun cdv A outer s H vs Q E hr hsp => ⟨_, PSs.nox (dv_Searcher_init (E := E) T hr G_check_letters G_is_number G_checked G_kept), rd vs H Q E hsp⟩
end Wk
namespace Wk
open PySem PySem.Spec PyProof.Rows L2
theorem mkTx {K : PySem.W.Frag} {h : Heap} {mg : Str → Option Value} (X : K.In h) (G : h.Ns mainGlobals mg) (c : He.SaysD fa fn K) (e : ex K = true) : Nonempty (Tx K mg) := by
  obtain ⟨fd_0, F_0⟩ := c.def_ 0 (d := d_check_letters) (by rfl)
  obtain ⟨fd_1, F_1⟩ := c.def_ 1 (d := d_is_word) (by rfl)
  obtain ⟨fd_2, F_2⟩ := c.def_ 2 (d := d_check_words) (by rfl)
  obtain ⟨fd_3, F_3⟩ := c.def_ 3 (d := d_check_text) (by rfl)
  obtain ⟨fd_4, F_4⟩ := c.def_ 4 (d := d_trace) (by rfl)
  obtain ⟨fd_5, F_5⟩ := c.def_ 5 (d := d_is_name) (by rfl)
  obtain ⟨fd_6, F_6⟩ := c.def_ 6 (d := d_is_count) (by rfl)
  obtain ⟨fd_7, F_7⟩ := c.def_ 7 (d := d_is_part) (by rfl)
  obtain ⟨fd_8, F_8⟩ := c.def_ 8 (d := d_is_rule) (by rfl)
  obtain ⟨fd_9, F_9⟩ := c.def_ 9 (d := d_check_rules) (by rfl)
  obtain ⟨fd_10, F_10⟩ := c.def_ 10 (d := d_names_in) (by rfl)
  obtain ⟨fd_11, F_11⟩ := c.def_ 11 (d := d_ordered) (by rfl)
  obtain ⟨fd_12, F_12⟩ := c.def_ 12 (d := d_far) (by rfl)
  obtain ⟨fd_13, F_13⟩ := c.def_ 13 (d := d_is_number) (by rfl)
  obtain ⟨fd_14, F_14⟩ := c.def_ 14 (d := d_is_head) (by rfl)
  obtain ⟨fd_15, F_15⟩ := c.def_ 15 (d := d_within) (by rfl)
  obtain ⟨fd_16, F_16⟩ := c.def_ 16 (d := d_checked) (by rfl)
  obtain ⟨fd_17, F_17⟩ := c.def_ 17 (d := d_kept) (by rfl)
  obtain ⟨fd_18, F_18⟩ := c.def_ 18 (d := d_borders_of) (by rfl)
  obtain ⟨fd_19, F_19⟩ := c.def_ 19 (d := d_steps_down) (by rfl)
  obtain ⟨fd_20, F_20⟩ := c.def_ 20 (d := d_last_of) (by rfl)
  obtain ⟨fd_21, F_21⟩ := c.def_ 21 (d := d_compared) (by rfl)
  obtain ⟨fd_22, F_22⟩ := c.def_ 22 (d := d_left_step) (by rfl)
  obtain ⟨fd_23, F_23⟩ := c.def_ 23 (d := d_from_left) (by rfl)
  obtain ⟨fd_24, F_24⟩ := c.def_ 24 (d := d_by_one_letter) (by rfl)
  obtain ⟨fd_25, F_25⟩ := c.def_ 25 (d := d_is_good_slide) (by rfl)
  obtain ⟨fd_26, F_26⟩ := c.def_ 26 (d := d_right_slide) (by rfl)
  obtain ⟨fd_27, F_27⟩ := c.def_ 27 (d := d_from_right) (by rfl)
  obtain ⟨fd_28, F_28⟩ := c.def_ 28 (d := d_made) (by rfl)
  obtain ⟨fd_29, F_29⟩ := c.def_ 29 (d := d_law_pen) (by rfl)
  obtain ⟨fd_30, F_30⟩ := c.def_ 30 (d := d_law_draw) (by rfl)
  obtain ⟨fd_31, F_31⟩ := c.def_ 31 (d := d_law_pick) (by rfl)
  obtain ⟨fd_32, F_32⟩ := c.def_ 32 (d := d_law_letters) (by rfl)
  obtain ⟨fd_33, F_33⟩ := c.def_ 33 (d := d_law_word) (by rfl)
  obtain ⟨fd_34, F_34⟩ := c.def_ 34 (d := d_law_ways) (by rfl)
  obtain ⟨fd_35, F_35⟩ := c.def_ 35 (d := d_law_bent_tree) (by rfl)
  obtain ⟨fd_36, F_36⟩ := c.def_ 36 (d := d_law_bent) (by rfl)
  obtain ⟨fd_37, F_37⟩ := c.def_ 37 (d := d_law_rules) (by rfl)
  obtain ⟨fd_38, F_38⟩ := c.def_ 38 (d := d_law) (by rfl)
  obtain ⟨fd_39, F_39⟩ := c.def_ 39 (d := d_WindowTurn_init) (by rfl)
  obtain ⟨fd_40, F_40⟩ := c.def_ 40 (d := d_WindowTurn_does) (by rfl)
  obtain ⟨fd_41, F_41⟩ := c.def_ 41 (d := d_Trace_init) (by rfl)
  obtain ⟨fd_42, F_42⟩ := c.def_ 42 (d := d_Node_init) (by rfl)
  obtain ⟨fd_43, F_43⟩ := c.def_ 43 (d := d_Nodes_init) (by rfl)
  obtain ⟨fd_44, F_44⟩ := c.def_ 44 (d := d_Nodes_leaf) (by rfl)
  obtain ⟨fd_45, F_45⟩ := c.def_ 45 (d := d_Nodes_pair) (by rfl)
  obtain ⟨fd_46, F_46⟩ := c.def_ 46 (d := d_Nodes_often) (by rfl)
  obtain ⟨fd_47, F_47⟩ := c.def_ 47 (d := d_Weave_init) (by rfl)
  obtain ⟨fd_48, F_48⟩ := c.def_ 48 (d := d_Weave_woven) (by rfl)
  obtain ⟨fd_49, F_49⟩ := c.def_ 49 (d := d_Weave_letter) (by rfl)
  obtain ⟨fd_50, F_50⟩ := c.def_ 50 (d := d_Weave_part) (by rfl)
  obtain ⟨fd_51, F_51⟩ := c.def_ 51 (d := d_Sums_init) (by rfl)
  obtain ⟨fd_52, F_52⟩ := c.def_ 52 (d := d_Sums_plus) (by rfl)
  obtain ⟨fd_53, F_53⟩ := c.def_ 53 (d := d_Walk_init) (by rfl)
  obtain ⟨fd_54, F_54⟩ := c.def_ 54 (d := d_Walk_turns) (by rfl)
  obtain ⟨fd_55, F_55⟩ := c.def_ 55 (d := d_Walk_summed) (by rfl)
  obtain ⟨fd_56, F_56⟩ := c.def_ 56 (d := d_Walk_solved) (by rfl)
  obtain ⟨fd_57, F_57⟩ := c.def_ 57 (d := d_Walk_lacking) (by rfl)
  obtain ⟨fd_58, F_58⟩ := c.def_ 58 (d := d_Walk_crossed) (by rfl)
  obtain ⟨fd_59, F_59⟩ := c.def_ 59 (d := d_Walk_one_seam) (by rfl)
  obtain ⟨fd_60, F_60⟩ := c.def_ 60 (d := d_Walk_told_in) (by rfl)
  obtain ⟨fd_61, F_61⟩ := c.def_ 61 (d := d_Far_init) (by rfl)
  obtain ⟨fd_62, F_62⟩ := c.def_ 62 (d := d_Far_told_at) (by rfl)
  obtain ⟨fd_63, F_63⟩ := c.def_ 63 (d := d_Searcher_init) (by rfl)
  obtain ⟨ti_MOST_WIDTH, hi_MOST_WIDTH⟩ := He.int_ok X G (c.fact 65 (f := .int "MOST_WIDTH" 8) (by rfl))
  obtain ⟨ti_MOST_WORDS, hi_MOST_WORDS⟩ := He.int_ok X G (c.fact 66 (f := .int "MOST_WORDS" 3) (by rfl))
  obtain ⟨ti_MOST_LETTERS, hi_MOST_LETTERS⟩ := He.int_ok X G (c.fact 67 (f := .int "MOST_LETTERS" 5000) (by rfl))
  obtain ⟨ti_MOST_RULES, hi_MOST_RULES⟩ := He.int_ok X G (c.fact 68 (f := .int "MOST_RULES" 40) (by rfl))
  obtain ⟨ti_MOST_PARTS, hi_MOST_PARTS⟩ := He.int_ok X G (c.fact 69 (f := .int "MOST_PARTS" 8) (by rfl))
  obtain ⟨ti_MOST_NAME, hi_MOST_NAME⟩ := He.int_ok X G (c.fact 70 (f := .int "MOST_NAME" 8) (by rfl))
  obtain ⟨ti_MOST_SIGNS, hi_MOST_SIGNS⟩ := He.int_ok X G (c.fact 71 (f := .int "MOST_SIGNS" 60) (by rfl))
  obtain ⟨ti_MOST_COUNT, hi_MOST_COUNT⟩ := He.int_ok X G (c.fact 72 (f := .int "MOST_COUNT" 1000000000000000000000000000000) (by rfl))
  obtain ⟨ti_MOST_CUT, hi_MOST_CUT⟩ := He.int_ok X G (c.fact 73 (f := .int "MOST_CUT" 2000) (by rfl))
  obtain ⟨ti_MOST_STATES, hi_MOST_STATES⟩ := He.int_ok X G (c.fact 74 (f := .int "MOST_STATES" 64) (by rfl))
  obtain ⟨ti_MOST_LEVELS, hi_MOST_LEVELS⟩ := He.int_ok X G (c.fact 75 (f := .int "MOST_LEVELS" 40) (by rfl))
  obtain ⟨ti_MOST_NODES, hi_MOST_NODES⟩ := He.int_ok X G (c.fact 76 (f := .int "MOST_NODES" 3000) (by rfl))
  obtain ⟨ti_MOST_TOLD, hi_MOST_TOLD⟩ := He.int_ok X G (c.fact 77 (f := .int "MOST_TOLD" 3) (by rfl))
  obtain ⟨ti_SMALL, hi_SMALL⟩ := He.str_ok X G (c.fact 78 (f := .str "SMALL" "abcdefghijklmnopqrstuvwxyz") (by rfl))
  obtain ⟨ti_CAPITALS, hi_CAPITALS⟩ := He.str_ok X G (c.fact 79 (f := .str "CAPITALS" "ABCDEFGHIJKLMNOPQRSTUVWXYZ") (by rfl))
  obtain ⟨ti_ALL_KNOWN, hi_ALL_KNOWN⟩ := He.str_ok X G (c.fact 80 (f := .str "ALL_KNOWN" "all knowledge") (by rfl))
  obtain ⟨e12, e3⟩ := He.ba e
  obtain ⟨e1, e2⟩ := He.ba e12
  have Q_0 : FunD K "check_letters" "check_letters" (defArgs s_check_letters) (defBody s_check_letters) (defScope s_check_letters) [] [] (f_check_letters K) (fd_check_letters K) := by
    have F0 : FunD K "check_letters" "check_letters" (defArgs s_check_letters) (defBody s_check_letters) (defScope s_check_letters) [] [] (f_check_letters K) fd_0 := F_0
    rw [show fd_check_letters K = fd_0 from fdOf_eq F0]
    exact F0
  have B_0 : Binds K (fd_check_letters K) ps_check_letters [] := Q_0.bindsN fun _ _ _ _ _ _ us hl => match us, hl with | [_], _ => rfl
  have Q_1 : FunD K "is_word" "is_word" (defArgs s_is_word) (defBody s_is_word) (defScope s_is_word) [] [] (f_is_word K) (fd_is_word K) := by
    have F0 : FunD K "is_word" "is_word" (defArgs s_is_word) (defBody s_is_word) (defScope s_is_word) [] [] (f_is_word K) fd_1 := F_1
    rw [show fd_is_word K = fd_1 from fdOf_eq F0]
    exact F0
  have B_1 : Binds K (fd_is_word K) ps_is_word [] := Q_1.bindsN fun _ _ _ _ _ _ us hl => match us, hl with | [_, _], _ => rfl
  have Q_2 : FunD K "check_words" "check_words" (defArgs s_check_words) (defBody s_check_words) (defScope s_check_words) [] [] (f_check_words K) (fd_check_words K) := by
    have F0 : FunD K "check_words" "check_words" (defArgs s_check_words) (defBody s_check_words) (defScope s_check_words) [] [] (f_check_words K) fd_2 := F_2
    rw [show fd_check_words K = fd_2 from fdOf_eq F0]
    exact F0
  have B_2 : Binds K (fd_check_words K) ps_check_words [] := Q_2.bindsN fun _ _ _ _ _ _ us hl => match us, hl with | [_, _], _ => rfl
  have Q_3 : FunD K "check_text" "check_text" (defArgs s_check_text) (defBody s_check_text) (defScope s_check_text) [] [] (f_check_text K) (fd_check_text K) := by
    have F0 : FunD K "check_text" "check_text" (defArgs s_check_text) (defBody s_check_text) (defScope s_check_text) [] [] (f_check_text K) fd_3 := F_3
    rw [show fd_check_text K = fd_3 from fdOf_eq F0]
    exact F0
  have B_3 : Binds K (fd_check_text K) ps_check_text [] := Q_3.bindsN fun _ _ _ _ _ _ us hl => match us, hl with | [_, _], _ => rfl
  have Q_4 : FunD K "trace" "trace" (defArgs s_trace) (defBody s_trace) (defScope s_trace) [] [] (f_trace K) (fd_trace K) := by
    have F0 : FunD K "trace" "trace" (defArgs s_trace) (defBody s_trace) (defScope s_trace) [] [] (f_trace K) fd_4 := F_4
    rw [show fd_trace K = fd_4 from fdOf_eq F0]
    exact F0
  have B_4 : Binds K (fd_trace K) ps_trace [] := Q_4.bindsN fun _ _ _ _ _ _ us hl => match us, hl with | [_, _], _ => rfl
  have Q_5 : FunD K "is_name" "is_name" (defArgs s_is_name) (defBody s_is_name) (defScope s_is_name) [] [] (f_is_name K) (fd_is_name K) := by
    have F0 : FunD K "is_name" "is_name" (defArgs s_is_name) (defBody s_is_name) (defScope s_is_name) [] [] (f_is_name K) fd_5 := F_5
    rw [show fd_is_name K = fd_5 from fdOf_eq F0]
    exact F0
  have B_5 : Binds K (fd_is_name K) ps_is_name [] := Q_5.bindsN fun _ _ _ _ _ _ us hl => match us, hl with | [_], _ => rfl
  have Q_6 : FunD K "is_count" "is_count" (defArgs s_is_count) (defBody s_is_count) (defScope s_is_count) [] [] (f_is_count K) (fd_is_count K) := by
    have F0 : FunD K "is_count" "is_count" (defArgs s_is_count) (defBody s_is_count) (defScope s_is_count) [] [] (f_is_count K) fd_6 := F_6
    rw [show fd_is_count K = fd_6 from fdOf_eq F0]
    exact F0
  have B_6 : Binds K (fd_is_count K) ps_is_count [] := Q_6.bindsN fun _ _ _ _ _ _ us hl => match us, hl with | [_], _ => rfl
  have Q_7 : FunD K "is_part" "is_part" (defArgs s_is_part) (defBody s_is_part) (defScope s_is_part) [] [] (f_is_part K) (fd_is_part K) := by
    have F0 : FunD K "is_part" "is_part" (defArgs s_is_part) (defBody s_is_part) (defScope s_is_part) [] [] (f_is_part K) fd_7 := F_7
    rw [show fd_is_part K = fd_7 from fdOf_eq F0]
    exact F0
  have B_7 : Binds K (fd_is_part K) ps_is_part [] := Q_7.bindsN fun _ _ _ _ _ _ us hl => match us, hl with | [_, _, _], _ => rfl
  have Q_8 : FunD K "is_rule" "is_rule" (defArgs s_is_rule) (defBody s_is_rule) (defScope s_is_rule) [] [] (f_is_rule K) (fd_is_rule K) := by
    have F0 : FunD K "is_rule" "is_rule" (defArgs s_is_rule) (defBody s_is_rule) (defScope s_is_rule) [] [] (f_is_rule K) fd_8 := F_8
    rw [show fd_is_rule K = fd_8 from fdOf_eq F0]
    exact F0
  have B_8 : Binds K (fd_is_rule K) ps_is_rule [] := Q_8.bindsN fun _ _ _ _ _ _ us hl => match us, hl with | [_, _, _], _ => rfl
  have Q_9 : FunD K "check_rules" "check_rules" (defArgs s_check_rules) (defBody s_check_rules) (defScope s_check_rules) [] [] (f_check_rules K) (fd_check_rules K) := by
    have F0 : FunD K "check_rules" "check_rules" (defArgs s_check_rules) (defBody s_check_rules) (defScope s_check_rules) [] [] (f_check_rules K) fd_9 := F_9
    rw [show fd_check_rules K = fd_9 from fdOf_eq F0]
    exact F0
  have B_9 : Binds K (fd_check_rules K) ps_check_rules [] := Q_9.bindsN fun _ _ _ _ _ _ us hl => match us, hl with | [_, _], _ => rfl
  have Q_10 : FunD K "names_in" "names_in" (defArgs s_names_in) (defBody s_names_in) (defScope s_names_in) [] [] (f_names_in K) (fd_names_in K) := by
    have F0 : FunD K "names_in" "names_in" (defArgs s_names_in) (defBody s_names_in) (defScope s_names_in) [] [] (f_names_in K) fd_10 := F_10
    rw [show fd_names_in K = fd_10 from fdOf_eq F0]
    exact F0
  have B_10 : Binds K (fd_names_in K) ps_names_in [] := Q_10.bindsN fun _ _ _ _ _ _ us hl => match us, hl with | [_, _], _ => rfl
  have Q_11 : FunD K "ordered" "ordered" (defArgs s_ordered) (defBody s_ordered) (defScope s_ordered) [] [] (f_ordered K) (fd_ordered K) := by
    have F0 : FunD K "ordered" "ordered" (defArgs s_ordered) (defBody s_ordered) (defScope s_ordered) [] [] (f_ordered K) fd_11 := F_11
    rw [show fd_ordered K = fd_11 from fdOf_eq F0]
    exact F0
  have B_11 : Binds K (fd_ordered K) ps_ordered [] := Q_11.bindsN fun _ _ _ _ _ _ us hl => match us, hl with | [_], _ => rfl
  have Q_12 : FunD K "far" "far" (defArgs s_far) (defBody s_far) (defScope s_far) [] [] (f_far K) (fd_far K) := by
    have F0 : FunD K "far" "far" (defArgs s_far) (defBody s_far) (defScope s_far) [] [] (f_far K) fd_12 := F_12
    rw [show fd_far K = fd_12 from fdOf_eq F0]
    exact F0
  have B_12 : Binds K (fd_far K) ps_far [] := Q_12.bindsN fun _ _ _ _ _ _ us hl => match us, hl with | [_, _], _ => rfl
  have Q_13 : FunD K "is_number" "is_number" (defArgs s_is_number) (defBody s_is_number) (defScope s_is_number) [] [] (f_is_number K) (fd_is_number K) := by
    have F0 : FunD K "is_number" "is_number" (defArgs s_is_number) (defBody s_is_number) (defScope s_is_number) [] [] (f_is_number K) fd_13 := F_13
    rw [show fd_is_number K = fd_13 from fdOf_eq F0]
    exact F0
  have B_13 : Binds K (fd_is_number K) ps_is_number [] := Q_13.bindsN fun _ _ _ _ _ _ us hl => match us, hl with | [_, _, _], _ => rfl
  have Q_14 : FunD K "is_head" "is_head" (defArgs s_is_head) (defBody s_is_head) (defScope s_is_head) [] [] (f_is_head K) (fd_is_head K) := by
    have F0 : FunD K "is_head" "is_head" (defArgs s_is_head) (defBody s_is_head) (defScope s_is_head) [] [] (f_is_head K) fd_14 := F_14
    rw [show fd_is_head K = fd_14 from fdOf_eq F0]
    exact F0
  have B_14 : Binds K (fd_is_head K) ps_is_head [] := Q_14.bindsN fun _ _ _ _ _ _ us hl => match us, hl with | [_, _, _, _], _ => rfl
  have Q_15 : FunD K "within" "within" (defArgs s_within) (defBody s_within) (defScope s_within) [] [] (f_within K) (fd_within K) := by
    have F0 : FunD K "within" "within" (defArgs s_within) (defBody s_within) (defScope s_within) [] [] (f_within K) fd_15 := F_15
    rw [show fd_within K = fd_15 from fdOf_eq F0]
    exact F0
  have B_15 : Binds K (fd_within K) ps_within [] := Q_15.bindsN fun _ _ _ _ _ _ us hl => match us, hl with | [_], _ => rfl
  have Q_16 : FunD K "checked" "checked" (defArgs s_checked) (defBody s_checked) (defScope s_checked) [] [] (f_checked K) (fd_checked K) := by
    have F0 : FunD K "checked" "checked" (defArgs s_checked) (defBody s_checked) (defScope s_checked) [] [] (f_checked K) fd_16 := F_16
    rw [show fd_checked K = fd_16 from fdOf_eq F0]
    exact F0
  have B_16 : Binds K (fd_checked K) ps_checked [] := Q_16.bindsN fun _ _ _ _ _ _ us hl => match us, hl with | [_, _, _, _, _, _], _ => rfl
  have Q_17 : FunD K "kept" "kept" (defArgs s_kept) (defBody s_kept) (defScope s_kept) [] [] (f_kept K) (fd_kept K) := by
    have F0 : FunD K "kept" "kept" (defArgs s_kept) (defBody s_kept) (defScope s_kept) [] [] (f_kept K) fd_17 := F_17
    rw [show fd_kept K = fd_17 from fdOf_eq F0]
    exact F0
  have B_17 : Binds K (fd_kept K) ps_kept [] := Q_17.bindsN fun _ _ _ _ _ _ us hl => match us, hl with | [_], _ => rfl
  have Q_18 : FunD K "borders_of" "borders_of" (defArgs s_borders_of) (defBody s_borders_of) (defScope s_borders_of) [] [] (f_borders_of K) (fd_borders_of K) := by
    have F0 : FunD K "borders_of" "borders_of" (defArgs s_borders_of) (defBody s_borders_of) (defScope s_borders_of) [] [] (f_borders_of K) fd_18 := F_18
    rw [show fd_borders_of K = fd_18 from fdOf_eq F0]
    exact F0
  have B_18 : Binds K (fd_borders_of K) ps_borders_of [] := Q_18.bindsN fun _ _ _ _ _ _ us hl => match us, hl with | [_], _ => rfl
  have Q_19 : FunD K "steps_down" "steps_down" (defArgs s_steps_down) (defBody s_steps_down) (defScope s_steps_down) [] [] (f_steps_down K) (fd_steps_down K) := by
    have F0 : FunD K "steps_down" "steps_down" (defArgs s_steps_down) (defBody s_steps_down) (defScope s_steps_down) [] [] (f_steps_down K) fd_19 := F_19
    rw [show fd_steps_down K = fd_19 from fdOf_eq F0]
    exact F0
  have B_19 : Binds K (fd_steps_down K) ps_steps_down [] := Q_19.bindsN fun _ _ _ _ _ _ us hl => match us, hl with | [_, _], _ => rfl
  have Q_20 : FunD K "last_of" "last_of" (defArgs s_last_of) (defBody s_last_of) (defScope s_last_of) [] [] (f_last_of K) (fd_last_of K) := by
    have F0 : FunD K "last_of" "last_of" (defArgs s_last_of) (defBody s_last_of) (defScope s_last_of) [] [] (f_last_of K) fd_20 := F_20
    rw [show fd_last_of K = fd_20 from fdOf_eq F0]
    exact F0
  have B_20 : Binds K (fd_last_of K) ps_last_of [] := Q_20.bindsN fun _ _ _ _ _ _ us hl => match us, hl with | [_, _, _], _ => rfl
  have Q_21 : FunD K "compared" "compared" (defArgs s_compared) (defBody s_compared) (defScope s_compared) [] [] (f_compared K) (fd_compared K) := by
    have F0 : FunD K "compared" "compared" (defArgs s_compared) (defBody s_compared) (defScope s_compared) [] [] (f_compared K) fd_21 := F_21
    rw [show fd_compared K = fd_21 from fdOf_eq F0]
    exact F0
  have B_21 : Binds K (fd_compared K) ps_compared [] := Q_21.bindsN fun _ _ _ _ _ _ us hl => match us, hl with | [_, _, _, _, _], _ => rfl
  have Q_22 : FunD K "left_step" "left_step" (defArgs s_left_step) (defBody s_left_step) (defScope s_left_step) [] [] (f_left_step K) (fd_left_step K) := by
    have F0 : FunD K "left_step" "left_step" (defArgs s_left_step) (defBody s_left_step) (defScope s_left_step) [] [] (f_left_step K) fd_22 := F_22
    rw [show fd_left_step K = fd_22 from fdOf_eq F0]
    exact F0
  have B_22 : Binds K (fd_left_step K) ps_left_step [] := Q_22.bindsN fun _ _ _ _ _ _ us hl => match us, hl with | [_, _, _, _, _], _ => rfl
  have Q_23 : FunD K "from_left" "from_left" (defArgs s_from_left) (defBody s_from_left) (defScope s_from_left) [] [] (f_from_left K) (fd_from_left K) := by
    have F0 : FunD K "from_left" "from_left" (defArgs s_from_left) (defBody s_from_left) (defScope s_from_left) [] [] (f_from_left K) fd_23 := F_23
    rw [show fd_from_left K = fd_23 from fdOf_eq F0]
    exact F0
  have B_23 : Binds K (fd_from_left K) ps_from_left [] := Q_23.bindsN fun _ _ _ _ _ _ us hl => match us, hl with | [_, _, _], _ => rfl
  have Q_24 : FunD K "by_one_letter" "by_one_letter" (defArgs s_by_one_letter) (defBody s_by_one_letter) (defScope s_by_one_letter) [] [] (f_by_one_letter K) (fd_by_one_letter K) := by
    have F0 : FunD K "by_one_letter" "by_one_letter" (defArgs s_by_one_letter) (defBody s_by_one_letter) (defScope s_by_one_letter) [] [] (f_by_one_letter K) fd_24 := F_24
    rw [show fd_by_one_letter K = fd_24 from fdOf_eq F0]
    exact F0
  have B_24 : Binds K (fd_by_one_letter K) ps_by_one_letter [] := Q_24.bindsN fun _ _ _ _ _ _ us hl => match us, hl with | [_, _, _], _ => rfl
  have Q_25 : FunD K "is_good_slide" "is_good_slide" (defArgs s_is_good_slide) (defBody s_is_good_slide) (defScope s_is_good_slide) [] [] (f_is_good_slide K) (fd_is_good_slide K) := by
    have F0 : FunD K "is_good_slide" "is_good_slide" (defArgs s_is_good_slide) (defBody s_is_good_slide) (defScope s_is_good_slide) [] [] (f_is_good_slide K) fd_25 := F_25
    rw [show fd_is_good_slide K = fd_25 from fdOf_eq F0]
    exact F0
  have B_25 : Binds K (fd_is_good_slide K) ps_is_good_slide [] := Q_25.bindsN fun _ _ _ _ _ _ us hl => match us, hl with | [_, _, _], _ => rfl
  have Q_26 : FunD K "right_slide" "right_slide" (defArgs s_right_slide) (defBody s_right_slide) (defScope s_right_slide) [] [] (f_right_slide K) (fd_right_slide K) := by
    have F0 : FunD K "right_slide" "right_slide" (defArgs s_right_slide) (defBody s_right_slide) (defScope s_right_slide) [] [] (f_right_slide K) fd_26 := F_26
    rw [show fd_right_slide K = fd_26 from fdOf_eq F0]
    exact F0
  have B_26 : Binds K (fd_right_slide K) ps_right_slide [] := Q_26.bindsN fun _ _ _ _ _ _ us hl => match us, hl with | [_, _, _, _], _ => rfl
  have Q_27 : FunD K "from_right" "from_right" (defArgs s_from_right) (defBody s_from_right) (defScope s_from_right) [] [] (f_from_right K) (fd_from_right K) := by
    have F0 : FunD K "from_right" "from_right" (defArgs s_from_right) (defBody s_from_right) (defScope s_from_right) [] [] (f_from_right K) fd_27 := F_27
    rw [show fd_from_right K = fd_27 from fdOf_eq F0]
    exact F0
  have B_27 : Binds K (fd_from_right K) ps_from_right [] := Q_27.bindsN fun _ _ _ _ _ _ us hl => match us, hl with | [_, _, _], _ => rfl
  have Q_28 : FunD K "made" "made" (defArgs s_made) (defBody s_made) (defScope s_made) [] [] (f_made K) (fd_made K) := by
    have F0 : FunD K "made" "made" (defArgs s_made) (defBody s_made) (defScope s_made) [] [] (f_made K) fd_28 := F_28
    rw [show fd_made K = fd_28 from fdOf_eq F0]
    exact F0
  have B_28 : Binds K (fd_made K) ps_made [] := Q_28.bindsN fun _ _ _ _ _ _ us hl => match us, hl with | [_, _, _], _ => rfl
  have Q_29 : FunD K "_law_pen" "_law_pen" (defArgs s_law_pen) (defBody s_law_pen) (defScope s_law_pen) [] [] (f_law_pen K) (fd_law_pen K) := by
    have F0 : FunD K "_law_pen" "_law_pen" (defArgs s_law_pen) (defBody s_law_pen) (defScope s_law_pen) [] [] (f_law_pen K) fd_29 := F_29
    rw [show fd_law_pen K = fd_29 from fdOf_eq F0]
    exact F0
  have B_29 : Binds K (fd_law_pen K) ps_law_pen [] := Q_29.bindsN fun _ _ _ _ _ _ us hl => match us, hl with | [_], _ => rfl
  have Q_30 : FunD K "_law_draw" "_law_draw" (defArgs s_law_draw) (defBody s_law_draw) (defScope s_law_draw) [] [] (f_law_draw K) (fd_law_draw K) := by
    have F0 : FunD K "_law_draw" "_law_draw" (defArgs s_law_draw) (defBody s_law_draw) (defScope s_law_draw) [] [] (f_law_draw K) fd_30 := F_30
    rw [show fd_law_draw K = fd_30 from fdOf_eq F0]
    exact F0
  have B_30 : Binds K (fd_law_draw K) ps_law_draw [] := Q_30.bindsN fun _ _ _ _ _ _ us hl => match us, hl with | [_, _], _ => rfl
  have Q_31 : FunD K "_law_pick" "_law_pick" (defArgs s_law_pick) (defBody s_law_pick) (defScope s_law_pick) [] [] (f_law_pick K) (fd_law_pick K) := by
    have F0 : FunD K "_law_pick" "_law_pick" (defArgs s_law_pick) (defBody s_law_pick) (defScope s_law_pick) [] [] (f_law_pick K) fd_31 := F_31
    rw [show fd_law_pick K = fd_31 from fdOf_eq F0]
    exact F0
  have B_31 : Binds K (fd_law_pick K) ps_law_pick [] := Q_31.bindsN fun _ _ _ _ _ _ us hl => match us, hl with | [_, _], _ => rfl
  have Q_32 : FunD K "_law_letters" "_law_letters" (defArgs s_law_letters) (defBody s_law_letters) (defScope s_law_letters) [] [] (f_law_letters K) (fd_law_letters K) := by
    have F0 : FunD K "_law_letters" "_law_letters" (defArgs s_law_letters) (defBody s_law_letters) (defScope s_law_letters) [] [] (f_law_letters K) fd_32 := F_32
    rw [show fd_law_letters K = fd_32 from fdOf_eq F0]
    exact F0
  have B_32 : Binds K (fd_law_letters K) ps_law_letters [] := Q_32.bindsN fun _ _ _ _ _ _ us hl => match us, hl with | [_, _], _ => rfl
  have Q_33 : FunD K "_law_word" "_law_word" (defArgs s_law_word) (defBody s_law_word) (defScope s_law_word) [] [] (f_law_word K) (fd_law_word K) := by
    have F0 : FunD K "_law_word" "_law_word" (defArgs s_law_word) (defBody s_law_word) (defScope s_law_word) [] [] (f_law_word K) fd_33 := F_33
    rw [show fd_law_word K = fd_33 from fdOf_eq F0]
    exact F0
  have B_33 : Binds K (fd_law_word K) ps_law_word [] := Q_33.bindsN fun _ _ _ _ _ _ us hl => match us, hl with | [_, _, _], _ => rfl
  have Q_34 : FunD K "_law_ways" "_law_ways" (defArgs s_law_ways) (defBody s_law_ways) (defScope s_law_ways) [] [] (f_law_ways K) (fd_law_ways K) := by
    have F0 : FunD K "_law_ways" "_law_ways" (defArgs s_law_ways) (defBody s_law_ways) (defScope s_law_ways) [] [] (f_law_ways K) fd_34 := F_34
    rw [show fd_law_ways K = fd_34 from fdOf_eq F0]
    exact F0
  have B_34 : Binds K (fd_law_ways K) ps_law_ways [] := Q_34.bindsN fun _ _ _ _ _ _ us hl => match us, hl with | [], _ => rfl
  have Q_35 : FunD K "_law_bent_tree" "_law_bent_tree" (defArgs s_law_bent_tree) (defBody s_law_bent_tree) (defScope s_law_bent_tree) [] [] (f_law_bent_tree K) (fd_law_bent_tree K) := by
    have F0 : FunD K "_law_bent_tree" "_law_bent_tree" (defArgs s_law_bent_tree) (defBody s_law_bent_tree) (defScope s_law_bent_tree) [] [] (f_law_bent_tree K) fd_35 := F_35
    rw [show fd_law_bent_tree K = fd_35 from fdOf_eq F0]
    exact F0
  have B_35 : Binds K (fd_law_bent_tree K) ps_law_bent_tree [] := Q_35.bindsN fun _ _ _ _ _ _ us hl => match us, hl with | [_, _, _, _], _ => rfl
  have Q_36 : FunD K "_law_bent" "_law_bent" (defArgs s_law_bent) (defBody s_law_bent) (defScope s_law_bent) [] [] (f_law_bent K) (fd_law_bent K) := by
    have F0 : FunD K "_law_bent" "_law_bent" (defArgs s_law_bent) (defBody s_law_bent) (defScope s_law_bent) [] [] (f_law_bent K) fd_36 := F_36
    rw [show fd_law_bent K = fd_36 from fdOf_eq F0]
    exact F0
  have B_36 : Binds K (fd_law_bent K) ps_law_bent [] := Q_36.bindsN fun _ _ _ _ _ _ us hl => match us, hl with | [_, _], _ => rfl
  have Q_37 : FunD K "_law_rules" "_law_rules" (defArgs s_law_rules) (defBody s_law_rules) (defScope s_law_rules) [] [] (f_law_rules K) (fd_law_rules K) := by
    have F0 : FunD K "_law_rules" "_law_rules" (defArgs s_law_rules) (defBody s_law_rules) (defScope s_law_rules) [] [] (f_law_rules K) fd_37 := F_37
    rw [show fd_law_rules K = fd_37 from fdOf_eq F0]
    exact F0
  have B_37 : Binds K (fd_law_rules K) ps_law_rules [] := Q_37.bindsN fun _ _ _ _ _ _ us hl => match us, hl with | [_, _], _ => rfl
  have Q_38 : FunD K "law" "law" (defArgs s_law) (defBody s_law) (defScope s_law) [] [] (f_law K) (fd_law K) := by
    have F0 : FunD K "law" "law" (defArgs s_law) (defBody s_law) (defScope s_law) [] [] (f_law K) fd_38 := F_38
    rw [show fd_law K = fd_38 from fdOf_eq F0]
    exact F0
  have B_38 : Binds K (fd_law K) ps_law [] := Q_38.bindsN fun _ _ _ _ _ _ us hl => match us, hl with | [_], _ => rfl
  have Q_39 : FunD K "__init__" "WindowTurn.__init__" (defArgs s_WindowTurn_init) (defBody s_WindowTurn_init) (defScope s_WindowTurn_init) [] [] (f_WindowTurn_init K) (fd_WindowTurn_init K) := by
    have F0 : FunD K "__init__" "WindowTurn.__init__" (defArgs s_WindowTurn_init) (defBody s_WindowTurn_init) (defScope s_WindowTurn_init) [] [] (f_WindowTurn_init K) fd_39 := F_39
    rw [show fd_WindowTurn_init K = fd_39 from fdOf_eq F0]
    exact F0
  have B_39 : Binds K (fd_WindowTurn_init K) ps_WindowTurn_init [] := Q_39.bindsN fun _ _ _ _ _ _ us hl => match us, hl with | [_, _, _, _], _ => rfl
  have Q_40 : FunD K "does" "WindowTurn.does" (defArgs s_WindowTurn_does) (defBody s_WindowTurn_does) (defScope s_WindowTurn_does) [] [] (f_WindowTurn_does K) (fd_WindowTurn_does K) := by
    have F0 : FunD K "does" "WindowTurn.does" (defArgs s_WindowTurn_does) (defBody s_WindowTurn_does) (defScope s_WindowTurn_does) [] [] (f_WindowTurn_does K) fd_40 := F_40
    rw [show fd_WindowTurn_does K = fd_40 from fdOf_eq F0]
    exact F0
  have B_40 : Binds K (fd_WindowTurn_does K) ps_WindowTurn_does [] := Q_40.bindsN fun _ _ _ _ _ _ us hl => match us, hl with | [_, _, _, _], _ => rfl
  have Q_41 : FunD K "__init__" "Trace.__init__" (defArgs s_Trace_init) (defBody s_Trace_init) (defScope s_Trace_init) [] [] (f_Trace_init K) (fd_Trace_init K) := by
    have F0 : FunD K "__init__" "Trace.__init__" (defArgs s_Trace_init) (defBody s_Trace_init) (defScope s_Trace_init) [] [] (f_Trace_init K) fd_41 := F_41
    rw [show fd_Trace_init K = fd_41 from fdOf_eq F0]
    exact F0
  have B_41 : Binds K (fd_Trace_init K) ps_Trace_init [] := Q_41.bindsN fun _ _ _ _ _ _ us hl => match us, hl with | [_, _, _], _ => rfl
  have Q_42 : FunD K "__init__" "Node.__init__" (defArgs s_Node_init) (defBody s_Node_init) (defScope s_Node_init) [] [] (f_Node_init K) (fd_Node_init K) := by
    have F0 : FunD K "__init__" "Node.__init__" (defArgs s_Node_init) (defBody s_Node_init) (defScope s_Node_init) [] [] (f_Node_init K) fd_42 := F_42
    rw [show fd_Node_init K = fd_42 from fdOf_eq F0]
    exact F0
  have B_42 : Binds K (fd_Node_init K) ps_Node_init [] := Q_42.bindsN fun _ _ _ _ _ _ us hl => match us, hl with | [_, _, _, _, _, _], _ => rfl
  have Q_43 : FunD K "__init__" "Nodes.__init__" (defArgs s_Nodes_init) (defBody s_Nodes_init) (defScope s_Nodes_init) [] [] (f_Nodes_init K) (fd_Nodes_init K) := by
    have F0 : FunD K "__init__" "Nodes.__init__" (defArgs s_Nodes_init) (defBody s_Nodes_init) (defScope s_Nodes_init) [] [] (f_Nodes_init K) fd_43 := F_43
    rw [show fd_Nodes_init K = fd_43 from fdOf_eq F0]
    exact F0
  have B_43 : Binds K (fd_Nodes_init K) ps_Nodes_init [] := Q_43.bindsN fun _ _ _ _ _ _ us hl => match us, hl with | [_, _], _ => rfl
  have Q_44 : FunD K "leaf" "Nodes.leaf" (defArgs s_Nodes_leaf) (defBody s_Nodes_leaf) (defScope s_Nodes_leaf) [] [] (f_Nodes_leaf K) (fd_Nodes_leaf K) := by
    have F0 : FunD K "leaf" "Nodes.leaf" (defArgs s_Nodes_leaf) (defBody s_Nodes_leaf) (defScope s_Nodes_leaf) [] [] (f_Nodes_leaf K) fd_44 := F_44
    rw [show fd_Nodes_leaf K = fd_44 from fdOf_eq F0]
    exact F0
  have B_44 : Binds K (fd_Nodes_leaf K) ps_Nodes_leaf [] := Q_44.bindsN fun _ _ _ _ _ _ us hl => match us, hl with | [_, _], _ => rfl
  have Q_45 : FunD K "pair" "Nodes.pair" (defArgs s_Nodes_pair) (defBody s_Nodes_pair) (defScope s_Nodes_pair) [] [] (f_Nodes_pair K) (fd_Nodes_pair K) := by
    have F0 : FunD K "pair" "Nodes.pair" (defArgs s_Nodes_pair) (defBody s_Nodes_pair) (defScope s_Nodes_pair) [] [] (f_Nodes_pair K) fd_45 := F_45
    rw [show fd_Nodes_pair K = fd_45 from fdOf_eq F0]
    exact F0
  have B_45 : Binds K (fd_Nodes_pair K) ps_Nodes_pair [] := Q_45.bindsN fun _ _ _ _ _ _ us hl => match us, hl with | [_, _, _], _ => rfl
  have Q_46 : FunD K "often" "Nodes.often" (defArgs s_Nodes_often) (defBody s_Nodes_often) (defScope s_Nodes_often) [] [] (f_Nodes_often K) (fd_Nodes_often K) := by
    have F0 : FunD K "often" "Nodes.often" (defArgs s_Nodes_often) (defBody s_Nodes_often) (defScope s_Nodes_often) [] [] (f_Nodes_often K) fd_46 := F_46
    rw [show fd_Nodes_often K = fd_46 from fdOf_eq F0]
    exact F0
  have B_46 : Binds K (fd_Nodes_often K) ps_Nodes_often [] := Q_46.bindsN fun _ _ _ _ _ _ us hl => match us, hl with | [_, _, _], _ => rfl
  have Q_47 : FunD K "__init__" "Weave.__init__" (defArgs s_Weave_init) (defBody s_Weave_init) (defScope s_Weave_init) [] [] (f_Weave_init K) (fd_Weave_init K) := by
    have F0 : FunD K "__init__" "Weave.__init__" (defArgs s_Weave_init) (defBody s_Weave_init) (defScope s_Weave_init) [] [] (f_Weave_init K) fd_47 := F_47
    rw [show fd_Weave_init K = fd_47 from fdOf_eq F0]
    exact F0
  have B_47 : Binds K (fd_Weave_init K) ps_Weave_init [] := Q_47.bindsN fun _ _ _ _ _ _ us hl => match us, hl with | [_, _, _, _], _ => rfl
  have Q_48 : FunD K "woven" "Weave.woven" (defArgs s_Weave_woven) (defBody s_Weave_woven) (defScope s_Weave_woven) [] [] (f_Weave_woven K) (fd_Weave_woven K) := by
    have F0 : FunD K "woven" "Weave.woven" (defArgs s_Weave_woven) (defBody s_Weave_woven) (defScope s_Weave_woven) [] [] (f_Weave_woven K) fd_48 := F_48
    rw [show fd_Weave_woven K = fd_48 from fdOf_eq F0]
    exact F0
  have B_48 : Binds K (fd_Weave_woven K) ps_Weave_woven [] := Q_48.bindsN fun _ _ _ _ _ _ us hl => match us, hl with | [_, _, _], _ => rfl
  have Q_49 : FunD K "letter" "Weave.letter" (defArgs s_Weave_letter) (defBody s_Weave_letter) (defScope s_Weave_letter) [] [] (f_Weave_letter K) (fd_Weave_letter K) := by
    have F0 : FunD K "letter" "Weave.letter" (defArgs s_Weave_letter) (defBody s_Weave_letter) (defScope s_Weave_letter) [] [] (f_Weave_letter K) fd_49 := F_49
    rw [show fd_Weave_letter K = fd_49 from fdOf_eq F0]
    exact F0
  have B_49 : Binds K (fd_Weave_letter K) ps_Weave_letter [] := Q_49.bindsN fun _ _ _ _ _ _ us hl => match us, hl with | [_, _], _ => rfl
  have Q_50 : FunD K "part" "Weave.part" (defArgs s_Weave_part) (defBody s_Weave_part) (defScope s_Weave_part) [] [] (f_Weave_part K) (fd_Weave_part K) := by
    have F0 : FunD K "part" "Weave.part" (defArgs s_Weave_part) (defBody s_Weave_part) (defScope s_Weave_part) [] [] (f_Weave_part K) fd_50 := F_50
    rw [show fd_Weave_part K = fd_50 from fdOf_eq F0]
    exact F0
  have B_50 : Binds K (fd_Weave_part K) ps_Weave_part [] := Q_50.bindsN fun _ _ _ _ _ _ us hl => match us, hl with | [_, _, _], _ => rfl
  have Q_51 : FunD K "__init__" "Sums.__init__" (defArgs s_Sums_init) (defBody s_Sums_init) (defScope s_Sums_init) [] [] (f_Sums_init K) (fd_Sums_init K) := by
    have F0 : FunD K "__init__" "Sums.__init__" (defArgs s_Sums_init) (defBody s_Sums_init) (defScope s_Sums_init) [] [] (f_Sums_init K) fd_51 := F_51
    rw [show fd_Sums_init K = fd_51 from fdOf_eq F0]
    exact F0
  have B_51 : Binds K (fd_Sums_init K) ps_Sums_init [] := Q_51.bindsN fun _ _ _ _ _ _ us hl => match us, hl with | [_, _, _, _], _ => rfl
  have Q_52 : FunD K "plus" "Sums.plus" (defArgs s_Sums_plus) (defBody s_Sums_plus) (defScope s_Sums_plus) [] [] (f_Sums_plus K) (fd_Sums_plus K) := by
    have F0 : FunD K "plus" "Sums.plus" (defArgs s_Sums_plus) (defBody s_Sums_plus) (defScope s_Sums_plus) [] [] (f_Sums_plus K) fd_52 := F_52
    rw [show fd_Sums_plus K = fd_52 from fdOf_eq F0]
    exact F0
  have B_52 : Binds K (fd_Sums_plus K) ps_Sums_plus [] := Q_52.bindsN fun _ _ _ _ _ _ us hl => match us, hl with | [_, _], _ => rfl
  have Q_53 : FunD K "__init__" "Walk.__init__" (defArgs s_Walk_init) (defBody s_Walk_init) (defScope s_Walk_init) [] [] (f_Walk_init K) (fd_Walk_init K) := by
    have F0 : FunD K "__init__" "Walk.__init__" (defArgs s_Walk_init) (defBody s_Walk_init) (defScope s_Walk_init) [] [] (f_Walk_init K) fd_53 := F_53
    rw [show fd_Walk_init K = fd_53 from fdOf_eq F0]
    exact F0
  have B_53 : Binds K (fd_Walk_init K) ps_Walk_init [] := Q_53.bindsN fun _ _ _ _ _ _ us hl => match us, hl with | [_, _, _], _ => rfl
  have Q_54 : FunD K "turns" "Walk.turns" (defArgs s_Walk_turns) (defBody s_Walk_turns) (defScope s_Walk_turns) [] [] (f_Walk_turns K) (fd_Walk_turns K) := by
    have F0 : FunD K "turns" "Walk.turns" (defArgs s_Walk_turns) (defBody s_Walk_turns) (defScope s_Walk_turns) [] [] (f_Walk_turns K) fd_54 := F_54
    rw [show fd_Walk_turns K = fd_54 from fdOf_eq F0]
    exact F0
  have B_54 : Binds K (fd_Walk_turns K) ps_Walk_turns [] := Q_54.bindsN fun _ _ _ _ _ _ us hl => match us, hl with | [_, _, _, _, _, _], _ => rfl
  have Q_55 : FunD K "summed" "Walk.summed" (defArgs s_Walk_summed) (defBody s_Walk_summed) (defScope s_Walk_summed) [] [] (f_Walk_summed K) (fd_Walk_summed K) := by
    have F0 : FunD K "summed" "Walk.summed" (defArgs s_Walk_summed) (defBody s_Walk_summed) (defScope s_Walk_summed) [] [] (f_Walk_summed K) fd_55 := F_55
    rw [show fd_Walk_summed K = fd_55 from fdOf_eq F0]
    exact F0
  have B_55 : Binds K (fd_Walk_summed K) ps_Walk_summed [] := Q_55.bindsN fun _ _ _ _ _ _ us hl => match us, hl with | [_, _], _ => rfl
  have Q_56 : FunD K "solved" "Walk.solved" (defArgs s_Walk_solved) (defBody s_Walk_solved) (defScope s_Walk_solved) [] [] (f_Walk_solved K) (fd_Walk_solved K) := by
    have F0 : FunD K "solved" "Walk.solved" (defArgs s_Walk_solved) (defBody s_Walk_solved) (defScope s_Walk_solved) [] [] (f_Walk_solved K) fd_56 := F_56
    rw [show fd_Walk_solved K = fd_56 from fdOf_eq F0]
    exact F0
  have B_56 : Binds K (fd_Walk_solved K) ps_Walk_solved [] := Q_56.bindsN fun _ _ _ _ _ _ us hl => match us, hl with | [_, _, _, _], _ => rfl
  have Q_57 : FunD K "lacking" "Walk.lacking" (defArgs s_Walk_lacking) (defBody s_Walk_lacking) (defScope s_Walk_lacking) [] [] (f_Walk_lacking K) (fd_Walk_lacking K) := by
    have F0 : FunD K "lacking" "Walk.lacking" (defArgs s_Walk_lacking) (defBody s_Walk_lacking) (defScope s_Walk_lacking) [] [] (f_Walk_lacking K) fd_57 := F_57
    rw [show fd_Walk_lacking K = fd_57 from fdOf_eq F0]
    exact F0
  have B_57 : Binds K (fd_Walk_lacking K) ps_Walk_lacking [] := Q_57.bindsN fun _ _ _ _ _ _ us hl => match us, hl with | [_, _], _ => rfl
  have Q_58 : FunD K "crossed" "Walk.crossed" (defArgs s_Walk_crossed) (defBody s_Walk_crossed) (defScope s_Walk_crossed) [] [] (f_Walk_crossed K) (fd_Walk_crossed K) := by
    have F0 : FunD K "crossed" "Walk.crossed" (defArgs s_Walk_crossed) (defBody s_Walk_crossed) (defScope s_Walk_crossed) [] [] (f_Walk_crossed K) fd_58 := F_58
    rw [show fd_Walk_crossed K = fd_58 from fdOf_eq F0]
    exact F0
  have B_58 : Binds K (fd_Walk_crossed K) ps_Walk_crossed [] := Q_58.bindsN fun _ _ _ _ _ _ us hl => match us, hl with | [_, _, _, _], _ => rfl
  have Q_59 : FunD K "one_seam" "Walk.one_seam" (defArgs s_Walk_one_seam) (defBody s_Walk_one_seam) (defScope s_Walk_one_seam) [] [] (f_Walk_one_seam K) (fd_Walk_one_seam K) := by
    have F0 : FunD K "one_seam" "Walk.one_seam" (defArgs s_Walk_one_seam) (defBody s_Walk_one_seam) (defScope s_Walk_one_seam) [] [] (f_Walk_one_seam K) fd_59 := F_59
    rw [show fd_Walk_one_seam K = fd_59 from fdOf_eq F0]
    exact F0
  have B_59 : Binds K (fd_Walk_one_seam K) ps_Walk_one_seam [] := Q_59.bindsN fun _ _ _ _ _ _ us hl => match us, hl with | [_, _, _, _], _ => rfl
  have Q_60 : FunD K "told_in" "Walk.told_in" (defArgs s_Walk_told_in) (defBody s_Walk_told_in) (defScope s_Walk_told_in) [] [] (f_Walk_told_in K) (fd_Walk_told_in K) := by
    have F0 : FunD K "told_in" "Walk.told_in" (defArgs s_Walk_told_in) (defBody s_Walk_told_in) (defScope s_Walk_told_in) [] [] (f_Walk_told_in K) fd_60 := F_60
    rw [show fd_Walk_told_in K = fd_60 from fdOf_eq F0]
    exact F0
  have B_60 : Binds K (fd_Walk_told_in K) ps_Walk_told_in [] := Q_60.bindsN fun _ _ _ _ _ _ us hl => match us, hl with | [_, _, _], _ => rfl
  have Q_61 : FunD K "__init__" "Far.__init__" (defArgs s_Far_init) (defBody s_Far_init) (defScope s_Far_init) [] [] (f_Far_init K) (fd_Far_init K) := by
    have F0 : FunD K "__init__" "Far.__init__" (defArgs s_Far_init) (defBody s_Far_init) (defScope s_Far_init) [] [] (f_Far_init K) fd_61 := F_61
    rw [show fd_Far_init K = fd_61 from fdOf_eq F0]
    exact F0
  have B_61 : Binds K (fd_Far_init K) ps_Far_init [] := Q_61.bindsN fun _ _ _ _ _ _ us hl => match us, hl with | [_, _, _, _], _ => rfl
  have Q_62 : FunD K "told_at" "Far.told_at" (defArgs s_Far_told_at) (defBody s_Far_told_at) (defScope s_Far_told_at) [] [] (f_Far_told_at K) (fd_Far_told_at K) := by
    have F0 : FunD K "told_at" "Far.told_at" (defArgs s_Far_told_at) (defBody s_Far_told_at) (defScope s_Far_told_at) [] [] (f_Far_told_at K) fd_62 := F_62
    rw [show fd_Far_told_at K = fd_62 from fdOf_eq F0]
    exact F0
  have B_62 : Binds K (fd_Far_told_at K) ps_Far_told_at [] := Q_62.bindsN fun _ _ _ _ _ _ us hl => match us, hl with | [_, _], _ => rfl
  have Q_63 : FunD K "__init__" "Searcher.__init__" (defArgs s_Searcher_init) (defBody s_Searcher_init) (defScope s_Searcher_init) [] [] (f_Searcher_init K) (fd_Searcher_init K) := by
    have F0 : FunD K "__init__" "Searcher.__init__" (defArgs s_Searcher_init) (defBody s_Searcher_init) (defScope s_Searcher_init) [] [] (f_Searcher_init K) fd_63 := F_63
    rw [show fd_Searcher_init K = fd_63 from fdOf_eq F0]
    exact F0
  have B_63 : Binds K (fd_Searcher_init K) ps_Searcher_init [] := Q_63.bindsN fun _ _ _ _ _ _ us hl => match us, hl with | [_, _, _, _], _ => rfl
  exact ⟨{
    f_len := He.free_ok X G (c.fact 48 (f := .free "len") (by rfl)),
    f_range := He.free_ok X G (c.fact 49 (f := .free "range") (by rfl)),
    f_isinstance := He.free_ok X G (c.fact 50 (f := .free "isinstance") (by rfl)),
    f_str := He.free_ok X G (c.fact 51 (f := .free "str") (by rfl)),
    f_int := He.free_ok X G (c.fact 52 (f := .free "int") (by rfl)),
    f_bool := He.free_ok X G (c.fact 53 (f := .free "bool") (by rfl)),
    f_tuple := He.free_ok X G (c.fact 54 (f := .free "tuple") (by rfl)),
    f_list := He.free_ok X G (c.fact 55 (f := .free "list") (by rfl)),
    f_set := He.free_ok X G (c.fact 56 (f := .free "set") (by rfl)),
    f_all := He.free_ok X G (c.fact 57 (f := .free "all") (by rfl)),
    f_any := He.free_ok X G (c.fact 58 (f := .free "any") (by rfl)),
    f_sum := He.free_ok X G (c.fact 59 (f := .free "sum") (by rfl)),
    f_max := He.free_ok X G (c.fact 60 (f := .free "max") (by rfl)),
    f_min := He.free_ok X G (c.fact 61 (f := .free "min") (by rfl)),
    f_sorted := He.free_ok X G (c.fact 62 (f := .free "sorted") (by rfl)),
    f_enumerate := He.free_ok X G (c.fact 63 (f := .free "enumerate") (by rfl)),
    f_abs := He.free_ok X G (c.fact 64 (f := .free "abs") (by rfl)),
    tk_MOST_WIDTH := ti_MOST_WIDTH,
    i_MOST_WIDTH := hi_MOST_WIDTH,
    tk_MOST_WORDS := ti_MOST_WORDS,
    i_MOST_WORDS := hi_MOST_WORDS,
    tk_MOST_LETTERS := ti_MOST_LETTERS,
    i_MOST_LETTERS := hi_MOST_LETTERS,
    tk_MOST_RULES := ti_MOST_RULES,
    i_MOST_RULES := hi_MOST_RULES,
    tk_MOST_PARTS := ti_MOST_PARTS,
    i_MOST_PARTS := hi_MOST_PARTS,
    tk_MOST_NAME := ti_MOST_NAME,
    i_MOST_NAME := hi_MOST_NAME,
    tk_MOST_SIGNS := ti_MOST_SIGNS,
    i_MOST_SIGNS := hi_MOST_SIGNS,
    tk_MOST_COUNT := ti_MOST_COUNT,
    i_MOST_COUNT := hi_MOST_COUNT,
    tk_MOST_CUT := ti_MOST_CUT,
    i_MOST_CUT := hi_MOST_CUT,
    tk_MOST_STATES := ti_MOST_STATES,
    i_MOST_STATES := hi_MOST_STATES,
    tk_MOST_LEVELS := ti_MOST_LEVELS,
    i_MOST_LEVELS := hi_MOST_LEVELS,
    tk_MOST_NODES := ti_MOST_NODES,
    i_MOST_NODES := hi_MOST_NODES,
    tk_MOST_TOLD := ti_MOST_TOLD,
    i_MOST_TOLD := hi_MOST_TOLD,
    tk_SMALL := ti_SMALL,
    s_SMALL := hi_SMALL,
    tk_CAPITALS := ti_CAPITALS,
    s_CAPITALS := hi_CAPITALS,
    tk_ALL_KNOWN := ti_ALL_KNOWN,
    s_ALL_KNOWN := hi_ALL_KNOWN,
    g_FROM_LEFT := He.glo_ok X G (c.fact 81 (f := .glo "FROM_LEFT") (by rfl)),
    q_FROM_LEFT := fun H => He.tupB_ok e1 H,
    g_BY_ONE_STATE := He.glo_ok X G (c.fact 82 (f := .glo "BY_ONE_STATE") (by rfl)),
    q_BY_ONE_STATE := fun H => He.tupB_ok e2 H,
    g_FROM_RIGHT := He.glo_ok X G (c.fact 83 (f := .glo "FROM_RIGHT") (by rfl)),
    q_FROM_RIGHT := fun H => He.tupB_ok e3 H,
    g_WindowTurn := He.glo_ok X G (c.fact 39 (f := .glo "WindowTurn") (by rfl)),
    c_WindowTurn := He.cls_ok (c.fact 84 (f := .cls "WindowTurn") (by rfl)),
    mk_WindowTurn := He.mkr_ok (c.fact 85 (f := .mkr "WindowTurn") (by rfl)),
    n_WindowTurn_reads := He.noat_ok (c.fact 86 (f := .noat "WindowTurn" "reads") (by rfl)),
    n_WindowTurn_numbers := He.noat_ok (c.fact 87 (f := .noat "WindowTurn" "numbers") (by rfl)),
    n_WindowTurn_slide := He.noat_ok (c.fact 88 (f := .noat "WindowTurn" "slide") (by rfl)),
    n_WindowTurn_state := He.noat_ok (c.fact 89 (f := .noat "WindowTurn" "state") (by rfl)),
    me_WindowTurn_does := He.meth_ok (c.fact 90 (f := .meth "WindowTurn" "does") (by rfl)),
    g_Trace := He.glo_ok X G (c.fact 40 (f := .glo "Trace") (by rfl)),
    c_Trace := He.cls_ok (c.fact 91 (f := .cls "Trace") (by rfl)),
    mk_Trace := He.mkr_ok (c.fact 92 (f := .mkr "Trace") (by rfl)),
    n_Trace_windows := He.noat_ok (c.fact 93 (f := .noat "Trace" "windows") (by rfl)),
    n_Trace_told := He.noat_ok (c.fact 94 (f := .noat "Trace" "told") (by rfl)),
    n_Trace_cost := He.noat_ok (c.fact 95 (f := .noat "Trace" "cost") (by rfl)),
    g_Node := He.glo_ok X G (c.fact 41 (f := .glo "Node") (by rfl)),
    c_Node := He.cls_ok (c.fact 96 (f := .cls "Node") (by rfl)),
    mk_Node := He.mkr_ok (c.fact 97 (f := .mkr "Node") (by rfl)),
    n_Node_letters := He.noat_ok (c.fact 98 (f := .noat "Node" "letters") (by rfl)),
    n_Node_left := He.noat_ok (c.fact 99 (f := .noat "Node" "left") (by rfl)),
    n_Node_right := He.noat_ok (c.fact 100 (f := .noat "Node" "right") (by rfl)),
    n_Node_size := He.noat_ok (c.fact 101 (f := .noat "Node" "size") (by rfl)),
    n_Node_ends := He.noat_ok (c.fact 102 (f := .noat "Node" "ends") (by rfl)),
    g_Nodes := He.glo_ok X G (c.fact 42 (f := .glo "Nodes") (by rfl)),
    c_Nodes := He.cls_ok (c.fact 103 (f := .cls "Nodes") (by rfl)),
    mk_Nodes := He.mkr_ok (c.fact 104 (f := .mkr "Nodes") (by rfl)),
    n_Nodes_most := He.noat_ok (c.fact 105 (f := .noat "Nodes" "most") (by rfl)),
    n_Nodes_rows := He.noat_ok (c.fact 106 (f := .noat "Nodes" "rows") (by rfl)),
    me_Nodes_leaf := He.meth_ok (c.fact 107 (f := .meth "Nodes" "leaf") (by rfl)),
    me_Nodes_pair := He.meth_ok (c.fact 108 (f := .meth "Nodes" "pair") (by rfl)),
    me_Nodes_often := He.meth_ok (c.fact 109 (f := .meth "Nodes" "often") (by rfl)),
    g_Weave := He.glo_ok X G (c.fact 43 (f := .glo "Weave") (by rfl)),
    c_Weave := He.cls_ok (c.fact 110 (f := .cls "Weave") (by rfl)),
    mk_Weave := He.mkr_ok (c.fact 111 (f := .mkr "Weave") (by rfl)),
    n_Weave_letters := He.noat_ok (c.fact 112 (f := .noat "Weave" "letters") (by rfl)),
    n_Weave_own_nodes := He.noat_ok (c.fact 113 (f := .noat "Weave" "own_nodes") (by rfl)),
    n_Weave_own_root := He.noat_ok (c.fact 114 (f := .noat "Weave" "own_root") (by rfl)),
    n_Weave_size := He.noat_ok (c.fact 115 (f := .noat "Weave" "size") (by rfl)),
    me_Weave_woven := He.meth_ok (c.fact 116 (f := .meth "Weave" "woven") (by rfl)),
    me_Weave_letter := He.meth_ok (c.fact 117 (f := .meth "Weave" "letter") (by rfl)),
    me_Weave_part := He.meth_ok (c.fact 118 (f := .meth "Weave" "part") (by rfl)),
    g_Sums := He.glo_ok X G (c.fact 44 (f := .glo "Sums") (by rfl)),
    c_Sums := He.cls_ok (c.fact 119 (f := .cls "Sums") (by rfl)),
    mk_Sums := He.mkr_ok (c.fact 120 (f := .mkr "Sums") (by rfl)),
    n_Sums_cost := He.noat_ok (c.fact 121 (f := .noat "Sums" "cost") (by rfl)),
    n_Sums_windows := He.noat_ok (c.fact 122 (f := .noat "Sums" "windows") (by rfl)),
    n_Sums_told := He.noat_ok (c.fact 123 (f := .noat "Sums" "told") (by rfl)),
    me_Sums_plus := He.meth_ok (c.fact 124 (f := .meth "Sums" "plus") (by rfl)),
    g_Walk := He.glo_ok X G (c.fact 45 (f := .glo "Walk") (by rfl)),
    c_Walk := He.cls_ok (c.fact 125 (f := .cls "Walk") (by rfl)),
    mk_Walk := He.mkr_ok (c.fact 126 (f := .mkr "Walk") (by rfl)),
    n_Walk_searcher := He.noat_ok (c.fact 127 (f := .noat "Walk" "searcher") (by rfl)),
    n_Walk_rows := He.noat_ok (c.fact 128 (f := .noat "Walk" "rows") (by rfl)),
    n_Walk_known := He.noat_ok (c.fact 129 (f := .noat "Walk" "known") (by rfl)),
    n_Walk_seams := He.noat_ok (c.fact 130 (f := .noat "Walk" "seams") (by rfl)),
    me_Walk_turns := He.meth_ok (c.fact 131 (f := .meth "Walk" "turns") (by rfl)),
    me_Walk_summed := He.meth_ok (c.fact 132 (f := .meth "Walk" "summed") (by rfl)),
    me_Walk_solved := He.meth_ok (c.fact 133 (f := .meth "Walk" "solved") (by rfl)),
    me_Walk_lacking := He.meth_ok (c.fact 134 (f := .meth "Walk" "lacking") (by rfl)),
    me_Walk_crossed := He.meth_ok (c.fact 135 (f := .meth "Walk" "crossed") (by rfl)),
    me_Walk_one_seam := He.meth_ok (c.fact 136 (f := .meth "Walk" "one_seam") (by rfl)),
    me_Walk_told_in := He.meth_ok (c.fact 137 (f := .meth "Walk" "told_in") (by rfl)),
    g_Far := He.glo_ok X G (c.fact 46 (f := .glo "Far") (by rfl)),
    c_Far := He.cls_ok (c.fact 138 (f := .cls "Far") (by rfl)),
    mk_Far := He.mkr_ok (c.fact 139 (f := .mkr "Far") (by rfl)),
    n_Far_cost := He.noat_ok (c.fact 140 (f := .noat "Far" "cost") (by rfl)),
    n_Far_windows := He.noat_ok (c.fact 141 (f := .noat "Far" "windows") (by rfl)),
    n_Far_told := He.noat_ok (c.fact 142 (f := .noat "Far" "told") (by rfl)),
    n_Far_own_walk := He.noat_ok (c.fact 143 (f := .noat "Far" "own_walk") (by rfl)),
    n_Far_own_root := He.noat_ok (c.fact 144 (f := .noat "Far" "own_root") (by rfl)),
    n_Far_own_last := He.noat_ok (c.fact 145 (f := .noat "Far" "own_last") (by rfl)),
    me_Far_told_at := He.meth_ok (c.fact 146 (f := .meth "Far" "told_at") (by rfl)),
    g_Searcher := He.glo_ok X G (c.fact 47 (f := .glo "Searcher") (by rfl)),
    c_Searcher := He.cls_ok (c.fact 147 (f := .cls "Searcher") (by rfl)),
    mk_Searcher := He.mkr_ok (c.fact 148 (f := .mkr "Searcher") (by rfl)),
    n_Searcher_letters := He.noat_ok (c.fact 149 (f := .noat "Searcher" "letters") (by rfl)),
    n_Searcher_width := He.noat_ok (c.fact 150 (f := .noat "Searcher" "width") (by rfl)),
    n_Searcher_states := He.noat_ok (c.fact 151 (f := .noat "Searcher" "states") (by rfl)),
    n_Searcher_nodes := He.noat_ok (c.fact 152 (f := .noat "Searcher" "nodes") (by rfl)),
    g_check_letters := He.glo_ok X G (c.fact 0 (f := .glo "check_letters") (by rfl)),
    F_check_letters := Q_0,
    k_check_letters := Q_0.kp,
    b_check_letters := B_0,
    g_is_word := He.glo_ok X G (c.fact 1 (f := .glo "is_word") (by rfl)),
    F_is_word := Q_1,
    k_is_word := Q_1.kp,
    b_is_word := B_1,
    g_check_words := He.glo_ok X G (c.fact 2 (f := .glo "check_words") (by rfl)),
    F_check_words := Q_2,
    k_check_words := Q_2.kp,
    b_check_words := B_2,
    g_check_text := He.glo_ok X G (c.fact 3 (f := .glo "check_text") (by rfl)),
    F_check_text := Q_3,
    k_check_text := Q_3.kp,
    b_check_text := B_3,
    g_trace := He.glo_ok X G (c.fact 4 (f := .glo "trace") (by rfl)),
    F_trace := Q_4,
    k_trace := Q_4.kp,
    b_trace := B_4,
    g_is_name := He.glo_ok X G (c.fact 5 (f := .glo "is_name") (by rfl)),
    F_is_name := Q_5,
    k_is_name := Q_5.kp,
    b_is_name := B_5,
    g_is_count := He.glo_ok X G (c.fact 6 (f := .glo "is_count") (by rfl)),
    F_is_count := Q_6,
    k_is_count := Q_6.kp,
    b_is_count := B_6,
    g_is_part := He.glo_ok X G (c.fact 7 (f := .glo "is_part") (by rfl)),
    F_is_part := Q_7,
    k_is_part := Q_7.kp,
    b_is_part := B_7,
    g_is_rule := He.glo_ok X G (c.fact 8 (f := .glo "is_rule") (by rfl)),
    F_is_rule := Q_8,
    k_is_rule := Q_8.kp,
    b_is_rule := B_8,
    g_check_rules := He.glo_ok X G (c.fact 9 (f := .glo "check_rules") (by rfl)),
    F_check_rules := Q_9,
    k_check_rules := Q_9.kp,
    b_check_rules := B_9,
    g_names_in := He.glo_ok X G (c.fact 10 (f := .glo "names_in") (by rfl)),
    F_names_in := Q_10,
    k_names_in := Q_10.kp,
    b_names_in := B_10,
    g_ordered := He.glo_ok X G (c.fact 11 (f := .glo "ordered") (by rfl)),
    F_ordered := Q_11,
    k_ordered := Q_11.kp,
    b_ordered := B_11,
    g_far := He.glo_ok X G (c.fact 12 (f := .glo "far") (by rfl)),
    F_far := Q_12,
    k_far := Q_12.kp,
    b_far := B_12,
    g_is_number := He.glo_ok X G (c.fact 13 (f := .glo "is_number") (by rfl)),
    F_is_number := Q_13,
    k_is_number := Q_13.kp,
    b_is_number := B_13,
    g_is_head := He.glo_ok X G (c.fact 14 (f := .glo "is_head") (by rfl)),
    F_is_head := Q_14,
    k_is_head := Q_14.kp,
    b_is_head := B_14,
    g_within := He.glo_ok X G (c.fact 15 (f := .glo "within") (by rfl)),
    F_within := Q_15,
    k_within := Q_15.kp,
    b_within := B_15,
    g_checked := He.glo_ok X G (c.fact 16 (f := .glo "checked") (by rfl)),
    F_checked := Q_16,
    k_checked := Q_16.kp,
    b_checked := B_16,
    g_kept := He.glo_ok X G (c.fact 17 (f := .glo "kept") (by rfl)),
    F_kept := Q_17,
    k_kept := Q_17.kp,
    b_kept := B_17,
    g_borders_of := He.glo_ok X G (c.fact 18 (f := .glo "borders_of") (by rfl)),
    F_borders_of := Q_18,
    k_borders_of := Q_18.kp,
    b_borders_of := B_18,
    g_steps_down := He.glo_ok X G (c.fact 19 (f := .glo "steps_down") (by rfl)),
    F_steps_down := Q_19,
    k_steps_down := Q_19.kp,
    b_steps_down := B_19,
    g_last_of := He.glo_ok X G (c.fact 20 (f := .glo "last_of") (by rfl)),
    F_last_of := Q_20,
    k_last_of := Q_20.kp,
    b_last_of := B_20,
    g_compared := He.glo_ok X G (c.fact 21 (f := .glo "compared") (by rfl)),
    F_compared := Q_21,
    k_compared := Q_21.kp,
    b_compared := B_21,
    g_left_step := He.glo_ok X G (c.fact 22 (f := .glo "left_step") (by rfl)),
    F_left_step := Q_22,
    k_left_step := Q_22.kp,
    b_left_step := B_22,
    g_from_left := He.glo_ok X G (c.fact 23 (f := .glo "from_left") (by rfl)),
    F_from_left := Q_23,
    k_from_left := Q_23.kp,
    b_from_left := B_23,
    g_by_one_letter := He.glo_ok X G (c.fact 24 (f := .glo "by_one_letter") (by rfl)),
    F_by_one_letter := Q_24,
    k_by_one_letter := Q_24.kp,
    b_by_one_letter := B_24,
    g_is_good_slide := He.glo_ok X G (c.fact 25 (f := .glo "is_good_slide") (by rfl)),
    F_is_good_slide := Q_25,
    k_is_good_slide := Q_25.kp,
    b_is_good_slide := B_25,
    g_right_slide := He.glo_ok X G (c.fact 26 (f := .glo "right_slide") (by rfl)),
    F_right_slide := Q_26,
    k_right_slide := Q_26.kp,
    b_right_slide := B_26,
    g_from_right := He.glo_ok X G (c.fact 27 (f := .glo "from_right") (by rfl)),
    F_from_right := Q_27,
    k_from_right := Q_27.kp,
    b_from_right := B_27,
    g_made := He.glo_ok X G (c.fact 28 (f := .glo "made") (by rfl)),
    F_made := Q_28,
    k_made := Q_28.kp,
    b_made := B_28,
    g_law_pen := He.glo_ok X G (c.fact 29 (f := .glo "_law_pen") (by rfl)),
    F_law_pen := Q_29,
    k_law_pen := Q_29.kp,
    b_law_pen := B_29,
    g_law_draw := He.glo_ok X G (c.fact 30 (f := .glo "_law_draw") (by rfl)),
    F_law_draw := Q_30,
    k_law_draw := Q_30.kp,
    b_law_draw := B_30,
    g_law_pick := He.glo_ok X G (c.fact 31 (f := .glo "_law_pick") (by rfl)),
    F_law_pick := Q_31,
    k_law_pick := Q_31.kp,
    b_law_pick := B_31,
    g_law_letters := He.glo_ok X G (c.fact 32 (f := .glo "_law_letters") (by rfl)),
    F_law_letters := Q_32,
    k_law_letters := Q_32.kp,
    b_law_letters := B_32,
    g_law_word := He.glo_ok X G (c.fact 33 (f := .glo "_law_word") (by rfl)),
    F_law_word := Q_33,
    k_law_word := Q_33.kp,
    b_law_word := B_33,
    g_law_ways := He.glo_ok X G (c.fact 34 (f := .glo "_law_ways") (by rfl)),
    F_law_ways := Q_34,
    k_law_ways := Q_34.kp,
    b_law_ways := B_34,
    g_law_bent_tree := He.glo_ok X G (c.fact 35 (f := .glo "_law_bent_tree") (by rfl)),
    F_law_bent_tree := Q_35,
    k_law_bent_tree := Q_35.kp,
    b_law_bent_tree := B_35,
    g_law_bent := He.glo_ok X G (c.fact 36 (f := .glo "_law_bent") (by rfl)),
    F_law_bent := Q_36,
    k_law_bent := Q_36.kp,
    b_law_bent := B_36,
    g_law_rules := He.glo_ok X G (c.fact 37 (f := .glo "_law_rules") (by rfl)),
    F_law_rules := Q_37,
    k_law_rules := Q_37.kp,
    b_law_rules := B_37,
    g_law := He.glo_ok X G (c.fact 38 (f := .glo "law") (by rfl)),
    F_law := Q_38,
    k_law := Q_38.kp,
    b_law := B_38,
    F_WindowTurn_init := Q_39,
    k_WindowTurn_init := Q_39.kp,
    b_WindowTurn_init := B_39,
    F_WindowTurn_does := Q_40,
    k_WindowTurn_does := Q_40.kp,
    b_WindowTurn_does := B_40,
    F_Trace_init := Q_41,
    k_Trace_init := Q_41.kp,
    b_Trace_init := B_41,
    F_Node_init := Q_42,
    k_Node_init := Q_42.kp,
    b_Node_init := B_42,
    F_Nodes_init := Q_43,
    k_Nodes_init := Q_43.kp,
    b_Nodes_init := B_43,
    F_Nodes_leaf := Q_44,
    k_Nodes_leaf := Q_44.kp,
    b_Nodes_leaf := B_44,
    F_Nodes_pair := Q_45,
    k_Nodes_pair := Q_45.kp,
    b_Nodes_pair := B_45,
    F_Nodes_often := Q_46,
    k_Nodes_often := Q_46.kp,
    b_Nodes_often := B_46,
    F_Weave_init := Q_47,
    k_Weave_init := Q_47.kp,
    b_Weave_init := B_47,
    F_Weave_woven := Q_48,
    k_Weave_woven := Q_48.kp,
    b_Weave_woven := B_48,
    F_Weave_letter := Q_49,
    k_Weave_letter := Q_49.kp,
    b_Weave_letter := B_49,
    F_Weave_part := Q_50,
    k_Weave_part := Q_50.kp,
    b_Weave_part := B_50,
    F_Sums_init := Q_51,
    k_Sums_init := Q_51.kp,
    b_Sums_init := B_51,
    F_Sums_plus := Q_52,
    k_Sums_plus := Q_52.kp,
    b_Sums_plus := B_52,
    F_Walk_init := Q_53,
    k_Walk_init := Q_53.kp,
    b_Walk_init := B_53,
    F_Walk_turns := Q_54,
    k_Walk_turns := Q_54.kp,
    b_Walk_turns := B_54,
    F_Walk_summed := Q_55,
    k_Walk_summed := Q_55.kp,
    b_Walk_summed := B_55,
    F_Walk_solved := Q_56,
    k_Walk_solved := Q_56.kp,
    b_Walk_solved := B_56,
    F_Walk_lacking := Q_57,
    k_Walk_lacking := Q_57.kp,
    b_Walk_lacking := B_57,
    F_Walk_crossed := Q_58,
    k_Walk_crossed := Q_58.kp,
    b_Walk_crossed := B_58,
    F_Walk_one_seam := Q_59,
    k_Walk_one_seam := Q_59.kp,
    b_Walk_one_seam := B_59,
    F_Walk_told_in := Q_60,
    k_Walk_told_in := Q_60.kp,
    b_Walk_told_in := B_60,
    F_Far_init := Q_61,
    k_Far_init := Q_61.kp,
    b_Far_init := B_61,
    F_Far_told_at := Q_62,
    k_Far_told_at := Q_62.kp,
    b_Far_told_at := B_62,
    F_Searcher_init := Q_63,
    k_Searcher_init := Q_63.kp,
    b_Searcher_init := B_63 }⟩

end Wk
namespace Wk
open PySem PySem.Spec PyProof.Rows L2
theorem fnNever {P : Program} {w : World} {K : PySem.W.Frag} {mg : Str → Option Value} {base : Heap} {k : Nat} {f : Addr} {fd : FuncData} {ps : List Str} {sp : Sp} (h : ∀ vs H Q E, sp vs H Q E → False) : FnOk P w K mg base CX0 k f fd ps sp :=
  ⟨fun vs H Q E q => (h _ _ _ _ q).elim, fun A outer s H args us vs Q E _ _ _ _ q => (h _ _ _ _ q).elim⟩
theorem ok_checked {P : Program} {w : World} {K : PySem.W.Frag} {mg : Str → Option Value} {base : Heap} (T : Tx K mg) (G_is_head : FnOk P w K mg base CX0 2 (f_is_head K) (fd_is_head K) ps_is_head (sp_is_head K)) (G_within : FnOk P w K mg base CX0 1 (f_within K) (fd_within K) ps_within (sp_within K)) : ∀ d : Nat, FnOk P w K mg base CX0 (3 + d) (f_checked K) (fd_checked K) ps_checked (sp_checked K d)
  | 0 => fnNever fun vs H Q E h => by obtain ⟨k, m, n, t, v, d', lv, num, _, _, hok, hd, _⟩ := h; have := hok.pos; omega
  | d + 1 => mk_checked (Nat.le_add_right 3 d) T G_is_head G_within (ok_checked T G_is_head G_within d) (fun vs H Q E h => by obtain ⟨_, _, _, _, _, _, _, _, hv, _⟩ := h; subst hv; rfl) (rd_checked T d)
theorem ok_kept {P : Program} {w : World} {K : PySem.W.Frag} {mg : Str → Option Value} {base : Heap} (T : Tx K mg) : ∀ d : Nat, FnOk P w K mg base CX0 (3 + d) (f_kept K) (fd_kept K) ps_kept (sp_kept K d)
  | 0 => fnNever fun vs H Q E h => by obtain ⟨k, m, n, t, v, _, _, hok, _⟩ := h; have := hok.pos; omega
  | d + 1 => mk_kept (Nat.le_add_right 3 d) T (ok_kept T d) (fun vs H Q E h => by obtain ⟨_, _, _, _, _, hv, _⟩ := h; subst hv; rfl) (rd_kept T d)
theorem ok_law_bent_tree {P : Program} {w : World} {K : PySem.W.Frag} {mg : Str → Option Value} {base : Heap} (T : Tx K mg) (G_law_draw : FnOk P w K mg base CX0 1 (f_law_draw K) (fd_law_draw K) ps_law_draw (sp_law_draw K)) : ∀ d : Nat, FnOk P w K mg base CX0 (3 + d) (f_law_bent_tree K) (fd_law_bent_tree K) ps_law_bent_tree (sp_law_bent_tree K d)
  | 0 => fnNever fun vs H Q E h => by obtain ⟨pn, pc, nn, k, m, n, v, t, d', _, _, _, _, hok, hd, _⟩ := h; have := hok.pos; omega
  | d + 1 => mk_law_bent_tree (Nat.le_add_right 3 d) T G_law_draw (ok_law_bent_tree T G_law_draw d) (fun vs H Q E h => by obtain ⟨_, _, _, _, _, _, _, _, _, hv, _⟩ := h; subst hv; rfl) (rd_law_bent_tree T d)
theorem okLaw {P : Program} {w : World} {K : PySem.W.Frag} {mg : Str → Option Value} {base : Heap} (T : Tx K mg) : FnOk P w K mg base CX0 52 (f_law K) (fd_law K) ps_law (sp_law K) := by
  have G_check_letters : FnOk P w K mg base CX0 1 (f_check_letters K) (fd_check_letters K) ps_check_letters (sp_check_letters K) := mk_check_letters T (fun vs H Q E h => by obtain ⟨_, hv, _⟩ := h; subst hv; rfl) (rd_check_letters T)
  have G_is_word : FnOk P w K mg base CX0 1 (f_is_word K) (fd_is_word K) ps_is_word (sp_is_word K) := mk_is_word T (fun vs H Q E h => by obtain ⟨_, _, hv, _⟩ := h; subst hv; rfl) (rd_is_word T)
  have G_check_words : FnOk P w K mg base CX0 2 (f_check_words K) (fd_check_words K) ps_check_words (sp_check_words K) := mk_check_words T G_check_letters G_is_word (fun vs H Q E h => by obtain ⟨_, _, _, hv, _⟩ := h; subst hv; rfl) (rd_check_words T)
  have G_check_text : FnOk P w K mg base CX0 1 (f_check_text K) (fd_check_text K) ps_check_text (sp_check_text K) := mk_check_text T (fun vs H Q E h => by obtain ⟨_, _, hv, _⟩ := h; subst hv; rfl) (rd_check_text T)
  have G_WindowTurn_does : FnOk P w K mg base CX0 1 (f_WindowTurn_does K) (fd_WindowTurn_does K) ps_WindowTurn_does (sp_WindowTurn_does K) := mk_WindowTurn_does T (fun vs H Q E h => by obtain ⟨_, _, _, _, _, _, _, _, _, _, _, _, _, _, hv, _⟩ := h; subst hv; rfl) (rd_WindowTurn_does T)
  have G_WindowTurn_init : FnOk P w K mg base CX0 2 (f_WindowTurn_init K) (fd_WindowTurn_init K) ps_WindowTurn_init (sp_WindowTurn_init K) := mk_WindowTurn_init T G_WindowTurn_does (fun vs H Q E h => by obtain ⟨_, _, _, _, _, _, _, hv, _⟩ := h; subst hv; rfl) (rd_WindowTurn_init T)
  have G_Trace_init : FnOk P w K mg base CX0 1 (f_Trace_init K) (fd_Trace_init K) ps_Trace_init (sp_Trace_init K) := mk_Trace_init T (fun vs H Q E h => by obtain ⟨_, _, _, _, _, _, hv, _⟩ := h; subst hv; rfl) (rd_Trace_init T)
  have G_trace : FnOk P w K mg base CX0 4 (f_trace K) (fd_trace K) ps_trace (sp_trace K) := mk_trace T G_check_text G_WindowTurn_init G_Trace_init (fun vs H Q E h => by obtain ⟨_, _, _, hv, _⟩ := h; subst hv; rfl) (rd_trace T)
  have G_is_name : FnOk P w K mg base CX0 1 (f_is_name K) (fd_is_name K) ps_is_name (sp_is_name K) := mk_is_name T (fun vs H Q E h => by obtain ⟨_, hv, _⟩ := h; subst hv; rfl) (rd_is_name T)
  have G_is_count : FnOk P w K mg base CX0 1 (f_is_count K) (fd_is_count K) ps_is_count (sp_is_count K) := mk_is_count T (fun vs H Q E h => by obtain ⟨_, hv, _⟩ := h; subst hv; rfl) (rd_is_count T)
  have G_is_part : FnOk P w K mg base CX0 2 (f_is_part K) (fd_is_part K) ps_is_part (sp_is_part K) := mk_is_part T G_is_count G_is_name (fun vs H Q E h => by obtain ⟨_, _, _, _, _, _, hv, _⟩ := h; subst hv; rfl) (rd_is_part T)
  have G_is_rule : FnOk P w K mg base CX0 3 (f_is_rule K) (fd_is_rule K) ps_is_rule (sp_is_rule K) := mk_is_rule T G_is_part (fun vs H Q E h => by obtain ⟨_, _, _, _, _, _, hv, _⟩ := h; subst hv; rfl) (rd_is_rule T)
  have G_check_rules : FnOk P w K mg base CX0 4 (f_check_rules K) (fd_check_rules K) ps_check_rules (sp_check_rules K) := mk_check_rules T G_is_name G_is_rule (fun vs H Q E h => by obtain ⟨_, _, _, _, hv, _⟩ := h; subst hv; rfl) (rd_check_rules T)
  have G_names_in : FnOk P w K mg base CX0 2 (f_names_in K) (fd_names_in K) ps_names_in (sp_names_in K) := mk_names_in T G_is_name (fun vs H Q E h => by obtain ⟨_, _, _, _, hv, _⟩ := h; subst hv; rfl) (rd_names_in T)
  have G_ordered : FnOk P w K mg base CX0 3 (f_ordered K) (fd_ordered K) ps_ordered (sp_ordered K) := mk_ordered T G_names_in (fun vs H Q E h => by obtain ⟨_, _, _, _, hv, _⟩ := h; subst hv; rfl) (rd_ordered T)
  have G_Walk_init : FnOk P w K mg base CX0 1 (f_Walk_init K) (fd_Walk_init K) ps_Walk_init (sp_Walk_init K) := mk_Walk_init T (fun vs H Q E h => by obtain ⟨_, _, _, _, _, _, hv, _⟩ := h; subst hv; rfl) (rd_Walk_init T)
  have G_Walk_turns : FnOk P w K mg base CX0 4 (f_Walk_turns K) (fd_Walk_turns K) ps_Walk_turns (sp_Walk_turns K) := mk_Walk_turns T G_WindowTurn_init (fun vs H Q E h => by obtain ⟨_, _, _, _, _, _, _, _, hv, _⟩ := h; subst hv; rfl) (rd_Walk_turns T)
  have G_Sums_init : FnOk P w K mg base CX0 1 (f_Sums_init K) (fd_Sums_init K) ps_Sums_init (sp_Sums_init K) := mk_Sums_init T (fun vs H Q E h => by obtain ⟨_, _, _, _, _, hv, _⟩ := h; subst hv; rfl) (rd_Sums_init T)
  have G_Walk_summed : FnOk P w K mg base CX0 3 (f_Walk_summed K) (fd_Walk_summed K) ps_Walk_summed (sp_Walk_summed K) := mk_Walk_summed T G_Sums_init (fun vs H Q E h => by obtain ⟨_, _, _, hv, _⟩ := h; subst hv; rfl) (rd_Walk_summed T)
  have G_Walk_one_seam : FnOk P w K mg base CX0 4 (f_Walk_one_seam K) (fd_Walk_one_seam K) ps_Walk_one_seam (sp_Walk_one_seam K) := mk_Walk_one_seam T G_WindowTurn_init (fun vs H Q E h => by obtain ⟨_, _, _, _, _, _, _, _, _, _, _, _, _, _, hv, _⟩ := h; subst hv; rfl) (rd_Walk_one_seam T)
  have G_Walk_crossed : FnOk P w K mg base CX0 5 (f_Walk_crossed K) (fd_Walk_crossed K) ps_Walk_crossed (sp_Walk_crossed K) := mk_Walk_crossed T G_Walk_one_seam (fun vs H Q E h => by obtain ⟨_, _, _, _, _, _, _, _, _, _, _, _, _, _, hv, _⟩ := h; subst hv; rfl) (rd_Walk_crossed T)
  have G_Sums_plus : FnOk P w K mg base CX0 3 (f_Sums_plus K) (fd_Sums_plus K) ps_Sums_plus (sp_Sums_plus K) := mk_Sums_plus T G_Sums_init (fun vs H Q E h => by obtain ⟨_, _, _, _, _, _, _, _, hv, _⟩ := h; subst hv; rfl) (rd_Sums_plus T)
  have G_Walk_lacking : FnOk P w K mg base CX0 6 (f_Walk_lacking K) (fd_Walk_lacking K) ps_Walk_lacking (sp_Walk_lacking K) := mk_Walk_lacking T G_Walk_turns G_Walk_summed G_Sums_init G_Walk_crossed G_Sums_plus (fun vs H Q E h => by obtain ⟨_, _, _, _, _, _, _, _, _, _, _, hv, _⟩ := h; subst hv; rfl) (rd_Walk_lacking T)
  have G_Walk_solved : FnOk P w K mg base CX0 7 (f_Walk_solved K) (fd_Walk_solved K) ps_Walk_solved (sp_Walk_solved K) := mk_Walk_solved T G_Walk_lacking (fun vs H Q E h => by obtain ⟨_, _, _, _, _, _, _, _, _, _, hv, _⟩ := h; subst hv; rfl) (rd_Walk_solved T)
  have G_Far_init : FnOk P w K mg base CX0 4 (f_Far_init K) (fd_Far_init K) ps_Far_init (sp_Far_init K) := mk_Far_init T G_Sums_plus G_Walk_summed (fun vs H Q E h => by obtain ⟨_, _, _, _, _, _, _, _, _, _, _, _, _, _, _, _, _, hv, _⟩ := h; subst hv; rfl) (rd_Far_init T)
  have G_far : FnOk P w K mg base CX0 8 (f_far K) (fd_far K) ps_far (sp_far K) := mk_far T G_Walk_init G_Walk_solved G_WindowTurn_init G_Far_init (fun vs H Q E h => by obtain ⟨_, _, _, _, _, _, hv, _⟩ := h; subst hv; rfl) (rd_far T)
  have G_is_number : FnOk P w K mg base CX0 1 (f_is_number K) (fd_is_number K) ps_is_number (sp_is_number K) := mk_is_number T (fun vs H Q E h => by obtain ⟨_, _, _, hv, _⟩ := h; subst hv; rfl) (rd_is_number T)
  have G_is_head : FnOk P w K mg base CX0 2 (f_is_head K) (fd_is_head K) ps_is_head (sp_is_head K) := mk_is_head T G_is_number (fun vs H Q E h => by obtain ⟨_, _, _, _, _, _, hv, _⟩ := h; subst hv; rfl) (rd_is_head T)
  have G_within : FnOk P w K mg base CX0 1 (f_within K) (fd_within K) ps_within (sp_within K) := mk_within T (fun vs H Q E h => by obtain ⟨_, _, _, hv, _⟩ := h; subst hv; rfl) (rd_within T)
  have G_checked : FnOk P w K mg base CX0 48 (f_checked K) (fd_checked K) ps_checked (sp_checked K 45) := ok_checked T G_is_head G_within 45
  have G_kept : FnOk P w K mg base CX0 46 (f_kept K) (fd_kept K) ps_kept (sp_kept K 43) := ok_kept T 43
  have G_borders_of : FnOk P w K mg base CX0 1 (f_borders_of K) (fd_borders_of K) ps_borders_of (sp_borders_of K) := mk_borders_of T (fun vs H Q E h => by obtain ⟨_, hv, _⟩ := h; subst hv; rfl) (rd_borders_of T)
  have G_steps_down : FnOk P w K mg base CX0 1 (f_steps_down K) (fd_steps_down K) ps_steps_down (sp_steps_down K) := mk_steps_down T (fun vs H Q E h => by obtain ⟨_, _, _, _, hv, _⟩ := h; subst hv; rfl) (rd_steps_down T)
  have G_last_of : FnOk P w K mg base CX0 1 (f_last_of K) (fd_last_of K) ps_last_of (sp_last_of K) := mk_last_of T (fun vs H Q E h => by obtain ⟨_, _, _, hv, _⟩ := h; subst hv; rfl) (rd_last_of T)
  have G_compared : FnOk P w K mg base CX0 1 (f_compared K) (fd_compared K) ps_compared (sp_compared K) := mk_compared T (fun vs H Q E h => by obtain ⟨_, _, _, _, _, _, _, _, _, hv, _⟩ := h; subst hv; rfl) (rd_compared T)
  have G_left_step : FnOk P w K mg base CX0 2 (f_left_step K) (fd_left_step K) ps_left_step (sp_left_step K) := mk_left_step T G_steps_down (fun vs H Q E h => by obtain ⟨_, _, _, _, _, _, hv, _⟩ := h; subst hv; rfl) (rd_left_step T)
  have G_from_left : FnOk P w K mg base CX0 3 (f_from_left K) (fd_from_left K) ps_from_left (sp_from_left K) := mk_from_left T G_borders_of G_left_step G_compared (fun vs H Q E h => by obtain ⟨_, _, _, hv, _⟩ := h; subst hv; rfl) (rd_from_left T)
  have G_by_one_letter : FnOk P w K mg base CX0 2 (f_by_one_letter K) (fd_by_one_letter K) ps_by_one_letter (sp_by_one_letter K) := mk_by_one_letter T G_last_of G_compared (fun vs H Q E h => by obtain ⟨_, _, _, hv, _⟩ := h; subst hv; rfl) (rd_by_one_letter T)
  have G_is_good_slide : FnOk P w K mg base CX0 1 (f_is_good_slide K) (fd_is_good_slide K) ps_is_good_slide (sp_is_good_slide K) := mk_is_good_slide T (fun vs H Q E h => by obtain ⟨_, _, _, hv, _⟩ := h; subst hv; rfl) (rd_is_good_slide T)
  have G_right_slide : FnOk P w K mg base CX0 2 (f_right_slide K) (fd_right_slide K) ps_right_slide (sp_right_slide K) := mk_right_slide T G_last_of G_is_good_slide (fun vs H Q E h => by obtain ⟨_, _, _, _, hv, _⟩ := h; subst hv; rfl) (rd_right_slide T)
  have G_from_right : FnOk P w K mg base CX0 3 (f_from_right K) (fd_from_right K) ps_from_right (sp_from_right K) := mk_from_right T G_right_slide G_borders_of G_compared (fun vs H Q E h => by obtain ⟨_, _, _, hv, _⟩ := h; subst hv; rfl) (rd_from_right T)
  have G_Searcher_init : FnOk P w K mg base CX0 49 (f_Searcher_init K) (fd_Searcher_init K) ps_Searcher_init (sp_Searcher_init K) := mk_Searcher_init T G_check_letters G_is_number G_checked G_kept (fun vs H Q E h => by obtain ⟨_, _, _, _, _, _, hv, _⟩ := h; subst hv; rfl) (rd_Searcher_init T)
  have G_made : FnOk P w K mg base CX0 51 (f_made K) (fd_made K) ps_made (sp_made K) := mk_made T G_check_words G_from_left G_by_one_letter G_from_right G_Searcher_init (fun vs H Q E h => by obtain ⟨_, _, _, hv, _⟩ := h; subst hv; rfl) (rd_made T)
  have G_law_pen : FnOk P w K mg base CX0 1 (f_law_pen K) (fd_law_pen K) ps_law_pen (sp_law_pen K) := mk_law_pen T (fun vs H Q E h => by obtain ⟨_, _, hv, _⟩ := h; subst hv; rfl) (rd_law_pen T)
  have G_law_draw : FnOk P w K mg base CX0 1 (f_law_draw K) (fd_law_draw K) ps_law_draw (sp_law_draw K) := mk_law_draw T (fun vs H Q E h => by obtain ⟨_, _, _, _, hv, _⟩ := h; subst hv; rfl) (rd_law_draw T)
  have G_law_pick : FnOk P w K mg base CX0 2 (f_law_pick K) (fd_law_pick K) ps_law_pick (sp_law_pick K) := mk_law_pick T G_law_draw (fun vs H Q E h => by obtain ⟨_, _, _, _, hv, _⟩ := h; subst hv; rfl) (rd_law_pick T)
  have G_law_letters : FnOk P w K mg base CX0 2 (f_law_letters K) (fd_law_letters K) ps_law_letters (sp_law_letters K) := mk_law_letters T G_law_draw (fun vs H Q E h => by obtain ⟨_, _, _, _, hv, _⟩ := h; subst hv; rfl) (rd_law_letters T)
  have G_law_word : FnOk P w K mg base CX0 3 (f_law_word K) (fd_law_word K) ps_law_word (sp_law_word K) := mk_law_word T G_law_draw G_law_pick (fun vs H Q E h => by obtain ⟨_, _, _, _, _, hv, _⟩ := h; subst hv; rfl) (rd_law_word T)
  have G_law_ways : FnOk P w K mg base CX0 1 (f_law_ways K) (fd_law_ways K) ps_law_ways (sp_law_ways K) := mk_law_ways T (fun vs H Q E h => by obtain ⟨hv, _⟩ := h; subst hv; rfl) (rd_law_ways T)
  have G_law_bent_tree : FnOk P w K mg base CX0 47 (f_law_bent_tree K) (fd_law_bent_tree K) ps_law_bent_tree (sp_law_bent_tree K 44) := ok_law_bent_tree T G_law_draw 44
  have G_law_bent : FnOk P w K mg base CX0 51 (f_law_bent K) (fd_law_bent K) ps_law_bent (sp_law_bent K) := mk_law_bent T G_law_draw G_law_bent_tree G_Searcher_init (fun vs H Q E h => by obtain ⟨_, _, _, _, _, hv, _⟩ := h; subst hv; rfl) (rd_law_bent T)
  have G_law_rules : FnOk P w K mg base CX0 4 (f_law_rules K) (fd_law_rules K) ps_law_rules (sp_law_rules K) := mk_law_rules T G_law_draw G_law_word (fun vs H Q E h => by obtain ⟨_, _, _, _, hv, _⟩ := h; subst hv; rfl) (rd_law_rules T)
  have G_Nodes_init : FnOk P w K mg base CX0 1 (f_Nodes_init K) (fd_Nodes_init K) ps_Nodes_init (sp_Nodes_init K) := mk_Nodes_init T (fun vs H Q E h => by obtain ⟨_, _, hv, _⟩ := h; subst hv; rfl) (rd_Nodes_init T)
  have G_Node_init : FnOk P w K mg base CX0 1 (f_Node_init K) (fd_Node_init K) ps_Node_init (sp_Node_init K) := mk_Node_init T (fun vs H Q E h => by obtain ⟨_, _, _, _, _, _, _, hv, _⟩ := h; subst hv; rfl) (rd_Node_init T)
  have G_Nodes_leaf : FnOk P w K mg base CX0 3 (f_Nodes_leaf K) (fd_Nodes_leaf K) ps_Nodes_leaf (sp_Nodes_leaf K) := mk_Nodes_leaf T G_Node_init (fun vs H Q E h => by obtain ⟨_, _, _, _, hv, _⟩ := h; subst hv; rfl) (rd_Nodes_leaf T)
  have G_Nodes_pair : FnOk P w K mg base CX0 3 (f_Nodes_pair K) (fd_Nodes_pair K) ps_Nodes_pair (sp_Nodes_pair K) := mk_Nodes_pair T G_Node_init (fun vs H Q E h => by obtain ⟨_, _, _, _, _, _, _, hv, _⟩ := h; subst hv; rfl) (rd_Nodes_pair T)
  have G_Nodes_often : FnOk P w K mg base CX0 4 (f_Nodes_often K) (fd_Nodes_often K) ps_Nodes_often (sp_Nodes_often K) := mk_Nodes_often T G_Nodes_pair (fun vs H Q E h => by obtain ⟨_, _, _, _, _, _, hv, _⟩ := h; subst hv; rfl) (rd_Nodes_often T)
  have G_Weave_woven : FnOk P w K mg base CX0 5 (f_Weave_woven K) (fd_Weave_woven K) ps_Weave_woven (sp_Weave_woven K) := mk_Weave_woven T G_names_in G_ordered G_is_name G_Nodes_leaf G_Nodes_often G_Nodes_pair (fun vs H Q E h => by obtain ⟨_, _, _, _, _, _, _, _, _, _, _, hv, _⟩ := h; subst hv; rfl) (rd_Weave_woven T)
  have G_Weave_init : FnOk P w K mg base CX0 6 (f_Weave_init K) (fd_Weave_init K) ps_Weave_init (sp_Weave_init K) := mk_Weave_init T G_check_letters G_check_rules G_names_in G_Nodes_init G_Weave_woven (fun vs H Q E h => by obtain ⟨_, _, _, _, _, _, _, _, hv, _⟩ := h; subst hv; rfl) (rd_Weave_init T)
  have G_Weave_letter : FnOk P w K mg base CX0 1 (f_Weave_letter K) (fd_Weave_letter K) ps_Weave_letter (sp_Weave_letter K) := mk_Weave_letter T (fun vs H Q E h => by obtain ⟨_, _, _, _, _, _, _, hv, _⟩ := h; subst hv; rfl) (rd_Weave_letter T)
  have G_Weave_part : FnOk P w K mg base CX0 2 (f_Weave_part K) (fd_Weave_part K) ps_Weave_part (sp_Weave_part K) := mk_Weave_part T G_Weave_letter (fun vs H Q E h => by obtain ⟨_, _, _, _, _, _, _, hv, _⟩ := h; subst hv; rfl) (rd_Weave_part T)
  have G_Walk_told_in : FnOk P w K mg base CX0 5 (f_Walk_told_in K) (fd_Walk_told_in K) ps_Walk_told_in (sp_Walk_told_in K) := mk_Walk_told_in T G_Walk_turns (fun vs H Q E h => by obtain ⟨_, _, _, _, _, _, _, _, _, _, _, _, _, _, _, hv, _⟩ := h; subst hv; rfl) (rd_Walk_told_in T)
  have G_Far_told_at : FnOk P w K mg base CX0 6 (f_Far_told_at K) (fd_Far_told_at K) ps_Far_told_at (sp_Far_told_at K) := mk_Far_told_at T G_Walk_told_in (fun vs H Q E h => by obtain ⟨_, _, _, _, _, _, _, _, _, _, hv, _⟩ := h; subst hv; rfl) (rd_Far_told_at T)
  exact FunD.ok T.F_law sc_law (fun vs H Q E h => by obtain ⟨_, _, hv, _⟩ := h; subst hv; rfl) fun cdv A outer s H vs Q E hr hsp => ⟨_, PSs.nox (dv_law (E := E) T hr G_law_pen G_law_letters G_law_draw G_law_rules G_law_word G_law_pick G_made G_law_ways G_law_bent G_Weave_init G_trace G_far G_Weave_part G_Far_told_at G_Weave_letter), rd_law T vs H Q E hsp⟩
end Wk
namespace WkH
open Wk PySem PySem.Spec PyProof.Rows L2
theorem facts {P : Program} {w : World} {K : PySem.W.Frag} {h : Heap} {mg : Str → Option Value} {f : Addr} (X : K.In h) (G : h.Ns mainGlobals mg) (hfa : mg ("law" : Str) = some (.ref f)) (c : SaysX K) :
    ∃ fd : FuncData, (∀ (s : Shared) (v : Value), BindsTo s fd ⟨[v], []⟩ [("_law_script", v)]) ∧ ∀ base : Heap, K.In base → base.Ns mainGlobals mg → FnOk P w K mg base CX0 52 f fd ["_law_script"] (sp_law K) := by
  obtain ⟨T⟩ := mkTx X G c.1 c.2
  have e := hfa.symm.trans T.g_law
  have e : f = f_law K := Value.ref.inj (Option.some.inj e)
  subst e
  have b := FunD.bindsA (ps := ["_law_script"]) T.F_law fun _ _ _ _ _ _ us hl => match us, hl with | [_], _ => rfl
  exact ⟨fd_law K, fun s v => b s [v] rfl, fun base _ _ => okLaw T⟩
end WkH
open PySem PySem.W PySem.Calls PyProof.Rows
set_option maxRecDepth 100000 in
set_option maxHeartbeats 0 in
theorem PySem.Challenge.cw_wordskips_k65_whole_weaves_unfolded_holds : PySem.Challenge.rw_wordskips_k65_whole_weaves_unfolded.Holds := by
  w_on; o_law
  refine HandSHeadRun.head_any (r := OpenLaw.row PySem.Challenge.rw_wordskips_k65_whole_weaves_unfolded) (q := view (OpenLaw.row PySem.Challenge.rw_wordskips_k65_whole_weaves_unfolded).prog [102]) (H := WkH.hk) (ob := WkH.ob) (M := 9000) (loose := Wk.loose) (d := HandSHeadRun.topDef (OpenLaw.row PySem.Challenge.rw_wordskips_k65_whole_weaves_unfolded).prog 102) (kwd := []) WkH.ob_eq
    (by kernel_rfl) (fun s => by kernel_rfl) WkH.run (by kernel_rfl) (by kernel_rfl) (by kernel_rfl) (by rfl) (by first | assumption | decide +kernel) (by decide +kernel) ⟨rfl, rfl, rfl, rfl, rfl, by decide +kernel⟩ ?hw ?hc
  case hw => w_witness2
  case hc =>
    refine L2.walk_ofE (l := PySem.Challenge.rw_wordskips_k65_whole_weaves_unfolded) (n := 63) (k := 52) (x := "_law_script") (CX := L2.CX0) rfl (by decide) (by kernel_rfl) ⟨rfl, by decide, by decide⟩ ?F (fun _ _ _ _ z => z)
    intro w mg fa h Y G hmg0
    obtain ⟨K, KX, c⟩ := Y
    have hmg : mg ("law" : PySem.Str) = some (.ref fa) := by
      have e : (HandSHeadRun.topDef (OpenLaw.row PySem.Challenge.rw_wordskips_k65_whole_weaves_unfolded).prog 102).name = ("law" : PySem.Str) := by kernel_rfl
      rw [← e]
      exact hmg0
    obtain ⟨fd, hb, hF⟩ := WkH.facts (P := (PySem.Challenge.rw_wordskips_k65_whole_weaves_unfolded).prog) (w := w) KX G hmg c
    exact ⟨K, fd, Wk.sp_law K, KX, hb, fun H a ns hl _ hS => ⟨a, ns, rfl, hS, fun _ => rfl⟩, hF⟩
