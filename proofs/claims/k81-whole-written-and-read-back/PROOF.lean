import PyProof.Rows.All
import Wide.All
import OpenK.AllK
import Wide.FinOn
import KE.KStateDown
import Lean
import HandS.ForMost
import HandS.More
import HandS.Defaults
import HandS.Head0
import HandS.Head1
import HandS.Head2
import HandS.HeadEnd
import HandS.HeadHook1
import HandS.HeadHook2
import HandS.HeadHook3
import HandS.HeadHook4
import PySem.Challenge.RW_watchednodes_k81_whole_written_and_read
import KE.KUnpackStar
import HandS.NoneIn
import KE.GoesEnum
import HandS.Walk
import PyProof.ReprRoads
import HandS.DictTup
import HandS.ListItems
import KE.KEqDict
import HandS.DictEq
import HandS.Set
import HandS.Strs
import HandS.IsInst
import HandS.Deep
import HandS.DictComp
import HandS.FStr
import HandS.StrMore
import HandS.TupAny
import HandS.Flow
import HandS.Finally
import HandS.CallLocal
import HandS.Style
import HandS.Exc
import HandS.WrittenGet
import HandS.Wide
import HandS.MakeKwOnly
import PyProof.Rows.StrPadFill
import HandS.RaiseMore
import PyProof.ReprLen
import PyProof.Rows.StrMeet
import PyProof.Rows.StrSplitCount
import PyProof.Rows.RegReprOcc
set_option Elab.async false
set_option linter.all false
set_option maxRecDepth 100000
set_option maxHeartbeats 4000000
set_option maxHeartbeats 0
namespace Wn
open PySem PySem.Spec PyProof.Rows L2
/-! ### the text by places -/
def top (i : Nat) : Stmt := PySem.Challenge.pw_watchednodes_k81_whole_written_and_read.main.body.getD i (.Pass ⟨0, 0, 0, 0⟩)
abbrev s_is_whole : Stmt := top 12
abbrev s_is_word : Stmt := top 13
abbrev s_is_part : Stmt := top 14
abbrev s_parts_of : Stmt := top 15
abbrev s_is_path : Stmt := top 16
abbrev s_is_place : Stmt := top 17
abbrev s_path_of : Stmt := top 18
abbrev s_parent_of : Stmt := top 19
abbrev s_last_part : Stmt := top 20
abbrev s_is_text : Stmt := top 26
abbrev s_is_count : Stmt := top 27
abbrev s_is_make : Stmt := top 28
abbrev s_is_plain : Stmt := top 29
abbrev s_first_nodes : Stmt := top 30
abbrev s_kids_of : Stmt := top 31
abbrev s_refused : Stmt := top 32
abbrev s_numbered_path : Stmt := top 33
abbrev s_make : Stmt := top 34
abbrev s_put : Stmt := top 35
abbrev s_dropped : Stmt := top 36
abbrev s_drop : Stmt := top 37
abbrev s_done_plain : Stmt := top 38
abbrev s_is_deed : Stmt := top 44
abbrev s_is_entry : Stmt := top 45
abbrev s_first_state : Stmt := top 46
abbrev s_without_owner : Stmt := top 47
abbrev s_done_all : Stmt := top 48
abbrev s_done_deed : Stmt := top 49
abbrev s_ended : Stmt := top 50
abbrev s_done : Stmt := top 51
abbrev s_goes_on : Stmt := top 53
abbrev s_is_row : Stmt := top 54
abbrev s_state_of : Stmt := top 55
abbrev s_worth_text : Stmt := top 60
abbrev s_long_text : Stmt := top 61
abbrev s_place_text : Stmt := top 62
abbrev s_deed_text : Stmt := top 63
abbrev s_show_entry : Stmt := top 64
abbrev s_show_row : Stmt := top 65
abbrev s_show_nodes : Stmt := top 66
abbrev s_number_in : Stmt := top 67
abbrev s_dotted_in : Stmt := top 68
abbrev s_W_init : Stmt := inClass (top 69) 0
abbrev s_W_word : Stmt := inClass (top 69) 1
abbrev s_W_number : Stmt := inClass (top 69) 2
abbrev s_W_count : Stmt := inClass (top 69) 3
abbrev s_W_truth : Stmt := inClass (top 69) 4
abbrev s_W_text : Stmt := inClass (top 69) 5
abbrev s_W_plain : Stmt := inClass (top 69) 6
abbrev s_W_deed : Stmt := inClass (top 69) 7
abbrev s_W_entry : Stmt := inClass (top 69) 8
abbrev s_entry_in : Stmt := top 70
abbrev s_entry_of : Stmt := top 71
abbrev s_thing_of : Stmt := top 72
abbrev s_node_of : Stmt := top 73
abbrev s_rows_of : Stmt := top 74
abbrev s_read_entry : Stmt := top 75
abbrev s_read_row : Stmt := top 76
abbrev s_read_nodes : Stmt := top 77
abbrev s_law_pool : Stmt := top 79
abbrev s_law_take : Stmt := top 80
abbrev s_law_word : Stmt := top 81
abbrev s_law_part : Stmt := top 82
abbrev s_law_line : Stmt := top 83
abbrev s_law_path : Stmt := top 84
abbrev s_law_count : Stmt := top 85
abbrev s_law_deed : Stmt := top 86
abbrev s_law_above : Stmt := top 87
abbrev s_law_kids : Stmt := top 88
abbrev s_law_make : Stmt := top 89
abbrev s_law_plainly : Stmt := top 90
abbrev s_law_left : Stmt := top 91
abbrev s_law_all_done : Stmt := top 92
abbrev s_law_does : Stmt := top 93
abbrev s_law_due : Stmt := top 94
abbrev s_law_task : Stmt := top 95
abbrev s_law_drawn_line : Stmt := top 96
abbrev s_law_gone : Stmt := top 97
abbrev s_law_far_right : Stmt := top 98
abbrev s_law : Stmt := top 99
/-! ### the defs as data -/
def d_is_whole : He.DefD := ⟨("is_whole", none), "is_whole", "is_whole", defArgs s_is_whole, defBody s_is_whole, defScope s_is_whole, [], []⟩
def d_is_word : He.DefD := ⟨("is_word", none), "is_word", "is_word", defArgs s_is_word, defBody s_is_word, defScope s_is_word, [], []⟩
def d_is_part : He.DefD := ⟨("is_part", none), "is_part", "is_part", defArgs s_is_part, defBody s_is_part, defScope s_is_part, [], []⟩
def d_parts_of : He.DefD := ⟨("parts_of", none), "parts_of", "parts_of", defArgs s_parts_of, defBody s_parts_of, defScope s_parts_of, [], []⟩
def d_is_path : He.DefD := ⟨("is_path", none), "is_path", "is_path", defArgs s_is_path, defBody s_is_path, defScope s_is_path, [], []⟩
def d_is_place : He.DefD := ⟨("is_place", none), "is_place", "is_place", defArgs s_is_place, defBody s_is_place, defScope s_is_place, [], []⟩
def d_path_of : He.DefD := ⟨("path_of", none), "path_of", "path_of", defArgs s_path_of, defBody s_path_of, defScope s_path_of, [], []⟩
def d_parent_of : He.DefD := ⟨("parent_of", none), "parent_of", "parent_of", defArgs s_parent_of, defBody s_parent_of, defScope s_parent_of, [], []⟩
def d_last_part : He.DefD := ⟨("last_part", none), "last_part", "last_part", defArgs s_last_part, defBody s_last_part, defScope s_last_part, [], []⟩
def d_is_text : He.DefD := ⟨("is_text", none), "is_text", "is_text", defArgs s_is_text, defBody s_is_text, defScope s_is_text, [], []⟩
def d_is_count : He.DefD := ⟨("is_count", none), "is_count", "is_count", defArgs s_is_count, defBody s_is_count, defScope s_is_count, [], []⟩
def d_is_make : He.DefD := ⟨("is_make", none), "is_make", "is_make", defArgs s_is_make, defBody s_is_make, defScope s_is_make, [], []⟩
def d_is_plain : He.DefD := ⟨("is_plain", none), "is_plain", "is_plain", defArgs s_is_plain, defBody s_is_plain, defScope s_is_plain, [], []⟩
def d_first_nodes : He.DefD := ⟨("first_nodes", none), "first_nodes", "first_nodes", defArgs s_first_nodes, defBody s_first_nodes, defScope s_first_nodes, [], []⟩
def d_kids_of : He.DefD := ⟨("kids_of", none), "kids_of", "kids_of", defArgs s_kids_of, defBody s_kids_of, defScope s_kids_of, [], []⟩
def d_refused : He.DefD := ⟨("refused", none), "refused", "refused", defArgs s_refused, defBody s_refused, defScope s_refused, [], []⟩
def d_numbered_path : He.DefD := ⟨("numbered_path", none), "numbered_path", "numbered_path", defArgs s_numbered_path, defBody s_numbered_path, defScope s_numbered_path, [], []⟩
def d_make : He.DefD := ⟨("make", none), "make", "make", defArgs s_make, defBody s_make, defScope s_make, [], []⟩
def d_put : He.DefD := ⟨("put", none), "put", "put", defArgs s_put, defBody s_put, defScope s_put, [], []⟩
def d_dropped : He.DefD := ⟨("dropped", none), "dropped", "dropped", defArgs s_dropped, defBody s_dropped, defScope s_dropped, [], []⟩
def d_drop : He.DefD := ⟨("drop", none), "drop", "drop", defArgs s_drop, defBody s_drop, defScope s_drop, [], []⟩
def d_done_plain : He.DefD := ⟨("done_plain", none), "done_plain", "done_plain", defArgs s_done_plain, defBody s_done_plain, defScope s_done_plain, [], []⟩
def d_is_deed : He.DefD := ⟨("is_deed", none), "is_deed", "is_deed", defArgs s_is_deed, defBody s_is_deed, defScope s_is_deed, [], []⟩
def d_is_entry : He.DefD := ⟨("is_entry", none), "is_entry", "is_entry", defArgs s_is_entry, defBody s_is_entry, defScope s_is_entry, [], []⟩
def d_first_state : He.DefD := ⟨("first_state", none), "first_state", "first_state", defArgs s_first_state, defBody s_first_state, defScope s_first_state, [], []⟩
def d_without_owner : He.DefD := ⟨("without_owner", none), "without_owner", "without_owner", defArgs s_without_owner, defBody s_without_owner, defScope s_without_owner, [], []⟩
def d_done_all : He.DefD := ⟨("done_all", none), "done_all", "done_all", defArgs s_done_all, defBody s_done_all, defScope s_done_all, [], []⟩
def d_done_deed : He.DefD := ⟨("done_deed", none), "done_deed", "done_deed", defArgs s_done_deed, defBody s_done_deed, defScope s_done_deed, [], []⟩
def d_ended : He.DefD := ⟨("ended", none), "ended", "ended", defArgs s_ended, defBody s_ended, defScope s_ended, [], []⟩
def d_done : He.DefD := ⟨("done", none), "done", "done", defArgs s_done, defBody s_done, defScope s_done, [], []⟩
def d_goes_on : He.DefD := ⟨("goes_on", none), "goes_on", "goes_on", defArgs s_goes_on, defBody s_goes_on, defScope s_goes_on, [], []⟩
def d_is_row : He.DefD := ⟨("is_row", none), "is_row", "is_row", defArgs s_is_row, defBody s_is_row, defScope s_is_row, [], []⟩
def d_state_of : He.DefD := ⟨("state_of", none), "state_of", "state_of", defArgs s_state_of, defBody s_state_of, defScope s_state_of, [], []⟩
def d_worth_text : He.DefD := ⟨("worth_text", none), "worth_text", "worth_text", defArgs s_worth_text, defBody s_worth_text, defScope s_worth_text, [], []⟩
def d_long_text : He.DefD := ⟨("long_text", none), "long_text", "long_text", defArgs s_long_text, defBody s_long_text, defScope s_long_text, [], []⟩
def d_place_text : He.DefD := ⟨("place_text", none), "place_text", "place_text", defArgs s_place_text, defBody s_place_text, defScope s_place_text, [], []⟩
def d_deed_text : He.DefD := ⟨("deed_text", none), "deed_text", "deed_text", defArgs s_deed_text, defBody s_deed_text, defScope s_deed_text, [], []⟩
def d_show_entry : He.DefD := ⟨("show_entry", none), "show_entry", "show_entry", defArgs s_show_entry, defBody s_show_entry, defScope s_show_entry, [], []⟩
def d_show_row : He.DefD := ⟨("show_row", none), "show_row", "show_row", defArgs s_show_row, defBody s_show_row, defScope s_show_row, [], []⟩
def d_show_nodes : He.DefD := ⟨("show_nodes", none), "show_nodes", "show_nodes", defArgs s_show_nodes, defBody s_show_nodes, defScope s_show_nodes, [], []⟩
def d_number_in : He.DefD := ⟨("number_in", none), "number_in", "number_in", defArgs s_number_in, defBody s_number_in, defScope s_number_in, [], []⟩
def d_dotted_in : He.DefD := ⟨("dotted_in", none), "dotted_in", "dotted_in", defArgs s_dotted_in, defBody s_dotted_in, defScope s_dotted_in, [], []⟩
def d_W_init : He.DefD := ⟨("Words", some "__init__"), "__init__", "Words.__init__", defArgs s_W_init, defBody s_W_init, defScope s_W_init, [], []⟩
def d_W_word : He.DefD := ⟨("Words", some "word"), "word", "Words.word", defArgs s_W_word, defBody s_W_word, defScope s_W_word, [], []⟩
def d_W_number : He.DefD := ⟨("Words", some "number"), "number", "Words.number", defArgs s_W_number, defBody s_W_number, defScope s_W_number, [], []⟩
def d_W_count : He.DefD := ⟨("Words", some "count"), "count", "Words.count", defArgs s_W_count, defBody s_W_count, defScope s_W_count, [], []⟩
def d_W_truth : He.DefD := ⟨("Words", some "truth"), "truth", "Words.truth", defArgs s_W_truth, defBody s_W_truth, defScope s_W_truth, [], []⟩
def d_W_text : He.DefD := ⟨("Words", some "text"), "text", "Words.text", defArgs s_W_text, defBody s_W_text, defScope s_W_text, [], []⟩
def d_W_plain : He.DefD := ⟨("Words", some "plain"), "plain", "Words.plain", defArgs s_W_plain, defBody s_W_plain, defScope s_W_plain, [], []⟩
def d_W_deed : He.DefD := ⟨("Words", some "deed"), "deed", "Words.deed", defArgs s_W_deed, defBody s_W_deed, defScope s_W_deed, [], []⟩
def d_W_entry : He.DefD := ⟨("Words", some "entry"), "entry", "Words.entry", defArgs s_W_entry, defBody s_W_entry, defScope s_W_entry, [], []⟩
def d_entry_in : He.DefD := ⟨("entry_in", none), "entry_in", "entry_in", defArgs s_entry_in, defBody s_entry_in, defScope s_entry_in, [], []⟩
def d_entry_of : He.DefD := ⟨("entry_of", none), "entry_of", "entry_of", defArgs s_entry_of, defBody s_entry_of, defScope s_entry_of, [], []⟩
def d_thing_of : He.DefD := ⟨("thing_of", none), "thing_of", "thing_of", defArgs s_thing_of, defBody s_thing_of, defScope s_thing_of, [], []⟩
def d_node_of : He.DefD := ⟨("node_of", none), "node_of", "node_of", defArgs s_node_of, defBody s_node_of, defScope s_node_of, [], []⟩
def d_rows_of : He.DefD := ⟨("rows_of", none), "rows_of", "rows_of", defArgs s_rows_of, defBody s_rows_of, defScope s_rows_of, [], []⟩
def d_read_entry : He.DefD := ⟨("read_entry", none), "read_entry", "read_entry", defArgs s_read_entry, defBody s_read_entry, defScope s_read_entry, [], []⟩
def d_read_row : He.DefD := ⟨("read_row", none), "read_row", "read_row", defArgs s_read_row, defBody s_read_row, defScope s_read_row, [], []⟩
def d_read_nodes : He.DefD := ⟨("read_nodes", none), "read_nodes", "read_nodes", defArgs s_read_nodes, defBody s_read_nodes, defScope s_read_nodes, [], []⟩
def d_law_pool : He.DefD := ⟨("_law_pool", none), "_law_pool", "_law_pool", defArgs s_law_pool, defBody s_law_pool, defScope s_law_pool, [], []⟩
def d_law_take : He.DefD := ⟨("_law_take", none), "_law_take", "_law_take", defArgs s_law_take, defBody s_law_take, defScope s_law_take, [], []⟩
def d_law_word : He.DefD := ⟨("_law_word", none), "_law_word", "_law_word", defArgs s_law_word, defBody s_law_word, defScope s_law_word, [], []⟩
def d_law_part : He.DefD := ⟨("_law_part", none), "_law_part", "_law_part", defArgs s_law_part, defBody s_law_part, defScope s_law_part, [], []⟩
def d_law_line : He.DefD := ⟨("_law_line", none), "_law_line", "_law_line", defArgs s_law_line, defBody s_law_line, defScope s_law_line, [], []⟩
def d_law_path : He.DefD := ⟨("_law_path", none), "_law_path", "_law_path", defArgs s_law_path, defBody s_law_path, defScope s_law_path, [], []⟩
def d_law_count : He.DefD := ⟨("_law_count", none), "_law_count", "_law_count", defArgs s_law_count, defBody s_law_count, defScope s_law_count, [], []⟩
def d_law_deed : He.DefD := ⟨("_law_deed", none), "_law_deed", "_law_deed", defArgs s_law_deed, defBody s_law_deed, defScope s_law_deed, [], []⟩
def d_law_above : He.DefD := ⟨("_law_above", none), "_law_above", "_law_above", defArgs s_law_above, defBody s_law_above, defScope s_law_above, [], []⟩
def d_law_kids : He.DefD := ⟨("_law_kids", none), "_law_kids", "_law_kids", defArgs s_law_kids, defBody s_law_kids, defScope s_law_kids, [], []⟩
def d_law_make : He.DefD := ⟨("_law_make", none), "_law_make", "_law_make", defArgs s_law_make, defBody s_law_make, defScope s_law_make, [], []⟩
def d_law_plainly : He.DefD := ⟨("_law_plainly", none), "_law_plainly", "_law_plainly", defArgs s_law_plainly, defBody s_law_plainly, defScope s_law_plainly, [], []⟩
def d_law_left : He.DefD := ⟨("_law_left", none), "_law_left", "_law_left", defArgs s_law_left, defBody s_law_left, defScope s_law_left, [], []⟩
def d_law_all_done : He.DefD := ⟨("_law_all_done", none), "_law_all_done", "_law_all_done", defArgs s_law_all_done, defBody s_law_all_done, defScope s_law_all_done, [], []⟩
def d_law_does : He.DefD := ⟨("_law_does", none), "_law_does", "_law_does", defArgs s_law_does, defBody s_law_does, defScope s_law_does, [], []⟩
def d_law_due : He.DefD := ⟨("_law_due", none), "_law_due", "_law_due", defArgs s_law_due, defBody s_law_due, defScope s_law_due, [], []⟩
def d_law_task : He.DefD := ⟨("_law_task", none), "_law_task", "_law_task", defArgs s_law_task, defBody s_law_task, defScope s_law_task, [], []⟩
def d_law_drawn_line : He.DefD := ⟨("_law_drawn_line", none), "_law_drawn_line", "_law_drawn_line", defArgs s_law_drawn_line, defBody s_law_drawn_line, defScope s_law_drawn_line, [], []⟩
def d_law_gone : He.DefD := ⟨("_law_gone", none), "_law_gone", "_law_gone", defArgs s_law_gone, defBody s_law_gone, defScope s_law_gone, [], []⟩
def d_law_far_right : He.DefD := ⟨("_law_far_right", none), "_law_far_right", "_law_far_right", defArgs s_law_far_right, defBody s_law_far_right, defScope s_law_far_right, [], []⟩
def d_law : He.DefD := ⟨("law", none), "law", "law", defArgs s_law, defBody s_law, defScope s_law, [], []⟩
def fn0 : List He.DefD := [d_is_whole, d_is_word, d_is_part, d_parts_of, d_is_path, d_is_place, d_path_of, d_parent_of, d_last_part, d_is_text, d_is_count, d_is_make, d_is_plain, d_first_nodes, d_kids_of, d_refused, d_numbered_path, d_make, d_put, d_dropped, d_drop, d_done_plain, d_is_deed, d_is_entry, d_first_state, d_without_owner, d_done_all, d_done_deed, d_ended, d_done]
def fn1 : List He.DefD := [d_goes_on, d_is_row, d_state_of, d_worth_text, d_long_text, d_place_text, d_deed_text, d_show_entry, d_show_row, d_show_nodes, d_number_in, d_dotted_in, d_W_init, d_W_word, d_W_number, d_W_count, d_W_truth, d_W_text, d_W_plain, d_W_deed, d_W_entry, d_entry_in, d_entry_of, d_thing_of, d_node_of, d_rows_of, d_read_entry, d_read_row, d_read_nodes, d_law_pool]
def fn2 : List He.DefD := [d_law_take, d_law_word, d_law_part, d_law_line, d_law_path, d_law_count, d_law_deed, d_law_above, d_law_kids, d_law_make, d_law_plainly, d_law_left, d_law_all_done, d_law_does, d_law_due, d_law_task, d_law_drawn_line, d_law_gone, d_law_far_right, d_law]
def fn : List He.DefD := fn0 ++ fn1 ++ fn2
def fa0 : List He.Fa := [.glo "is_whole", .glo "is_word", .glo "is_part", .glo "parts_of", .glo "is_path", .glo "is_place", .glo "path_of", .glo "parent_of", .glo "last_part", .glo "is_text", .glo "is_count", .glo "is_make", .glo "is_plain", .glo "first_nodes", .glo "kids_of", .glo "refused", .glo "numbered_path", .glo "make", .glo "put", .glo "dropped", .glo "drop", .glo "done_plain", .glo "is_deed", .glo "is_entry", .glo "first_state", .glo "without_owner", .glo "done_all", .glo "done_deed", .glo "ended", .glo "done"]
def fa1 : List He.Fa := [.glo "goes_on", .glo "is_row", .glo "state_of", .glo "worth_text", .glo "long_text", .glo "place_text", .glo "deed_text", .glo "show_entry", .glo "show_row", .glo "show_nodes", .glo "number_in", .glo "dotted_in", .glo "Words", .glo "entry_in", .glo "entry_of", .glo "thing_of", .glo "node_of", .glo "rows_of", .glo "read_entry", .glo "read_row", .glo "read_nodes", .glo "_law_pool", .glo "_law_take", .glo "_law_word", .glo "_law_part", .glo "_law_line", .glo "_law_path", .glo "_law_count", .glo "_law_deed", .glo "_law_above"]
def fa2 : List He.Fa := [.glo "_law_kids", .glo "_law_make", .glo "_law_plainly", .glo "_law_left", .glo "_law_all_done", .glo "_law_does", .glo "_law_due", .glo "_law_task", .glo "_law_drawn_line", .glo "_law_gone", .glo "_law_far_right", .glo "law", .glo "LONG", .glo "TRUTHS", .glo "NOWHERE", .glo "OK", .glo "NEVER", .free "isinstance", .free "int", .free "bool", .free "str", .free "len", .free "all", .free "tuple", .free "list", .free "dict", .free "sorted", .free "enumerate", .free "set", .free "min"]
def fa3 : List He.Fa := [.free "max", .free "range", .free "repr", .free "abs", .str "LETTERS" "abcdefghijklmnopqrstuvwxyz", .str "FIGURES" "0123456789", .str "ROOT" "/", .str "NONE" "-", .int "LONGEST" 8, .int "MOST_PARTS" 5, .int "MANY_FIGURES" 6, .int "MOST_NODES" 60, .int "MOST_MADE" 999999, .int "MOST_TEXT" 40, .int "MOST_DEEDS" 6, .int "MOST_LIMIT" 1000, .cls "Words", .noat "Words" "rest", .noat "Words" "more", .mkr "Words", .keep "Words", .meth "Words" "word", .meth "Words" "number", .meth "Words" "count", .meth "Words" "truth", .meth "Words" "text", .meth "Words" "plain", .meth "Words" "deed", .meth "Words" "entry"]
def fa : List He.Fa := fa0 ++ fa1 ++ fa2 ++ fa3
def loose0 : List PySem.Str := ["NoDeed", "NoEntry", "NoText", "LETTERS", "FIGURES", "LONGEST", "MOST_PARTS", "MANY_FIGURES", "ROOT", "NOWHERE", "is_whole", "is_word", "is_part", "parts_of", "is_path", "is_place", "path_of", "parent_of", "last_part", "MOST_NODES", "MOST_MADE", "MOST_TEXT", "LONG", "is_text", "is_count", "is_make", "is_plain", "first_nodes", "kids_of", "refused"]
def loose1 : List PySem.Str := ["numbered_path", "make", "put", "dropped", "drop", "done_plain", "MOST_DEEDS", "MOST_LIMIT", "OK", "NEVER", "is_deed", "is_entry", "first_state", "without_owner", "done_all", "done_deed", "ended", "done", "goes_on", "is_row", "state_of", "NONE", "TRUTHS", "Odd", "worth_text", "long_text", "place_text", "deed_text", "show_entry", "show_row"]
def loose2 : List PySem.Str := ["show_nodes", "number_in", "dotted_in", "Words", "entry_in", "entry_of", "thing_of", "node_of", "rows_of", "read_entry", "read_row", "read_nodes", "_law_pool", "_law_take", "_law_word", "_law_part", "_law_line", "_law_path", "_law_count", "_law_deed", "_law_above", "_law_kids", "_law_make", "_law_plainly", "_law_left", "_law_all_done", "_law_does", "_law_due", "_law_task", "_law_drawn_line"]
def loose3 : List PySem.Str := ["_law_gone", "_law_far_right"]
def loose : List PySem.Str := loose0 ++ loose1 ++ loose2 ++ loose3
def ts : List He.Tab := [(fun K => He.ga K "LONG", ["make", "put", "drop", "see"]), (fun K => He.ga K "TRUTHS", ["yes", "no"])]
def exB (K : PySem.W.Frag) : Bool := He.tupB K "NOWHERE" [.int 0, .int 0] && (He.tupB K "OK" [.str "ok", .non] && (He.tupB K "NEVER" [.non, .int 0, .non, .glo "NOWHERE"] && (He.valsB K (He.ga K "LONG") [("make", .int 5), ("put", .int 4), ("drop", .int 3), ("see", .int 3)] && He.valsB K (He.ga K "TRUTHS") [("yes", .bl true), ("no", .bl false)])))
abbrev R : PySem.W.OpenRow := PySem.W.OpenLaw.row PySem.Challenge.rw_watchednodes_k81_whole_written_and_read
def adr0 : List Addr := [3, 75, 81, 82, 86, 87, 91, 92, 98, 99, 103, 104, 108, 109, 115, 116, 122, 123, 129, 130, 131, 135, 136, 142, 143, 149, 150, 156, 157, 163]
def adr1 : List Addr := [164, 168, 169, 175, 176, 182, 183, 189, 190, 196, 197, 201, 202, 208, 209, 215, 216, 217, 218, 222, 223, 229, 230, 236, 237, 241, 242, 248, 249, 255]
def adr2 : List Addr := [256, 262, 263, 267, 268, 274, 275, 281, 282, 288, 289, 290, 309, 310, 316, 317, 323, 324, 328, 329, 335, 336, 340, 341, 347, 348, 352, 353, 359, 360]
def adr3 : List Addr := [373, 374, 380, 381, 387, 388, 394, 395, 401, 402, 408, 409, 415, 416, 420, 421, 427, 428, 430, 431, 441, 442, 448, 449, 455, 456, 462, 463, 469, 470]
def adr4 : List Addr := [476, 477, 483, 484, 488, 489, 495, 496, 502, 503, 507, 508, 514, 515, 519, 520, 526, 527, 533, 534, 540, 541, 547, 548, 552, 553, 559, 560, 566, 567]
def adr5 : List Addr := [573, 574, 580, 581, 587, 588, 594, 595, 599, 600, 606, 607, 613, 614, 618, 619, 623, 624]
def adrs : List Addr := adr0 ++ adr1 ++ adr2 ++ adr3 ++ adr4 ++ adr5
/-- the head's hook: the facts over the objects at adrs alone -/
def obsL (g : Addr → Option Obj) : He.AlT × Bool := (He.obsT fa fn ts (He.frG g adrs), exB (He.frG g adrs))
def Says (w : World) (K : PySem.W.Frag) : Prop := He.SaysT fa fn ts w K ∧ exB K = true
def hk : PySem.W.Hook where
  α := He.AlT × Bool
  obs := fun s => obsL s.heap.get?
  val := fun w => (He.valT fn ts w, true)
  says := fun w h => ∃ K : PySem.W.Frag, K.In h ∧ Says w K
  of := fun _ _ e => ⟨_, He.frG_in, congrArg (fun z : He.AlT × Bool => z.1) e, congrArg (fun z : He.AlT × Bool => z.2) e⟩
  keeps := fun _ _ _ ⟨K, hK, c⟩ k => ⟨K, PySem.W.Frag.In.keeps hK k, c⟩
def ob (s : PySem.W.SharedT) : He.AlT × Bool := obsL (HandSHeadRun.getT s)
theorem ob_eq (s : PySem.W.SharedT) : ob s = hk.obs s.abs := by
  have e : HandSHeadRun.getT s = s.abs.heap.get? := funext (HandSHeadRun.getT_eq s)
  unfold ob
  rw [e]
  rfl
theorem run0 (w : World) : HandSHeadRun.RunEq R (PySem.W.view R.prog [99]) hk ob 8000 loose (w.withFollow "special-get-raises" false) := by
  intro os
  kernel_rfl
theorem run1 (w : World) : HandSHeadRun.RunEq R (PySem.W.view R.prog [99]) hk ob 8000 loose (w.withFollow "special-get-raises" true) := by
  intro os
  kernel_rfl
theorem run (w : World) : HandSHeadRun.RunEq R (PySem.W.view R.prog [99]) hk ob 8000 loose w :=
  PySem.W.byRow2 "special-get-raises" (P := fun w => HandSHeadRun.RunEq R (PySem.W.view R.prog [99]) hk ob 8000 loose w) run0 run1 w
end Wn

/-! The statement from the law's walk alone: the top's part of the end, early, for it wants much memory for a while. -/
namespace Wn
open PySem PySem.W PySem.Calls PyProof.Rows
theorem fin (hc : PySem.W.WalkO (view (OpenLaw.row PySem.Challenge.rw_watchednodes_k81_whole_written_and_read).prog [99]) Wn.loose (XL (view (OpenLaw.row PySem.Challenge.rw_watchednodes_k81_whole_written_and_read).prog [99]) []) Wn.hk.says (OpenLaw.row PySem.Challenge.rw_watchednodes_k81_whole_written_and_read).toRowW (HandSHeadRun.topDef (OpenLaw.row PySem.Challenge.rw_watchednodes_k81_whole_written_and_read).prog 99) [] fun f vs => PySem.call f vs) : PySem.Challenge.rw_watchednodes_k81_whole_written_and_read.Holds := by
  w_on; o_law
  refine HandSHeadRun.head_any (r := OpenLaw.row PySem.Challenge.rw_watchednodes_k81_whole_written_and_read) (q := view (OpenLaw.row PySem.Challenge.rw_watchednodes_k81_whole_written_and_read).prog [99]) (H := Wn.hk) (ob := Wn.ob) (M := 8000) (loose := Wn.loose) (d := HandSHeadRun.topDef (OpenLaw.row PySem.Challenge.rw_watchednodes_k81_whole_written_and_read).prog 99) (kwd := []) Wn.ob_eq
    (by kernel_rfl) (fun s => by kernel_rfl) Wn.run (by kernel_rfl) (by kernel_rfl) (by kernel_rfl) (by rfl) (by first | assumption | decide +kernel) (by decide +kernel) ⟨rfl, rfl, rfl, rfl, rfl, by decide +kernel⟩ ?hw hc
  case hw => w_witness2
end Wn

/-! Own rules: a, *rest = t; a target o.f in a tuple of targets; enumerate of a tuple. -/
namespace Wn
open PySem PySem.Spec PyProof.Rows L2
section
variable {prog : Program} {w : World} {A : Around} {E : Value → Shared → Prop} {s : Shared}
/-- unpacking a tuple with a star at the end: i names, then a new list of the rest -/
theorem un_starT {l : Addr} {its : Array Value} {i : Nat} {Q : List Value → Shared → Prop} (hl : IsTup s.heap l its) (hh : A.handled = none) (hi : i ≤ its.size) (hz : its.size ≤ sizeLine)
    (h : ∀ (h' : Heap) (tk : Nat), (∀ b o, s.heap.get? b = some o → h'.get? b = some o) → Q (its.toList.take i ++ [.ref h'.objs.size])
      { s with heap := h'.push { cls := .type "list", data := .seq (its.toList.drop i).toArray }, toks := tk }) : wpAny (model prog w) A (unpackItems (.ref l) (i + 1) (some i)) Q E s := by
  have ne1 : l ≠ s.heap.objs.size := by
    obtain ⟨o, ho, _⟩ := hl
    exact Nat.ne_of_lt (Heap.lt_size ho)
  unfold unpackItems
  refine wpAny_bind ?_
  unfold notIterableAtAll
  refine wpAny_bind (wpAny_specialOf hl.typeIs slot_tuple_iter.lookup (wpAny_pure ?_))
  simp only [Bool.false_eq_true, if_false]
  refine wpAny_bind (wpAny_holding (iter_tuple hl ?_))
  refine wpAny_bind (wpAny_holding (draw_tuple ne1 i 0 _ _ ⟨_, Heap.get?_push_size _ rfl, rfl, rfl⟩ (hl.push _) (by omega) fun g1 it1 sb1 => ?_))
  have hl1 : IsTup g1 l its := (hl.push _).extBut sb1.extBut ne1
  rw [Nat.zero_add] at it1
  have lt1 : s.heap.objs.size < g1.objs.size := by
    obtain ⟨o, ho, _⟩ := it1
    exact Heap.lt_size ho
  have lt2 : l < g1.objs.size := by
    obtain ⟨o, ho, _⟩ := hl1
    exact Heap.lt_size ho
  rw [List.drop_zero]
  have e1 : (its.toList.take i).length = i := by
    rw [List.length_take, Array.length_toList]
    omega
  rw [if_neg (show ¬ ((its.toList.take i).length < i) by rw [e1]; omega)]
  refine wpAny_bind (wpAny_holding (PySem.W.kun_collect (s := { s with heap := g1 }) (T := "tuple_iterator") (.inr (.inr (.inr rfl))) (Walks.tuple (A := A.in1) hh s.heap.objs.size l ne1 its) (fun j u st => st.1.typeIs) (k := i) hi ⟨it1, hl1⟩ lt1 lt2 (fun g2 tk k2 => ?_) hz))
  show wpAny _ _ (if (its.toList.drop i).length < i + 1 - 1 - i then _ else _) _ _ _
  rw [if_neg (by omega)]
  have e2 : (its.toList.drop i).length - (i + 1 - 1 - i) = (its.toList.drop i).length := by omega
  show wpAny _ _ (newList ((its.toList.drop i).take ((its.toList.drop i).length - (i + 1 - 1 - i))) >>= fun d => pure (its.toList.take i ++ [d] ++ (its.toList.drop i).drop ((its.toList.drop i).length - (i + 1 - 1 - i)))) _ _ _
  rw [e2, List.take_length, List.drop_length]
  refine wpAny_bind (wpAny_newList (wpAny_pure ?_) (by rw [List.length_drop, Array.length_toList]; omega))
  rw [List.append_nil]
  exact h g2 tk fun b o e => k2 b o (Nat.ne_of_lt (Heap.lt_size e)) (sb1.extBut b o (Nat.ne_of_lt (Heap.lt_size e)) (Heap.get?_push_of_some _ e))
/-- the same of a list -/
theorem un_starL {l : Addr} {its : Array Value} {i : Nat} {Q : List Value → Shared → Prop} (hl : s.heap.IsList l its) (hh : A.handled = none) (hi : i ≤ its.size) (hz : its.size ≤ sizeLine)
    (h : ∀ (h' : Heap) (tk : Nat), (∀ b o, s.heap.get? b = some o → h'.get? b = some o) → Q (its.toList.take i ++ [.ref h'.objs.size])
      { s with heap := h'.push { cls := .type "list", data := .seq (its.toList.drop i).toArray }, toks := tk }) : wpAny (model prog w) A (unpackItems (.ref l) (i + 1) (some i)) Q E s := by
  have ne1 : l ≠ s.heap.objs.size := by
    obtain ⟨o, ho, _⟩ := hl
    exact Nat.ne_of_lt (Heap.lt_size ho)
  unfold unpackItems
  refine wpAny_bind ?_
  unfold notIterableAtAll
  refine wpAny_bind (wpAny_specialOf hl.typeIs slot_list_iter.lookup (wpAny_pure ?_))
  simp only [Bool.false_eq_true, if_false]
  refine wpAny_bind (wpAny_holding (wpAny_pyIter_list hl ?_))
  refine wpAny_bind (wpAny_holding (PySem.W.kun_draw ne1 i 0 _ _ ⟨_, Heap.get?_push_size _ rfl, rfl, rfl⟩ (hl.push _) (by omega) fun g1 it1 sb1 => ?_))
  have hl1 : g1.IsList l its := (hl.push _).extBut sb1.extBut ne1
  rw [Nat.zero_add] at it1
  have lt1 : s.heap.objs.size < g1.objs.size := by
    obtain ⟨o, ho, _⟩ := id it1
    exact Heap.lt_size ho
  have lt2 : l < g1.objs.size := by
    obtain ⟨o, ho, _⟩ := id hl1
    exact Heap.lt_size ho
  rw [List.drop_zero]
  have e1 : (its.toList.take i).length = i := by
    rw [List.length_take, Array.length_toList]
    omega
  rw [if_neg (show ¬ ((its.toList.take i).length < i) by rw [e1]; omega)]
  refine wpAny_bind (wpAny_holding (PySem.W.kun_collect (s := { s with heap := g1 }) (T := "list_iterator") (.inr (.inr (.inl rfl))) (Walks.list (A := A.in1) hh s.heap.objs.size l ne1 its) (fun j u st => st.1.typeIs) (k := i) hi ⟨it1, hl1⟩ lt1 lt2 (fun g2 tk k2 => ?_) hz))
  show wpAny _ _ (if (its.toList.drop i).length < i + 1 - 1 - i then _ else _) _ _ _
  rw [if_neg (by omega)]
  have e2 : (its.toList.drop i).length - (i + 1 - 1 - i) = (its.toList.drop i).length := by omega
  show wpAny _ _ (newList ((its.toList.drop i).take ((its.toList.drop i).length - (i + 1 - 1 - i))) >>= fun d => pure (its.toList.take i ++ [d] ++ (its.toList.drop i).drop ((its.toList.drop i).length - (i + 1 - 1 - i)))) _ _ _
  rw [e2, List.take_length, List.drop_length]
  refine wpAny_bind (wpAny_newList (wpAny_pure ?_) (by rw [List.length_drop, Array.length_toList]; omega))
  rw [List.append_nil]
  exact h g2 tk fun b o e => k2 b o (Nat.ne_of_lt (Heap.lt_size e)) (sb1.extBut b o (Nat.ne_of_lt (Heap.lt_size e)) (Heap.get?_push_of_some _ e))
end
section
variable {X : Cx} {pos : Pos}
/-- (a, .., *r) = a tuple or a list of at least i items -/
def gStar (K : PySem.W.Frag) (i : Nat) (t : TGs) : TG := fun v σ H Q => ∃ a xs, v = .ref a ∧ (SqT K H a xs ∨ SqL K H a xs) ∧ i ≤ xs.length ∧ xs.length ≤ 1000 ∧ ∀ p, H p = none → t (xs.take i ++ [.ref p]) σ (upd H p (.lst (xs.drop i))) Q
theorem pg_star {es : List Expr} {k : Nat} {t : TGs} {i : Nat} (hc : X.calm = true) (h : PGs X (es.map fun e => match e with | .Starred x _ => x | x => x) t)
    (he : (assignEach es X.env).map (·.2) = (assignEach (es.map fun e => match e with | .Starred x _ => x | x => x) X.env).map (·.2) := by rfl)
    (hn : (assignEach es X.env).length = i + 1 := by rfl) (hst : (assignEach es X.env).findIdx? (·.1) = some i := by rfl) : PG X (.Tuple es k pos) (gStar X.K i t) := by
  refine ⟨fun pins s σ H v u Q I r hw => ?_⟩
  obtain ⟨a, xs, e1, hq, hl, hz, hw⟩ := hw
  subst e1
  cases r
  have hz' : xs.length ≤ sizeLine := Nat.le_trans hz (by decide)
  rw [PyProof.Rows.assign_Tuple]
  refine wpAny_bind (wpAny_standAt ?_)
  unfold unpack
  rw [hn, hst]
  have fin : ∀ its : List Value, Vals xs its → ∀ (h' : Heap) (tk : Nat), (∀ b o, s.heap.get? b = some o → h'.get? b = some o) →
      wpAny (model X.prog X.w) X.A (assignInOrder ((assignEach es X.env).map (·.2)) (its.toArray.toList.take i ++ [.ref h'.objs.size])) (fun _ s' => ∃ σ' H', Inv X pins σ' H' s' ∧ Q σ' H') X.xe { s with heap := h'.push { cls := .type "list", data := .seq (its.toArray.toList.drop i).toArray }, toks := tk } := fun its rv h' tk kp => by
    have I1 : Inv X pins σ H { s with heap := h', toks := tk } := I.kept kp
    have hp := I1.hok.fresh (Nat.le_refl _)
    have I2 : Inv X pins σ (upd H h'.objs.size (.lst (xs.drop i))) { s with heap := h'.push { cls := .type "list", data := .seq (its.drop i).toArray }, toks := tk } :=
      I1.laid (t' := tk) (fun b o e => Heap.get?_push_of_some _ e) (Nat.le_refl _) ⟨by rw [List.length_drop]; omega, its.drop i, _, rv.drop i, Heap.get?_push_size _ rfl⟩
    rw [he]
    exact h.run pins _ σ _ _ _ Q I2 ((rv.take i).append (.cons (show RelV (.ref h'.objs.size) (.ref h'.objs.size) from rfl) .nil)) (hw _ hp)
  rcases hq with hq | hq
  · obtain ⟨its, rv, ht, _⟩ := I.tuple hq
    have hl2 := rv.length
    exact wpAny_bind (wpAny_holding (un_starT ht (I.ok.hd hc) (by simp; omega) (by simp; omega) (fin its rv)))
  · obtain ⟨its, rv, pl, _⟩ := I.list hq
    have hl2 := rv.length
    have hl' : s.heap.IsList a its.toArray := by
      obtain ⟨o, m, e, c, d, q⟩ := pl
      exact ⟨o, e, c, m, q⟩
    exact wpAny_bind (wpAny_holding (un_starL hl' (I.ok.hd hc) (by simp; omega) (by simp; omega) (fin its rv)))
end
end Wn

/-! Own rules: enumerate of a tuple; a field as one of several targets. -/
namespace Wn
open PySem PySem.Spec PyProof.Rows L2
theorem enum_new1 {v : Value} {o : Obj} {H : Heap → Prop} (B : Begins v o H) :
    Meets (Builtin.«enumerate.__new__» ⟨[.type "enumerate", v], []⟩) (fun _ R s => H s.heap ∧
      R (.ok (.ret (.ref (s.heap.push o).objs.size))) { s with heap := (s.heap.push o).push { cls := .type "enumerate", data := .fields #[.none, .bool false, .ref s.heap.objs.size, rawInt 0, .none, .none] } }) :=
  .of_wp fun prog w A R s h => by
    obtain ⟨hp, g, d, tk, os⟩ := s; obtain ⟨h1, h⟩ := h
    have hsub := sub_enumerate
    have q1 : ∀ {A' : Around} {E : Value → Shared → Prop} {Q : Value → Shared → Prop}, Q (.ref hp.objs.size) ⟨hp.push o, g, d, tk, os⟩ → wpAny (model prog w) A' (pyIter v) Q E ⟨hp, g, d, tk, os⟩ :=
      fun q => B.iter prog w _ _ ⟨hp, g, d, tk, os⟩ _ h1 q
    wp_walk using q1
    refine wpAny_stack_any fun st => wpAny_pure ?_
    split
    · rename_i c _ _ _ _ _
      cases (c == Value.type "enumerate")
      all_goals
        wp_walk using q1
        exact ⟨_, rfl, h⟩
    · wp_walk using q1
      exact ⟨_, rfl, h⟩
section
variable {prog : Program} {w : World} {A : Around} {E : Value → Shared → Prop} {s : Shared}
theorem enum_begins1 {v : Value} {o : Obj} {H : Heap → Prop} {Q : Value → Shared → Prop} (B : Begins v o H) (h1 : H s.heap)
    (h : ∀ h', IsEnum h' (s.heap.objs.size + 1) s.heap.objs.size 0 .none → h'.get? s.heap.objs.size = some o → h'.objs.size = s.heap.objs.size + 2 →
      (∀ b o, s.heap.get? b = some o → h'.get? b = some o) → Q (.ref (s.heap.objs.size + 1)) { s with heap := h' }) :
    wpAny (model prog w) A (call (.type "enumerate") [v]) Q E s := by
  refine callType_new F.called_enumerate (by decide) (F.typeCall_enumerate_1 _) (F.newCall_enumerate_1 _) (fun obj => F.args_object_init_2 obj _) F.entry_enumerate_new (enum_new1 B) ⟨h1, ?_⟩
  have hz : (s.heap.push o).objs.size = s.heap.objs.size + 1 := Heap.size_push ..
  show _ ∧ _
  rw [hz]
  have he : IsEnum ((s.heap.push o).push { cls := .type "enumerate", data := .fields #[.none, .bool false, .ref s.heap.objs.size, rawInt 0, .none, .none] }) (s.heap.objs.size + 1) s.heap.objs.size 0 .none := by
    have z := Heap.get?_push_size (s.heap.push o) (o := { cls := .type "enumerate", data := .fields #[.none, .bool false, .ref s.heap.objs.size, rawInt 0, .none, .none] }) rfl
    rw [hz] at z
    exact z
  exact ⟨⟨_, he, rfl⟩, h _ he (Heap.get?_push_of_some _ (Heap.get?_push_size _ B.free)) (by rw [Heap.size_push, hz]) fun b o x => Heap.get?_push_of_some _ (Heap.get?_push_of_some _ x)⟩
end
section
variable {prog : Program} {w : World} {A : Around} {E : Value → Shared → Prop} {s : Shared}
theorem enumT_end {e it t : Addr} {items : Array Value} {i : Nat} {old : Value} {Q : Option Value → Shared → Prop} (hh : A.in1.handled = none) (he : IsEnum s.heap e it ((i : Nat) : Int) old) (hit : s.heap.IsTupleIter it t i) (ht : s.heap.IsTuple t items)
    (hti : t ≠ it) (hne : e ≠ it) (het : e ≠ t) (hge : items.size ≤ i) (hQ : ∀ h', Heap.ExtBut it s.heap h' → Q none { s with heap := h' }) : wpAny (model prog w) A (pyNext (.ref e)) Q E s := by
  have hT : s.TypeIs (.ref e) "enumerate" := ⟨_, he, rfl⟩
  unfold pyNext
  refine wpAny_bind (wpAny_attempt (wpAny_callSpecial?_slot (name := Str.ofString "__next__") hT F.slot_enumerate_next
    (wpAny_call_entry F.slot_enumerate_next hT F.entry_enumerate_next ?_ (F.args_enumerate_next_1 _))))
  show wpAny _ _ (field (.ref e) 2 >>= _) _ _ _
  refine wpAny_bind (wpAny_field he rfl (x := .ref it) rfl ?_)
  refine wpAny_bind (wpAny_nextOf_tuple_end hh hit ht (by simp [hge]) fun h' x he' hx' => ?_)
  obtain ⟨o, ho, hc⟩ := hx'
  refine wpAny_bind (wpAny_isInstance (T := "StopIteration") (b := true) ⟨o, ho, hc⟩ isSubtype_stop ?_)
  exact wpAny_pure (hQ _ he')
end
/-- the tuple at a, each item in a new pair -/
def IteT (K : PySem.W.Frag) (a : Addr) : It :=
  ⟨fun i H => ∃ (xs : List V) (x : V), SqT K H a xs ∧ xs[i]? = some x, fun i H v H' => ∃ T x, v = .ref T ∧ H T = none ∧ H' = upd H T (.tup [.int (i : Nat), x]) ∧ ∀ xs, SqT K H a xs → xs[i]? = some x, fun i H => ∃ xs : List V, SqT K H a xs ∧ xs.length ≤ i⟩
theorem turn_enumT {P : Program} {w : World} {K : PySem.W.Frag} {elts : List Expr} {kk : Nat} {tpos : Pos} (a e it : Addr) (hai : a ≠ it) :
    Turn P w K (.Tuple elts kk tpos) (IteT K a) [e, it] e (fun i h => (∃ old, IsEnum h e it ((i : Nat) : Int) old) ∧ h.IsTupleIter it a i ∧ e ≠ it) where
  mem := by simp
  obj := fun i h st b hb => by
    obtain ⟨⟨old, he⟩, ⟨o, ho, hc, hd⟩, _⟩ := st
    have e' : b = e ∨ b = it := by simpa using hb
    rcases e' with z | z
    · rw [z]; exact ⟨_, he, fun v q => nomatch q⟩
    · rw [z]; exact ⟨o, ho, fun v q => by rw [hd] at q; cases q⟩
  keep := fun i h h' st k => let ⟨⟨old, he⟩, hi, hne⟩ := st; ⟨⟨old, k e (by simp) _ he⟩, hi.at fun o q => k it (by simp) o q, hne⟩
  item := by
    intro X hP hw hK hc i pins s σ H E I hf st hg
    subst hP hw hK
    obtain ⟨⟨old, he⟩, hit, hne⟩ := st
    obtain ⟨xs, x, hq, hx⟩ := hg
    obtain ⟨its, rv, p, hz⟩ := I.tuple hq
    obtain ⟨u, hu, ru⟩ := rv.get hx
    have hel : e < s.heap.objs.size := Heap.lt_size he
    have hil : it < s.heap.objs.size := by obtain ⟨_, q, _⟩ := hit; exact Heap.lt_size q
    have hh : X.A.in1.handled = none := I.ok.hd hc
    have hea : e ≠ a := by
      rintro rfl
      obtain ⟨oo, ho, hcc, _⟩ := p
      rw [he] at ho
      cases ho
      exact absurd (Value.type.inj hcc) (by decide)
    have hlt : i < its.toArray.size := by
      have := (List.getElem?_eq_some_iff.mp hu).1
      simpa using this
    have p' : s.heap.IsTuple a its.toArray := p
    refine wpAny_pyNext_enum_itemD (Draws.tuple hh it a hai its.toArray) he ⟨hit, p'⟩ hlt hne (by simp [hne, hea]) fun y h' tk hy ho st' hT hsz hk => ?_
    have ey : y = u := by
      rw [List.getElem?_toArray] at hy
      rw [hu] at hy
      exact (Option.some.inj hy).symm
    subst ey
    refine ⟨_, rfl, wpAny_letOwnedTupleGo_enum (s := { s with heap := h', toks := tk + 1 }) ho fun h'' he' sb => ?_⟩
    have hT2 : h''.get? s.heap.objs.size = some { cls := .type "tuple", data := .seq #[.int i tk, y] } := (sb.2 _ (Nat.ne_of_gt hel)).trans hT
    have new : ObjOk X.prog X.w (upd H s.heap.objs.size (.tup [.int (i : Nat), x])) h'' s.heap.objs.size (.tup [.int (i : Nat), x]) :=
      ⟨by show 2 ≤ sizeLine; decide, [.int i tk, y], .cons ⟨_, rfl⟩ (.cons ru .nil), ⟨_, hT2, rfl, _, rfl⟩⟩
    have I1 : Inv X pins σ (upd H s.heap.objs.size (.tup [.int (i : Nat), x])) { s with heap := h'', toks := tk + 1 } :=
      I.turnedNew (ch := [e, it]) (fun b ob hb q => (sb.2 b (fun z => hb (by simp [z]))).trans (hk b ob (fun z => hb (by simp [z])) (fun z => hb (by simp [z])) q)) hf (Nat.le_refl _) new
    refine ⟨.ref s.heap.objs.size, _, I1, rfl, ⟨_, x, rfl, I.hok.fresh (Nat.le_refl _), rfl, fun ys hy => by rw [I.tuple_inj hy hq]; exact hx⟩, ⟨⟨y, ?_⟩, st'.1.at fun o q => (sb.2 it (Ne.symm hne)).trans q, hne⟩, fun b hb => ?_⟩
    · have e1 : ((i + 1 : Nat) : Int) = (i : Int) + 1 := by omega
      rw [e1]; exact he'
    · have hb' : b < s.heap.objs.size := by
        have e' : b = e ∨ b = it := by simpa using hb
        rcases e' with z | z
        · rw [z]; exact hel
        · rw [z]; exact hil
      rw [upd_ne (Nat.ne_of_lt hb')]
      exact (hf b hb).1
  done := by
    intro X hP hw hK hc i pins s σ H E I hf st hg
    subst hP hw hK
    obtain ⟨⟨old, he⟩, hit, hne⟩ := st
    obtain ⟨xs, hq, hx⟩ := hg
    obtain ⟨its, rv, p, hz⟩ := I.tuple hq
    obtain ⟨f0, f1, f2, f3, f4, f5⟩ := hf it (by simp)
    have hl := rv.length
    have hh : X.A.in1.handled = none := I.ok.hd hc
    have p' : s.heap.IsTuple a its.toArray := p
    have hea : e ≠ a := by
      rintro rfl
      obtain ⟨oo, ho, hcc, _⟩ := p
      rw [he] at ho
      cases ho
      exact absurd (Value.type.inj hcc) (by decide)
    exact enumT_end hh he hit p' hai hne hea (by simp; omega) fun h' eb => ⟨rfl, I.turned (t' := s.toks) (fun b o hb q => eb b o hb q) f0 f1 f3 f4 f5⟩
  self := fun A i s Q E st h => let ⟨⟨_, he⟩, _⟩ := st; wpAny_pyIter_enum he h
def iEnumT (K : PySem.W.Frag) (ta : TA) : TI := fun σ H R => ta σ H fun vs H1 => ∃ a xs, vs = [.ref a] ∧ SqT K H1 a xs ∧ R (IteT K a) H1
theorem pi_enumT {X : Cx} {e : Expr} {ta : TA} {p pos tpos : Pos} {elts : List Expr} {kk : Nat} (hg : Gl X "enumerate") (hm : X.mg "enumerate" = none) (ha : PA X [e] ta) (hs : starEach [e] X.env = [(false, eval e X.env)] := by rfl) :
    PI X (.Tuple elts kk tpos) (.Call (.Name "enumerate" p) [e] [] pos) (iEnumT X.K ta) := by
  refine ⟨fun pins s σ H R I h => ?_⟩
  refine Call_ (ld_blt I hg hm boot_enumerate (PyProof.Rows.callWith_type1 (thn (ha.run pos pins s σ H _ I h) fun us s1 ⟨vs, H1, I1, r1, q1⟩ => ?_) hs rfl))
  obtain ⟨a, xs, ex, hq, q⟩ := q1
  subst ex
  cases r1 with
  | cons r rr =>
    cases rr
    cases r
    obtain ⟨its, rv, p', hz⟩ := I1.tuple hq
    have p2 : s1.heap.IsTuple a its.toArray := p'
    have hal : a ≠ s1.heap.objs.size := by
      obtain ⟨_, ho, _⟩ := p'
      exact Nat.ne_of_lt (Heap.lt_size ho)
    refine enum_begins1 (begins_tuple a its.toArray) p2 fun h' he hit hsz hk => wpAny_pyIter_enum he ?_
    have I2 : Inv X pins σ H1 { s1 with heap := h' } := I1.kept (t' := s1.toks) hk
    refine ⟨s1.heap.objs.size + 1, [s1.heap.objs.size + 1, s1.heap.objs.size], _, _, H1, rfl, I2, turn_enumT a (s1.heap.objs.size + 1) s1.heap.objs.size hal, ⟨⟨.none, he⟩, ⟨_, hit, rfl, rfl⟩, Nat.succ_ne_self _⟩, fun b hb => ?_, q⟩
    have e' : b = s1.heap.objs.size + 1 ∨ b = s1.heap.objs.size := by simpa using hb
    have hle : s1.heap.objs.size ≤ b := by
      rcases e' with z | z
      · rw [z]; exact Nat.le_add_right _ _
      · rw [z]; exact Nat.le_refl _
    exact I1.fpOk hle (I1.hok.fresh hle)
theorem walk_enumT {K : PySem.W.Frag} {a : Addr} {xs : List V} : Walk (IteT K a) xs.length (fun H => SqT K H a xs) (YPair (fun i => some (.int (i : Nat))) (fun i => xs[i]?)) := by
  refine ⟨fun i _ hi q => ⟨xs, xs[i], q, by simp [hi]⟩, fun _ q => ⟨xs, q, Nat.le_refl _⟩, fun i H v H' _ q y => ?_⟩
  obtain ⟨T, x, h1, h2, h3, h4⟩ := y
  exact ⟨T, .int (i : Nat), x, h1, h2, h3, rfl, h4 xs q⟩
/-! ### o.f as a target -/
/-- o.f = the value -/
def gFld (K : PySem.W.Frag) (ta : TE) (f : Str) : TG := fun v σ H Q => ta σ H fun x H1 => ∃ a C dx fs, x = .ref a ∧ H1 a = some (.ins C dx fs) ∧ Cls K C ∧ NoAttr K C f ∧ fs.length < 1000 ∧ Q σ (upd H1 a (.ins C dx (putF f v fs)))
theorem pg_fld {X : Cx} {o : Expr} {f : Str} {pos : Pos} {ta : TE} (ho : PE X o ta) : PG X (.Attribute o f pos) (gFld X.K ta f) := by
  refine ⟨fun pins s σ H v u Q I r h => ?_⟩
  have e : assign (.Attribute o f pos) X.env u = (do
      let ov ← holding [u] (eval o X.env)
      standAt pos.atName
      holding [u, ov] (setAttr ov f u)
      release [u, ov] []) := by rfl
  rw [e]
  refine wpAny_bind (wpAny_holding (thn (ho.run pins s σ H _ I h) fun ov s1 ⟨x, H1, I1, r1, q1⟩ => ?_))
  obtain ⟨a, C, dx, fs, ex, ea, c, n, l, q⟩ := q1
  subst ex
  obtain rfl : ov = Value.ref a := r1
  refine wpAny_bind (wpAny_standAt (wpAny_bind (wpAny_holding (setattr_ok I1 ea c n l r fun s2 I2 => ?_))))
  exact wpAny_release ⟨σ, _, I2, q⟩
end Wn

/-! Own rules: repr of data (where no repr runs around), a law whose def is walked at its one place. -/
namespace Wn
open PySem PySem.Spec PyProof.Rows L2
/-! ### repr(x), x data -/
def rRepr (K : PySem.W.Frag) : List V → Hp → VK → Prop := fun xs H Q => ∃ v d, xs = [v] ∧ (∃ a, v = .ref a) ∧ Dp K H v d ∧ d.showable = true ∧ d.hasDict = false ∧ d.depth ≤ 60 ∧ d.shown.length ≤ sizeLine ∧ Q (.str d.shown) H
theorem call_repr {X : Cx} (hg : X.A.guards = some []) (hu : X.A.units + 64 < cLine) : CallR X (.builtin "repr") (rRepr X.K) := by
  intro pins s σ H xs us Q I r h
  obtain ⟨v, d, rfl, ⟨a, rfl⟩, hd, hs, hn, h60, hz, q⟩ := h
  obtain rfl := Vals.ref1 r
  obtain ⟨as, hr⟩ := Dp.reads I d _ _ hd rfl
  refine repr_of_reads' hr hs (PyData.noDict_hsm hn) hg (by omega) (fun _ _ e => e) (fun h' u tk hk => ?_) hz
  exact ⟨.str d.shown, H, I.kept hk, ⟨_, rfl⟩, q⟩
/-! ### a def that is walked at A alone -/
/-- FnOk at one Around -/
structure FnAt (P : Program) (w : World) (K : PySem.W.Frag) (mg : Str → Option Value) (base : Heap) (CX : CXT) (A : Around) (f : Addr) (fd : FuncData) (ps : List Str) (sp : Sp) : Prop where
  run : ∀ (outer : List Env) (s : Shared) (H : Hp) (args : Args) (us : List Value) (vs : List V) (Q : VK) (E : XK), Env0 P w K mg base A outer s H → BindsTo s fd args (ps.zip us) → Vals vs us → sp vs H Q E →
    codeAny (model P w) A (.call (.ref f) args) (CR CX outer P w H s Q E) s
theorem fn_at {CX : CXT} {P : Program} {w : World} {K : PySem.W.Frag} {mg : Str → Option Value} {base : Heap} {k : Nat} {f : Addr} {x qual : Str} {params : Arguments} {body : List Stmt} {scope : Scope} {dvs : List V} {kws : List (Str × V)} {fd : FuncData}
    {N ps : List Str} {sp : Sp} {A : Around} (F : FunD K x qual params body scope dvs kws f fd) (S : FnScope N ps scope) (len : ∀ vs H Q E, sp vs H Q E → vs.length = ps.length) (hr : Room (k + 1) A)
    (hbody : ∀ (cdv : Value) (outer : List Env) (s : Shared) (H : Hp) (vs : List V) (Q : VK) (E : XK), Room k (A.deeper (envOfC qual scope s.heap.objs.size f cdv)) → sp vs H Q E →
      ∃ t, PSs (cxOf CX P w K mg base N qual scope f cdv A outer s H E) body t ∧ t { nx := fun _ H' => Q .non H', rt := Q } (start N vs) H) : FnAt P w K mg base CX A f fd ps sp := by
  obtain ⟨oc, od, dV, kV, doc, pm, an, cdv, ct, osl, rfl, lk, hcd, _, _⟩ := F.ex
  refine ⟨fun outer s H args us vs Q E e0 hb r hsp => ?_⟩
  have hl := len _ _ _ _ hsp
  have KX : K.In s.heap := e0.mod.kin.keeps fun b o e => (e0.bs b o e).1
  have lim : s.heap.NoLimit := e0.mod.nolimit.keeps fun b o e => (e0.bs b o e).1
  have hkind : ∀ y ∈ ps.zip us, scope.names.lookup y.1 = some .local ∨ (scope.names.lookup y.1 = some .cell ∧ ((cellsFrom (s.heap.objs.size + 1) scope.names []).lookup y.1).isSome = true) := by
    rintro ⟨n, v⟩ hy
    rcases S.par n (List.of_mem_zip hy).1 with q | q
    · exact .inl q
    · exact .inr ⟨q, PySem.W.cellsFrom_some _ _ _ (.inl q)⟩
  refine codeAny_call_function hr.depth (KX _ _ lk) rfl S.co S.gen rfl (PySem.W.codeRec_of KX hcd) (hb _ _ _ _ ?_)
  refine wpAny_newFunctionEnv_cells S.kind hkind fun env he s1 x => ?_
  subst he
  refine ⟨lim.keeps x.toInCall.keep, codeAny_func ?_⟩
  obtain ⟨t, ht, hq⟩ := hbody cdv outer s H vs Q E (hr.deeper _) hsp
  have I : Inv (cxOf CX P w K mg base N qual scope f cdv A outer s H E) [] (start N vs) H s1 := inv_start S hr.hd e0 hl r x
  refine wpAny_mono (ht.run [] s1 (start N vs) H _ I hq) (fun fl s' hs => ?_) fun e s' hs => hs
  cases fl with
  | ret u =>
    obtain ⟨v, σ', H', J, rv, q⟩ := hs
    exact ⟨v, H', J.os, J.bare, J.base, J.hok, rv, q⟩
  | next =>
    obtain ⟨σ', H', J, q⟩ := hs
    exact ⟨V.non, H', J.os, J.bare, J.base, J.hok, rfl, q⟩
  | brk =>
    obtain ⟨_, _, _, q⟩ := hs
    exact False.elim q
  | cont =>
    obtain ⟨_, _, _, q⟩ := hs
    exact False.elim q
/-- the law's call, its def walked at callerA -/
theorem law_at {P : Program} {w : World} {K : PySem.W.Frag} {mg mb : Str → Option Value} {CX : CXT} {fa a : Addr} {fd : FuncData} {x : Str} {sp : Sp} {s1 : Shared} {vs : List Value} {ns : List Int}
    (KX : K.In s1.heap) (hns : s1.heap.Ns mainGlobals mg) (hb : s1.heap.Ns builtinsNs mb) (hbb : ∀ x : Str, x ≠ "__name__" → mb x = bootBuiltins x) (hlim : s1.heap.NoLimit) (hg : s1.gens = #[])
    (ha : s1.heap.get? a = some { cls := .type "list", data := .seq vs.toArray }) (hi : IntsAre vs ns) (hl : ns.length ≤ sizeLine)
    (F : ∀ base : Heap, K.In base → base.Ns mainGlobals mg → FnAt P w K mg base CX callerA fa fd [x] sp) (hbind : ∀ (s : Shared) (u : Value), BindsTo s fd ⟨[u], []⟩ [(x, u)])
    (hsp : ∀ H : Hp, Only H → SqL K H a (ns.map V.int) → sp [.ref a] H (fun v _ => v = .bl true) fun _ _ _ => False)
    (hCX : ∀ H e s', CX [] H s1 (fun _ _ _ => False) e s' → False) :
    codeAny (model P w) callerA (.call (.ref fa) ⟨[.ref a], []⟩) (fun r s' => r = .ok (.ret (.bool true)) ∧ OldK s1.heap s'.heap ∧ s'.os = s1.os ∧ AllBare s'.gens) s1 := by
  have rv := vals_ints hi
  have lv := hi.length
  have core : ∀ H : Hp, Only H → SqL K H a (ns.map V.int) → HOk P w H s1.heap → (∀ b, H b ≠ none → b = a) → (H a ≠ none → K.lookup a = none) →
      codeAny (model P w) callerA (.call (.ref fa) ⟨[.ref a], []⟩) (fun r s' => r = .ok (.ret (.bool true)) ∧ OldK s1.heap s'.heap ∧ s'.os = s1.os ∧ AllBare s'.gens) s1 := by
    intro H hO hS hok hA hK
    have dN : ∀ {b : Addr} {o : Obj} {es : Array DictEntry} {ep : Nat}, s1.heap.get? b = some o → o.data = .dict es ep → H b = none := by
      intro b o es ep e d
      cases q : H b with
      | none => rfl
      | some u =>
        have e' : b = a := hA b (by rw [q]; simp)
        subst e'
        rw [ha] at e
        cases e
        exact nomatch (show Data.seq vs.toArray _ = Data.dict es ep from d)
    have nsK : ∀ {b : Addr} {m : Str → Option Value}, s1.heap.Ns b m → (hidT s1.heap H).Ns b m := by
      rintro b m ⟨o, es, ep, e, d, r⟩
      exact ⟨o, es, ep, hidT_get e (dN e d), d, r⟩
    have hKb : K.In (hidT s1.heap H) := by
      intro b o e
      refine hidT_get (KX b o e) ?_
      cases q : H b with
      | none => rfl
      | some u =>
        have e' : b = a := hA b (by rw [q]; simp)
        subst e'
        rw [hK (by rw [q]; simp)] at e
        cases e
    have hM : Mod K mg (hidT s1.heap H) := ⟨hKb, nsK hns, ⟨mb, nsK hb, hbb⟩, let ⟨mc, h1, h2⟩ := hlim; ⟨mc, nsK h1, h2⟩⟩
    have e0 : Env0 P w K mg (hidT s1.heap H) callerA [] s1 H := ⟨rfl, hM, fun b o e => of_hidT e, Nat.le_of_eq (hidT_size _ _), trivial, fun b hb => absurd (show b ∈ ([] : List Addr) from hb) (by simp), hok, .of_eq hg⟩
    refine codeAny_mono ((F _ hKb (nsK hns)).run [] s1 H ⟨[.ref a], []⟩ [.ref a] [.ref a] _ _ e0 (hbind s1 (.ref a)) (.cons rfl .nil) (hsp H hO hS)) fun r s' h => ?_
    cases r with
    | error e => exact (hCX H e s' h).elim
    | ok fl =>
      cases fl with
      | ret u =>
        obtain ⟨v, H', os, bare, un, hok', r', q⟩ := h
        have q' : v = V.bl true := q
        subst q'
        obtain rfl : u = Value.bool true := r'
        refine ⟨rfl, OldK.of_keep fun b o e => ?_, os, bare⟩
        cases q : H b with
        | none => exact un.keep b o e q (by intro z; cases z) (by intro z; cases z)
        | some u =>
          rcases hO b with z | ⟨ob, xs, z⟩
          · rw [q] at z
            cases z
          · obtain ⟨e1, _⟩ := hok b _ z
            obtain ⟨e2, _⟩ := hok' b _ (un.frzs b ob _ z)
            rw [e] at e1
            cases e1
            exact e2
      | _ => exact False.elim h
  cases hk : K.lookup a with
  | some o =>
    have e := KX a o hk
    rw [ha] at e
    cases e
    refine core (fun _ => none) (fun _ => .inl rfl) (.inr ⟨_, vs.toArray, _, hk, rfl, rfl, rfl, by rw [List.size_toArray, lv]; exact hl, by simpa using rv⟩) (fun b u z => ?_) (fun b z => absurd rfl z) fun z => absurd rfl z
    exact nomatch (show (none : Option HO) = some u from z)
  | none =>
    refine core (fun b => if b = a then some (.frz { cls := .type "list", data := .seq vs.toArray } (.lst (ns.map V.int))) else none) (fun b => ?_) (.inl (.inr ⟨{ cls := .type "list", data := .seq vs.toArray }, if_pos rfl⟩)) (fun b u z => ?_) (fun b z => ?_) fun _ => hk
    · by_cases hb : b = a
      · exact .inr ⟨_, _, if_pos hb⟩
      · exact .inl (if_neg hb)
    · by_cases hb : b = a
      · have z' := (if_pos hb).symm.trans z
        cases z'
        subst hb
        exact ⟨ha, by rw [List.length_map]; exact hl, vs, _, rv, ha⟩
      · have z' := (if_neg hb).symm.trans z
        cases z'
    · by_cases hb : b = a
      · exact hb
      · exact absurd (if_neg hb) z
/-- the walk's end: F gives the written part, the function object, the promise at callerA -/
theorem walk_at {l : PySem.W.OpenLaw} {n : Nat} {q : Program} {loose : List Str} {XP : (Str → Option Value) → Heap → Prop} {YP : World → Heap → Prop} {d : DefRec} {CX : CXT} {x : Str}
    (hn : l.most = some n) (hn2 : n ≤ sizeLine) (hdf : d.params.defaults = [])
    (F : ∀ (w : World) (mg : Str → Option Value) (fa : Addr) (h : Heap), YP w h → h.Ns mainGlobals mg → mg d.name = some (.ref fa) →
      ∃ (K : PySem.W.Frag) (fd : FuncData) (sp : Sp), K.In h ∧ (∀ (s : Shared) (u : Value), BindsTo s fd ⟨[u], []⟩ [(x, u)]) ∧
        (∀ (H : Hp) (a : Addr) (ns : List Int), ns.length ≤ n → Only H → SqL K H a (ns.map V.int) → sp [.ref a] H (fun v _ => v = .bl true) fun _ _ _ => False) ∧
        ∀ base : Heap, K.In base → base.Ns mainGlobals mg → FnAt l.prog w K mg base CX callerA fa fd [x] sp)
    (hCX : ∀ (H : Hp) (s : Shared) (e : Value) (s' : Shared), CX [] H s (fun _ _ _ => False) e s' → False) :
    PySem.W.WalkO q loose XP YP l.row.toRowW d [] (fun f vs => PySem.call f vs) := by
  refine Att.attach_call hn hdf fun w s0 s1 mg mb fa o pm cd doc a vs ns G Y ho hd hcd hmg hobj hints hlen hg => ?_
  obtain ⟨K, fd, sp, KX, hb, hsp, hF⟩ := F w mg fa _ Y G.T.g hmg
  exact law_at KX G.T.g G.T.b G.T.builtins G.T.nolimit hg hobj hints (Nat.le_trans hlen hn2) hF hb (fun H hO hS => hsp H a ns hlen hO hS) fun H e s' => hCX H s1 e s'
end Wn

/-! Own rules: sorted(d.items()), d a dict with text keys. -/
namespace Wn
open PySem PySem.W PySem.Calls PyProof.Rows PyProof.V PySem.Spec
/-! ### the texts' rank -/
theorem cpn_lt {α : Type} (p q : α → Bool) : ∀ l : List α, (∀ x ∈ l, p x = true → q x = true) → (∃ x ∈ l, p x = false ∧ q x = true) → l.countP p < l.countP q
  | [], _, h => by obtain ⟨x, hx, _⟩ := h; cases hx
  | a :: l, h, hs => by
    have mono : l.countP p ≤ l.countP q := List.countP_mono_left fun x hx => h x (List.mem_cons_of_mem _ hx)
    rw [List.countP_cons, List.countP_cons]
    obtain ⟨x, hx, h1, h2⟩ := hs
    rcases List.mem_cons.mp hx with rfl | hx
    · rw [h1, h2]
      simp
      omega
    · have ih := cpn_lt p q l (fun x hx => h x (List.mem_cons_of_mem _ hx)) ⟨x, hx, h1, h2⟩
      cases ha : p a with
      | true =>
        rw [h a List.mem_cons_self ha]
        simp
        omega
      | false =>
        cases q a <;> simp <;> omega
def rankOf (ks : List Str) (x : Str) : Int := (ks.countP fun k => decide (k.cps.toList < x.cps.toList) : Nat)
theorem rank_lt {ks : List Str} {x y : Str} (hx : x ∈ ks) : decide (x.cps.toList < y.cps.toList) = decide (rankOf ks x < rankOf ks y) := by
  unfold rankOf
  by_cases h : x.cps.toList < y.cps.toList
  · rw [decide_eq_true h]
    have z : ks.countP (fun k => decide (k.cps.toList < x.cps.toList)) < ks.countP (fun k => decide (k.cps.toList < y.cps.toList)) :=
      cpn_lt _ _ ks (fun k _ e => decide_eq_true (List.lt_trans (of_decide_eq_true e) h)) ⟨x, hx, decide_eq_false (List.lt_irrefl _), decide_eq_true h⟩
    rw [decide_eq_true (by omega)]
  · rw [decide_eq_false h]
    have z : ks.countP (fun k => decide (k.cps.toList < y.cps.toList)) ≤ ks.countP (fun k => decide (k.cps.toList < x.cps.toList)) :=
      List.countP_mono_left fun k _ e => by
        have e1 := of_decide_eq_true e
        refine decide_eq_true ?_
        rcases Decidable.em (k.cps.toList < x.cps.toList) with c | c
        · exact c
        · exact absurd (List.lt_of_le_of_lt (List.not_lt.mp c) e1) h
    rw [decide_eq_false (by omega)]
/-! ### the sort's questions: pairs (text, value) -/
section
variable {prog : Program} {w : World} {A : Around} {E : Value → Shared → Prop} {s : Shared}
def tx0 (h : Heap) (v : Value) : Str := match v with
  | .ref a => DT.txOf (DT.seqAt0 h a)
  | _ => Str.empty
/-- v is a pair of the text y and something -/
def TxPair (h : Heap) (v : Value) (y : Str) : Prop := ∃ (a : Addr) (t : Tok) (u : Value), v = .ref a ∧ IsTup h a #[.str y t, u]
theorem TxPair.tx {h : Heap} {v : Value} {y : Str} (x : TxPair h v y) : tx0 h v = y := by
  obtain ⟨a, t, u, rfl, h1⟩ := x
  show DT.txOf (DT.seqAt0 h a) = y
  rw [DT.seqAt0_of h1]
  rfl
theorem firstsX {h : Heap} : ∀ vs : List Value, (∀ v ∈ vs, ∃ y, TxPair h v y) → ∃ fs : List Value, KatTups h vs fs ∧ fs.length = vs.length ∧ ∀ f ∈ fs, ∃ y t, f = Value.str y t
  | [], _ => ⟨[], KatTups.nil, rfl, fun f hf => by simp at hf⟩
  | v :: vs, x => by
    obtain ⟨fs, k, hl, hi⟩ := firstsX vs fun u hu => x u (List.mem_cons_of_mem _ hu)
    obtain ⟨y, a, t, u, rfl, ⟨o, ho, hc, n, hd⟩⟩ := x v List.mem_cons_self
    refine ⟨.str y t :: fs, KatTups.cons ho hc hd rfl k, by rw [List.length_cons, List.length_cons, hl], fun f hf => ?_⟩
    rcases List.mem_cons.mp hf with rfl | hf
    · exact ⟨y, t, rfl⟩
    · exact hi f hf
theorem kindX {vs : List Value} {ρ : Str → Int} (h2 : 2 ≤ vs.length) (x : ∀ v ∈ vs, ∃ y, TxPair s.heap v y) (inj : ∀ v ∈ vs, ∀ u ∈ vs, tx0 s.heap v = tx0 s.heap u → v = u)
    (hρ : ∀ v ∈ vs, ∀ u ∈ vs, decide ((tx0 s.heap v).cps.toList < (tx0 s.heap u).cps.toList) = decide (ρ (tx0 s.heap v) < ρ (tx0 s.heap u))) (Q : SortKind → Shared → Prop)
    (h : ∀ κ, TS.Cmp prog w A s κ (pairsOf vs) (fun v => ρ (tx0 s.heap v)) → Q κ s) : wpAny (model prog w) A (keyKind' vs.toArray) Q E s := by
  obtain ⟨fs, k, hl, hi⟩ := firstsX vs x
  refine kat_kind (T := Value.type "str") k (by omega) (fun f hf => ?_) rfl (h _ ?_)
  · obtain ⟨y, t, rfl⟩ := hi f hf
    exact .of_pure rfl
  · have hb : (Value.type "str" != Value.type "tuple") = true := by decide
    rw [hb]
    intro p q hp hq Q' E' hQ
    rw [pairsOf_toList] at hp hq
    have mp := (mem_zip_self hp).2
    have mq := (mem_zip_self hq).2
    obtain ⟨y, py⟩ := x _ mp
    obtain ⟨z, pz⟩ := x _ mq
    have hr := hρ _ mp _ mq
    have hij := inj _ mp _ mq
    have hQ2 : Q' (decide (ρ (tx0 s.heap p.1) < ρ (tx0 s.heap q.1))) s := hQ
    rw [← hr, py.tx, pz.tx] at hQ2
    rw [py.tx, pz.tx] at hij
    obtain ⟨a, t, u, e1, ho⟩ := py
    obtain ⟨a', t', u', e2, ho'⟩ := pz
    by_cases e : y = z
    · have e3 := hij e
      subst e
      rw [← e3, e1] at e2 ⊢
      obtain ⟨o, hg, hc, n, hd⟩ := id ho
      have irr : decide (y.cps.toList < y.cps.toList) = false := decide_eq_false (List.lt_irrefl _)
      rw [irr] at hQ2
      refine kat_lt hg hd hg hd ?_
      show KatLex prog w A true false Q' [(Value.str y t, Value.str y t), (u, u)] 0 s
      refine kat_cons (SeqAt.EqAt.same _ _ _ _ _ ?_)
      refine kat_yes (kat_cons (SeqAt.EqAt.same _ _ _ _ _ ?_))
      exact kat_yes (kat_nil hQ2)
    · obtain ⟨o, hg, hc, n, hd⟩ := id ho
      obtain ⟨o', hg', hc', n', hd'⟩ := id ho'
      rw [e1, e2]
      refine kat_lt hg hd hg' hd' ?_
      show KatLex prog w A true false Q' [(Value.str y t, Value.str z t'), (u, u')] 0 s
      have he := SeqAt.EqAt.str_str (A := A) (s := s) y t z t'
      have hne : (y == z) = false := by simpa using e
      rw [hne] at he
      refine kat_cons (he _ _ _ _ ?_)
      exact kat_no (oneLt_str hQ2)
end
end Wn
namespace Wn
open PySem PySem.Spec PyProof.Rows L2
/-- sorted(e.items()): new pairs of keys and values, by the keys -/
def rSortItX : V → Hp → VK → Prop := fun x H Q => ∃ (d : Addr) (kvs : List (Key × V)) (ks : List (Str × V)), x = .ref d ∧ H d = some (.dK kvs) ∧ kvs = ks.map (fun p => (Sum.inr p.1, p.2)) ∧ ks.length < 64 ∧
  ∀ (H' : Hp) (l : Addr) (ps : List (Addr × Str × V)), (∀ b o, H b = some o → H' b = some o) → H l = none → (ps.map (·.2)).Perm ks → (ps.map (·.2.1)).Pairwise (fun x y => x.cps.toList < y.cps.toList) →
    H' l = some (.lst (ps.map fun z => V.ref z.1)) → (∀ z ∈ ps, H' z.1 = some (.tup [.str z.2.1, z.2.2])) → Q (.ref l) H'
def tSortItX (te : TE) : TE := fun σ H Q => te σ H fun x H1 => rSortItX x H1 Q
section
variable {X : Cx} {e : Expr} {te : TE} {p apos cpos pos : Pos}
theorem sortX_end {pins : List (Addr × Obj)} {σ : L2.St} {H : Hp} {s : Shared} {Q : VK} {r d : Addr} {kvs : List (Key × V)} {ks : List (Str × V)} (hcl : X.calm = true) (I : Inv X pins σ H s) (hv : s.heap.IsItemsView r d) (hd : H d = some (.dK kvs)) (ek : kvs = ks.map (fun p => (Sum.inr p.1, p.2))) (h64 : ks.length < 64)
    (q : ∀ (H' : Hp) (l : Addr) (ps : List (Addr × Str × V)), (∀ b o, H b = some o → H' b = some o) → H l = none → (ps.map (·.2)).Perm ks → (ps.map (·.2.1)).Pairwise (fun x y => x.cps.toList < y.cps.toList) →
    H' l = some (.lst (ps.map fun z => V.ref z.1)) → (∀ z ∈ ps, H' z.1 = some (.tup [.str z.2.1, z.2.2])) → Q (.ref l) H') : wpAny (model X.prog X.w) X.A (call (.builtin "sorted") [.ref r]) (EP X pins σ Q) X.xe s := by
  obtain ⟨hz, hsm, vs, kv, hdo⟩ := I.hok d _ hd
  have lk : kvs.length = vs.length := Paired.length kv
  have l0 : kvs.length = ks.length := by rw [ek, List.length_map]
  obtain ⟨o, es, ep, ho, hx, hdat, hka, hpa, hnd⟩ := id hdo
  have l2 : es.size = vs.length := by rw [← hpa.length]; exact Array.length_toList.symm
  have hh : X.A.handled = none := I.ok.hd hcl
  refine DT.sortedI (es := es) (ep := ep) hh hv ⟨o, ho, hx, hdat⟩ (by rw [sizeLine_eq]; omega) fun h' tk as hk hlt hl hG => ?_
  have lak : as.length = ks.length := by omega
  have nd : as.Nodup := List.Pairwise.imp (fun h => Nat.ne_of_lt h) hG.rise
  have keysnd : (ks.map (·.1)).Nodup := by
    have z : (kvs.map (·.1)).Nodup := by rw [kv.keys]; exact hnd
    rw [ek, List.map_map] at z
    have e1 : (ks.map ((fun p : Key × V => p.1) ∘ fun p => (Sum.inr p.1, p.2))) = (ks.map (·.1)).map (fun x => (Sum.inr x : Key)) := by
      rw [List.map_map]
      rfl
    rw [e1] at z
    exact List.Pairwise.of_map _ (fun _ _ hne e => hne (congrArg _ e)) z
  -- the pairs that were made
  have pr : ∀ (j : Nat) (b : Addr), as[j]? = some b → ∃ (x : Str) (v : V) (t : Tok) (u : Value), ks[j]? = some (x, v) ∧ RelV v u ∧ h'.get? b = some { cls := .type "tuple", data := .seq #[Value.str x t, u] } := by
    intro j b hj
    obtain ⟨en, he, hg⟩ := hG.pairs j b hj
    have hjl : j < ks.length := by
      have := (List.getElem?_eq_some_iff.mp hj).1
      omega
    obtain ⟨x, v, hkj⟩ : ∃ x v, ks[j]? = some (x, v) := ⟨_, _, List.getElem?_eq_getElem hjl⟩
    have hkv : kvs[j]? = some (Sum.inr x, v) := by rw [ek, List.getElem?_map, hkj]; rfl
    obtain ⟨u, hu, ru⟩ := kv_get kv hkv
    obtain ⟨hkey, hval⟩ := hpa.get? (i := j) (e := en) (k := Sum.inr x) (v := u) (by rw [Array.getElem?_toList]; exact he) hu
    obtain ⟨t, et⟩ : ∃ t, en.key = Value.str x t := by
      rcases keyIs_shape (show keyIs (Sum.inr x) en.key = true from hkey) with ⟨_, _, e1, _⟩ | ⟨y, t, e1, e2⟩
      · cases e1
      · cases e1
        exact ⟨t, e2⟩
    exact ⟨x, v, t, u, hkj, ru, by rw [hg, et, hval]⟩
  have hob : (h'.push { cls := .type "list", data := .seq (as.map Value.ref).toArray }).get? h'.objs.size = some (seqObj "list" (as.map Value.ref).toArray 0) := Heap.get?_push_size _ rfl
  have kb : ∀ b o, s.heap.get? b = some o → (h'.push { cls := .type "list", data := .seq (as.map Value.ref).toArray }).get? b = some o := fun b o e => Heap.get?_push_of_some _ (hk b o e)
  have ne0 : ∀ b o, h'.get? b = some o → b ≠ h'.objs.size := fun b o e => Nat.ne_of_lt (Heap.lt_size e)
  generalize hh2 : h'.push { cls := .type "list", data := .seq (as.map Value.ref).toArray } = h2 at hob kb ⊢
  have ka : ∀ b o, h'.get? b = some o → h2.get? b = some o := fun b o e => by rw [← hh2]; exact Heap.get?_push_of_some _ e
  have pin : ∀ (j : Nat) (b : Addr), as[j]? = some b → ∃ (x : Str) (v : V), ks[j]? = some (x, v) ∧ TxPair (TS.midHeap h2 h'.objs.size (as.map Value.ref)) (.ref b) x := by
    intro j b hj
    obtain ⟨x, v, t, u, he, ru, hg⟩ := pr j b hj
    exact ⟨x, v, he, b, t, u, rfl, ⟨_, TS.midHeap_old (ne0 _ _ hg) (ka _ _ hg), rfl, 0, rfl⟩⟩
  have tx : ∀ (j : Nat) (b : Addr) (x : Str) (v : V), as[j]? = some b → ks[j]? = some (x, v) → tx0 (TS.midHeap h2 h'.objs.size (as.map Value.ref)) (.ref b) = x := by
    intro j b x v hj he
    obtain ⟨x', v', he', hp'⟩ := pin j b hj
    rw [he] at he'
    cases he'
    exact hp'.tx
  have at_ : ∀ v ∈ as.map Value.ref, ∃ (j : Nat) (b : Addr) (x : Str) (y : V), v = .ref b ∧ as[j]? = some b ∧ ks[j]? = some (x, y) := by
    intro v hv'
    obtain ⟨b, hb, rfl⟩ := List.mem_map.mp hv'
    obtain ⟨j, hj⟩ := List.mem_iff_getElem?.mp hb
    obtain ⟨x, y, he, _⟩ := pin j b hj
    exact ⟨j, b, x, y, rfl, hj, he⟩
  have keyAt : ∀ (j : Nat) (x : Str) (y : V), ks[j]? = some (x, y) → (ks.map (·.1))[j]? = some x := fun j x y e => by rw [List.getElem?_map, e]; rfl
  refine wpAny_call_entry PyProof.Rows.slot_list_sort ⟨_, hob, rfl⟩ PyProof.Rows.entry_list_sort
    (SK.plain_sort (s := { s with heap := h2, toks := tk }) (r := fun v => rankOf (ks.map (·.1)) (tx0 (TS.midHeap h2 h'.objs.size (as.map Value.ref)) v)) hob (by rw [List.length_map]; omega) (fun h2' Qk hQk => ?_) fun ps out o1 o2 o3 => ⟨.none, rfl, ?_⟩) (PyProof.Rows.args_list_sort _)
  · refine kindX (s := { s with heap := TS.midHeap h2 h'.objs.size (as.map Value.ref), toks := tk }) (ρ := rankOf (ks.map (·.1))) h2' (fun v hv' => ?_) (fun v hv' u hu' e => ?_) (fun v hv' u hu' => ?_) Qk hQk
    · obtain ⟨j, b, x, y, rfl, hj, he⟩ := at_ v hv'
      obtain ⟨x', _, _, hp'⟩ := pin j b hj
      exact ⟨x', hp'⟩
    · obtain ⟨j, b, x, y, rfl, hj, he⟩ := at_ v hv'
      obtain ⟨j2, b2, x2, y2, rfl, hj2, he2⟩ := at_ u hu'
      have e' : tx0 (TS.midHeap h2 h'.objs.size (as.map Value.ref)) (.ref b) = tx0 (TS.midHeap h2 h'.objs.size (as.map Value.ref)) (.ref b2) := e
      rw [tx j b x y hj he, tx j2 b2 x2 y2 hj2 he2] at e'
      subst e'
      have ej : j = j2 := (List.getElem?_inj (List.getElem?_eq_some_iff.mp (keyAt j x y he)).1 keysnd).mp ((keyAt j x y he).trans (keyAt j2 x y2 he2).symm)
      subst ej
      rw [hj] at hj2
      cases hj2
      rfl
    · obtain ⟨j, b, x, y, rfl, hj, he⟩ := at_ v hv'
      obtain ⟨j2, b2, x2, y2, rfl, hj2, he2⟩ := at_ u hu'
      show decide ((tx0 (TS.midHeap h2 h'.objs.size (as.map Value.ref)) (.ref b)).cps.toList < (tx0 (TS.midHeap h2 h'.objs.size (as.map Value.ref)) (.ref b2)).cps.toList) = decide (rankOf (ks.map (·.1)) (tx0 (TS.midHeap h2 h'.objs.size (as.map Value.ref)) (.ref b)) < rankOf (ks.map (·.1)) (tx0 (TS.midHeap h2 h'.objs.size (as.map Value.ref)) (.ref b2)))
      rw [tx j b x y hj he, tx j2 b2 x2 y2 hj2 he2]
      exact rank_lt (List.mem_of_getElem? (keyAt j x y he))
  · show EP X pins σ Q (.ref h'.objs.size) { s with heap := sortedHeap h2 h'.objs.size (as.map Value.ref) out, toks := tk }
    obtain ⟨zs, pz, ez⟩ := perm_lift (fun z : Addr × Str × V => (Value.ref z.1, Value.ref z.1)) o2 (as.zip ks) (DX.zip_self Value.ref as ks lak)
    have idx : ∀ z ∈ zs, ∃ j : Nat, as[j]? = some z.1 ∧ ks[j]? = some z.2 := by
      intro z' hz'
      obtain ⟨j, hj⟩ := List.mem_iff_getElem?.mp (pz.mem_iff.mp hz')
      exact ⟨j, List.getElem?_zip_eq_some.mp hj⟩
    have hout : out.toList = zs.map fun z => Value.ref z.1 := by
      rw [o1, ← ez, List.map_map]
      all_goals rfl
    have hperm : (zs.map (·.2)).Perm ks := by
      have e := pz.map (·.2)
      have m2 : (as.zip ks).map (·.2) = ks := List.map_snd_zip (by rw [lak]; exact Nat.le_refl _)
      rw [m2] at e
      exact e
    have hsort : (zs.map (·.2.1)).Pairwise (fun x y => rankOf (ks.map (·.1)) x ≤ rankOf (ks.map (·.1)) y) := by
      rw [← ez, List.pairwise_map] at o3
      rw [List.pairwise_map]
      refine List.Pairwise.imp_of_mem (fun {x y} hx hy h => ?_) o3
      obtain ⟨j, j1, j2⟩ := idx x hx
      obtain ⟨i, i1, i2⟩ := idx y hy
      have h' : rankOf (ks.map (·.1)) (tx0 (TS.midHeap h2 h'.objs.size (as.map Value.ref)) (.ref x.1)) ≤ rankOf (ks.map (·.1)) (tx0 (TS.midHeap h2 h'.objs.size (as.map Value.ref)) (.ref y.1)) := h
      rw [tx j _ _ _ j1 j2, tx i _ _ _ i1 i2] at h'
      exact h'
    have hks : (zs.map (·.2.1)).Perm (ks.map (·.1)) := by
      have z := hperm.map (·.1)
      rw [List.map_map] at z
      exact z
    have hstrict : (zs.map (·.2.1)).Pairwise (fun x y => x.cps.toList < y.cps.toList) := by
      have hnd2 : (zs.map (·.2.1)).Nodup := hks.nodup_iff.mpr keysnd
      refine List.Pairwise.imp_of_mem (fun {x y} hx hy h => ?_) (List.Pairwise.and hsort hnd2)
      obtain ⟨h1, h2⟩ := h
      rcases Decidable.em (x.cps.toList < y.cps.toList) with c | c
      · exact c
      · exfalso
        have c2 : ¬ y.cps.toList < x.cps.toList := fun c2 => by
          have z := rank_lt (ks := ks.map (·.1)) (x := y) (y := x) (hks.mem_iff.mp hy)
          rw [decide_eq_true c2] at z
          have z2 := of_decide_eq_true z.symm
          omega
        have e : x.cps.toList = y.cps.toList := List.le_antisymm (List.not_lt.mp c2) (List.not_lt.mp c)
        exact h2 (TL.ext_tl e)
    have kF : ∀ b o, b ≠ h'.objs.size → h2.get? b = some o → (sortedHeap h2 h'.objs.size (as.map Value.ref) out).get? b = some o := fun b o hb e => (PyProof.Rows.sortedHeap_old hb (Heap.lt_size e)).trans e
    have kS : ∀ b o, s.heap.get? b = some o → (sortedHeap h2 h'.objs.size (as.map Value.ref) out).get? b = some o := fun b o e => kF b o (ne0 _ _ (hk b o e)) (kb b o e)
    obtain ⟨eF, heF⟩ := PyProof.Rows.sortedHeap_at (vs := as.map Value.ref) (out := out) hob
    have I1 : Inv X pins σ H { s with heap := sortedHeap h2 h'.objs.size (as.map Value.ref) out, toks := tk } := I.kept (t' := tk) kS
    have hn0 : H h'.objs.size = none := I.hok.fresh (Nat.le_of_lt hlt)
    have hlen : (zs.map fun z => V.ref z.1).length ≤ sizeLine := by
      have e := hperm.length_eq
      rw [List.length_map] at e
      rw [List.length_map, sizeLine_eq]
      omega
    have rv : Vals (zs.map fun z => V.ref z.1) out.toList := by
      rw [hout]
      exact vals_maps (fun z : Addr × Str × V => V.ref z.1) (fun z => Value.ref z.1) zs fun _ _ => rfl
    have I2 : Inv X pins σ (upd H h'.objs.size (.lst (zs.map fun z => V.ref z.1))) { s with heap := sortedHeap h2 h'.objs.size (as.map Value.ref) out, toks := tk } :=
      I1.take (h' := sortedHeap h2 h'.objs.size (as.map Value.ref) out) (t' := tk) (fun b ob _ e => e) (I.fpOk (Nat.le_of_lt hlt) hn0) ⟨hlen, out.toList, eF, rv, heF⟩
    obtain ⟨H2, I3, g, qt⟩ := DX.takeT (P := fun b vs => ∃ (j : Nat) (x : Str) (v : V), as[j]? = some b ∧ ks[j]? = some (x, v) ∧ vs = [.str x, v]) I as _ I2 nd fun b hb => by
      obtain ⟨j, hj⟩ := List.mem_iff_getElem?.mp hb
      obtain ⟨x, v, t, u, he, ru, hg⟩ := pr j b hj
      have hbl : s.heap.objs.size ≤ b := Nat.le_of_lt (hG.above b hb)
      refine ⟨hbl, ?_, [.str x, v], ⟨j, x, v, hj, he, rfl⟩, fun H3 => ⟨(by rw [sizeLine_eq]; show 2 ≤ 16777216; omega), [Value.str x t, u], .cons ⟨t, rfl⟩ (.cons ru .nil), ⟨_, kF _ _ (ne0 _ _ hg) (ka _ _ hg), rfl, 0, rfl⟩⟩⟩
      rw [upd_ne (ne0 _ _ hg)]
      exact I.hok.fresh hbl
    have gr : ∀ b o, H b = some o → H2 b = some o := fun b o e => g b o (by rw [upd_ne (ne_of_none e hn0)]; exact e)
    refine ⟨.ref h'.objs.size, H2, I3, rfl, q H2 h'.objs.size zs gr hn0 hperm hstrict (g _ _ upd_same) fun z' hz' => ?_⟩
    obtain ⟨i, i1, i2⟩ := idx z' hz'
    obtain ⟨vs, ⟨j, x, v, j1, j2, ev⟩, hH⟩ := qt z'.1 (List.mem_of_getElem? i1)
    have eij : i = j := (List.getElem?_inj (List.getElem?_eq_some_iff.mp i1).1 nd).mp (i1.trans j1.symm)
    subst eij
    have ee : (x, v) = z'.2 := Option.some.inj (j2.symm.trans i2)
    rw [ev] at hH
    rw [← ee]
    exact hH
theorem pe_sortIt (hc : X.calm = true) (he : PE X e te) (hg : Gl X "sorted") (hm : X.mg "sorted" = none) (hbase : attributeBase e "items" X.env (eval e X.env) = eval e X.env := by rfl) (hline : (apos.endLine == cpos.line) = true := by rfl)
    (hs : starEach [.Call (.Attribute e "items" apos) [] [] cpos] X.env = (false, eval (.Call (.Attribute e "items" apos) [] [] cpos) X.env) :: starEach [] X.env := by rfl) :
    PE X (.Call (.Name "sorted" p) [.Call (.Attribute e "items" apos) [] [] cpos] [] pos) (tSortItX te) := by
  refine ⟨fun pins s σ H Q I hq => ?_⟩
  refine wpAny_Call_Name_kw (ld_blt I hg hm boot_sorted ?_)
  refine PyProof.Rows.callWith_builtin1 ?_ hs rfl
  rw [hs]
  show wpAny _ _ (spliced ((false, eval (.Call (.Attribute e "items" apos) [] [] cpos) X.env) :: backTo pos (starEach [] X.env))) _ _ s
  refine Calls.spliced_cons ?_
  refine wpAny_Call_method (T := "dict") (id := "dict.items") hbase rfl hline PySem.F.plainAttrs_dict PySem.F.slot_dict_items PySem.F.type_dict_items (thn (he.run pins s σ H _ I hq) fun u s1 ⟨x, H1, I1, rx, d, kvs, ks, ex, hd, ek, h64, q⟩ => ?_)
  subst ex
  obtain rfl : u = Value.ref d := rx
  obtain ⟨hz, hs0, vs, kv, hdo⟩ := I1.hok d _ hd
  have I2 : Inv X pins σ H1 { s1 with heap := s1.heap.push { cls := .type "dict_items", data := .fields #[.ref d] } } := I1.kept (t' := s1.toks) fun b ob q => Heap.get?_push_of_some _ q
  refine ⟨hdo.typeIs, hdo.mapOf.noDict, ?_⟩
  show wpAny _ _ (callWith cpos (.builtin "dict.items") [.ref d] [] []) _ X.xe s1
  refine method_meetsIn PySem.F.slot_dict_items PySem.F.entry_dict_items rfl (PySem.evalArgs_none ⟨rfl, hdo.typeIs, PySem.F.args_dict_items_1 _, _, meets_dict_items (mixKind X.prog X.w) d hs0, ⟨vs, hdo⟩, ?_⟩)
  refine Calls.spliced_nil ?_
  exact sortX_end hc I2 ⟨_, Heap.get?_push_size _ rfl, rfl, rfl⟩ hd ek h64 q
end
end Wn

/-! Own rules: == and != of dicts whose values are data; != of two pairs of equal dicts. -/
namespace Wn
open PySem PySem.Spec PyProof.Rows L2
def lk {α : Type} (l : List (Key × α)) (k : Key) : Option α := (l.find? fun p => decide (p.1 = k)).map (·.2)
/-- a dict's values are data -/
def DK (K : PySem.W.Frag) (H : Hp) (ks : List (Key × V)) (ds : List (Key × PyData)) : Prop := Paired (fun p q => p.1 = q.1 ∧ Dp K H p.2 q.2 ∧ SeqAt.shaped q.2 = true) ks ds
def eqK (ds es : List (Key × PyData)) : Bool := ds.length == es.length && ds.all fun p => match lk es p.1 with
  | some u => PyData.eqv p.2 u
  | none => false
theorem DK.length {K : PySem.W.Frag} {H : Hp} {ks : List (Key × V)} {ds : List (Key × PyData)} (h : DK K H ks ds) : ks.length = ds.length := Paired.length h
theorem DK.look {K : PySem.W.Frag} {H : Hp} (k : Key) : ∀ {ks : List (Key × V)} {ds : List (Key × PyData)}, DK K H ks ds →
    (valV ks k = none ∧ lk ds k = none) ∨ ∃ v d, valV ks k = some v ∧ lk ds k = some d ∧ Dp K H v d ∧ SeqAt.shaped d = true
  | _, _, .nil => .inl ⟨rfl, rfl⟩
  | p :: ps, q :: qs, .cons h t => by
    obtain ⟨h1, h2, h3⟩ := h
    unfold valV lk
    rw [List.find?_cons, List.find?_cons]
    by_cases e : p.1 = k
    · rw [h1] at e
      have e1 : decide (p.1 = k) = true := decide_eq_true (h1.trans e)
      rw [e1, decide_eq_true e]
      exact .inr ⟨_, _, rfl, rfl, h2, h3⟩
    · have e2 : ¬ q.1 = k := fun z => e (h1.trans z)
      rw [decide_eq_false e, decide_eq_false e2]
      exact DK.look k t
section
variable {X : Cx} {pins : List (Addr × Obj)} {σ : L2.St} {H : Hp} {s : Shared}
theorem hits_of (I : Inv X pins σ H s) {A : Around} (hu : A.in1.units + 64 < cLine) {ls : List (Key × V)} {vb : List (Key × Value)} {es : List (Key × PyData)} (rb : KV ls vb) (hb : DK X.K H ls es) {ks : List (Key × V)} {va : List (Key × Value)} (ra : KV ks va) :
    ∀ {ds : List (Key × PyData)}, DK X.K H ks ds → PySem.W.KeqHits A.in1 s vb va (ds.all fun p => match lk es p.1 with
  | some u => PyData.eqv p.2 u
  | none => false) := by
  unfold KV at ra
  induction ra with
  | nil =>
    intro ds h
    cases h
    exact .nil
  | @cons p q ps qs h t ih =>
    intro ds hd
    obtain ⟨h1, h2⟩ := h
    cases hd with
    | @cons _ dd _ dds g gt =>
      obtain ⟨g1, g2, g3⟩ := g
      obtain ⟨key, v⟩ := q
      have h1' : p.1 = key := h1
      obtain ⟨as, r1⟩ := Dp.reads I _ _ _ g2 h2
      rw [List.all_cons]
      have rr := rb.val key
      have ek : dd.1 = key := g1.symm.trans h1'
      rcases hb.look key with ⟨e1, e2⟩ | ⟨y, u, e1, e2, e3, e4⟩
      · rw [e1] at rr
        rw [ek, e2]
        refine .miss ?_
        cases z : valueAt vb key with
        | none => rfl
        | some w =>
          rw [z] at rr
          exact (show False from rr).elim
      · rw [e1] at rr
        obtain ⟨yv, hy, ry⟩ := rr.some_of
        obtain ⟨bs, r2⟩ := Dp.reads I _ _ _ e3 ry
        rw [ek, e2]
        exact .hit hy (PySem.W.keq_at r1 r2 g3 e4 hu) (ih gt)
theorem rd_dict {a : Addr} {ks : List (Key × V)} (I : Inv X pins σ H s) (h : Rd H a (.dK ks)) : (a == sysModules) = false ∧ ∃ vs, KV ks vs ∧ s.heap.DictOf (mixKind X.prog X.w) a vs := by
  obtain ⟨_, y, vs, r, d⟩ := (show ObjOk X.prog X.w H s.heap a (.dK ks) from h.ok I.hok)
  exact ⟨y, vs, r, d⟩
end
section
variable {X : Cx}
/-- == (neg: !=) of two dicts of data -/
def rEqK (K : PySem.W.Frag) (neg : Bool) : R2 := fun x y H Q => ∃ a b ks ls ds es, x = .ref a ∧ y = .ref b ∧ Rd H a (.dK ks) ∧ Rd H b (.dK ls) ∧ DK K H ks ds ∧ DK K H ls es ∧ Q (.bl (if neg = true then !eqK ds es else eqK ds es)) H
theorem op_eqK (hu : X.A.units + 66 < cLine) : OpR X (compareOp .Eq) (rEqK X.K false) := by
  intro pins s σ H x y v u Q I rx ry h
  obtain ⟨a, b, ks, ls, ds, es, rfl, rfl, ha, hb, da, db, q⟩ := h
  cases rx
  cases ry
  obtain ⟨ya, va, ra, oa⟩ := rd_dict I ha
  obtain ⟨yb, vb, rb, ob⟩ := rd_dict I hb
  refine PySem.W.keq_eq ya yb oa ob (by omega) (fun _ => hits_of I (A := X.A) (by show X.A.units + 1 + 64 < cLine; omega) rb db ra da) ?_
  refine ⟨.bl (eqK ds es), H, I, ?_, q⟩
  show Value.bool _ = Value.bool _
  unfold eqK
  rw [← da.length, ← db.length, ra.length, rb.length]
theorem op_neK (hu : X.A.units + 66 < cLine) : OpR X (compareOp .NotEq) (rEqK X.K true) := by
  intro pins s σ H x y v u Q I rx ry h
  obtain ⟨a, b, ks, ls, ds, es, rfl, rfl, ha, hb, da, db, q⟩ := h
  cases rx
  cases ry
  obtain ⟨ya, va, ra, oa⟩ := rd_dict I ha
  obtain ⟨yb, vb, rb, ob⟩ := rd_dict I hb
  refine PySem.W.keq_ne ya yb oa ob (by omega) (fun _ => hits_of I (A := X.A) (by show X.A.units + 1 + 64 < cLine; omega) rb db ra da) ?_
  refine ⟨.bl (!eqK ds es), H, I, ?_, q⟩
  show Value.bool _ = Value.bool _
  unfold eqK
  rw [← da.length, ← db.length, ra.length, rb.length]
end
/-! ### two pairs of equal things -/
section
open PySem.SeqAt
open PySem.AutoSeq1 (wpAny_loadPart')
variable {prog : Program} {w : World}
theorem tuple_neP (l b : Addr) (items items2 : Array Value) (n n2 : Nat) (dd dd2 : Option Addr) (sl sl2 : Array (Option Value)) (hsz : items.size = items2.size) :
    MeetsIn prog w (Builtin.«tuple.__ne__» ⟨[.ref l, .ref b], []⟩)
      (fun A R s => s.heap.get? l = some { cls := .type "tuple", dict := dd, data := .seq items n, slots := sl } ∧ s.heap.get? b = some { cls := .type "tuple", dict := dd2, data := .seq items2 n2, slots := sl2 } ∧
        (∀ j (h1 : j < items.size) (h2 : j < items2.size), EqP prog w A.in1 s items[j] items2[j] true) ∧ R (.ok (.ret (.bool false))) s) := by
  intro A R s h
  obtain ⟨hp, g, d, tk, os⟩ := s; obtain ⟨hl, hb, he, h⟩ := h
  have f2 := AutoSeq1.sub_tuple_tuple
  wp_walk using wpAny_loadPart' hl, wpAny_loadPart' hb, wpAny_forIn_list _ (fun rest b s' => b.1 = none ∧ s' = ⟨hp, g, d, tk, os⟩ ∧ ∃ i, rest = (items.toList.zip items2.toList).drop i) _
  case turn =>
    rintro ⟨y, x⟩ rest b s' ⟨hb', rfl, i, hz⟩
    have hlt : i < (items.toList.zip items2.toList).length := by
      rcases Nat.lt_or_ge i (items.toList.zip items2.toList).length with h' | h'
      · exact h'
      · rw [List.drop_of_length_le h'] at hz; cases hz
    have hm : i < min items.size items2.size := by simpa using hlt
    have h1 : i < items.size := by omega
    have h2 : i < items2.size := by omega
    rw [List.drop_eq_getElem_cons hlt] at hz
    injection hz with hyx hrest
    have hy : y = items[i] := by simpa using congrArg Prod.fst hyx
    have hx : x = items2[i] := by simpa using congrArg Prod.snd hyx
    subst hy hx
    refine wpAny_bind (he i h1 h2 _ _ ?_)
    wp_walk
    exact ⟨rfl, rfl, i + 1, hrest⟩
  case fin =>
    rintro ⟨b1, b2⟩ s' ⟨hb', rfl, i, hz⟩
    simp only at hb'
    subst hb'
    wp_walk
    simpa [Builtin.Tuple.tupleCompareSizes, bne, hsz] using h
  case h => exact ⟨rfl, rfl, 0, rfl⟩
theorem ne_tuplesP {A : Around} {E : Value → Shared → Prop} {s : Shared} {l b : Addr} {items items2 : Array Value} {Q : Value → Shared → Prop} (hl : IsTup s.heap l items) (hb : IsTup s.heap b items2) (hsz : items.size = items2.size) (hu : A.units < cLine)
    (he : ∀ j (h1 : j < items.size) (h2 : j < items2.size), EqP prog w A.in1 s items[j] items2[j] true) (h : Q (.bool false) s) : wpAny (model prog w) A (compareOp .NotEq (.ref l) (.ref b)) Q E s := by
  obtain ⟨⟨cls, dd, data, sl⟩, ho, hc, n, hd⟩ := id hl
  obtain ⟨⟨cls2, dd2, data2, sl2⟩, ho2, hc2, n2, hd2⟩ := id hb
  simp only at hc hd hc2 hd2
  subst hc hd hc2 hd2
  have ta : s.TypeIs (.ref l) "tuple" := ⟨_, ho, rfl⟩
  have tb : s.TypeIs (.ref b) "tuple" := ⟨_, ho2, rfl⟩
  exact wpAny_richCompare_same_room (op := .NotEq) ta tb F.slot_tuple_ne (call_meetsIn F.slot_tuple_ne ta F.entry_tuple_ne (F.args_tuple_ne_2 _ _) (tuple_neP l b items items2 n n2 dd dd2 sl sl2 hsz)
    ⟨ho, ho2, he, show Value.bool false ≠ Value.notImplemented ∧ Q (.bool false) s from ⟨(fun x => nomatch x), h⟩⟩) hu
end
section
variable {X : Cx} {pins : List (Addr × Obj)} {σ : L2.St} {H : Hp} {s : Shared}
theorem eqP_dicts (I : Inv X pins σ H s) {A : Around} (hu : A.units + 66 < cLine) {a b : Addr} {ks ls : List (Key × V)} {ds es : List (Key × PyData)} (ha : Rd H a (.dK ks)) (hb : Rd H b (.dK ls)) (da : DK X.K H ks ds) (db : DK X.K H ls es) (e : eqK ds es = true) :
    SeqAt.EqP X.prog X.w A s (.ref a) (.ref b) true := by
  by_cases h : a = b
  · subst h
    exact (SeqAt.EqAt.same _).eqP
  · obtain ⟨ya, va, ra, oa⟩ := rd_dict I ha
    obtain ⟨yb, vb, rb, ob⟩ := rd_dict I hb
    refine SeqAt.eqP_refs h fun E Q q => PySem.W.keq_eq ya yb oa ob (by omega) (fun _ => hits_of I (A := A) (by show A.units + 1 + 64 < cLine; omega) rb db ra da) ?_
    have z : (va.length == vb.length && ds.all fun p => match lk es p.1 with
      | some u => PyData.eqv p.2 u
      | none => false) = true := by
      rw [← e]
      unfold eqK
      rw [← da.length, ← db.length, ra.length, rb.length]
    rw [z]
    exact q
end
section
variable {X : Cx}
/-- (d, e) != (f, g): the dicts are equal -/
def rNeP (K : PySem.W.Frag) : R2 := fun x y H Q => ∃ a b d e f g k1 k2 k3 k4 d1 d2 d3 d4, x = .ref a ∧ y = .ref b ∧ SqT K H a [.ref d, .ref e] ∧ SqT K H b [.ref f, .ref g] ∧ Rd H d (.dK k1) ∧ Rd H e (.dK k2) ∧ Rd H f (.dK k3) ∧ Rd H g (.dK k4) ∧
  DK K H k1 d1 ∧ DK K H k2 d2 ∧ DK K H k3 d3 ∧ DK K H k4 d4 ∧ eqK d1 d3 = true ∧ eqK d2 d4 = true ∧ Q (.bl false) H
theorem op_neP (hu : X.A.units + 80 < cLine) : OpR X (compareOp .NotEq) (rNeP X.K) := by
  intro pins s σ H x y v u Q I rx ry h
  obtain ⟨a, b, d, e, f, g, k1, k2, k3, k4, d1, d2, d3, d4, rfl, rfl, ha, hb, hd, he, hf, hg, D1, D2, D3, D4, e1, e2, q⟩ := h
  cases rx
  cases ry
  obtain ⟨its, rv, pa, _⟩ := I.tuple ha
  obtain ⟨jts, rw_, pb, _⟩ := I.tuple hb
  cases rv with
  | cons r1 r2 =>
  cases r2 with
  | cons r2 r3 =>
  cases r3
  cases rw_ with
  | cons s1 s2 =>
  cases s2 with
  | cons s2 s3 =>
  cases s3
  cases r1
  cases r2
  cases s1
  cases s2
  have p1 := eqP_dicts I (A := X.A.in1) (by show X.A.units + 1 + 66 < cLine; omega) hd hf D1 D3 e1
  have p2 := eqP_dicts I (A := X.A.in1) (by show X.A.units + 1 + 66 < cLine; omega) he hg D2 D4 e2
  refine ne_tuplesP pa pb rfl (by omega) (fun j h1 h2 => ?_) ⟨.bl false, H, I, rfl, q⟩
  match j, h1, h2 with
  | 0, _, _ => exact p1
  | 1, _, _ => exact p2
end
end Wn

/-! Own rules: sets of unlike texts: set(list), len(set(list)), sorted(set(list)). -/
namespace Wn
open PySem PySem.Spec PyProof.Rows L2
def keyX (e : Int × Value) : Str := match e.2 with
  | .str x _ => x
  | _ => Str.empty
def GoodX (w : World) (e : Int × Value) : Prop := ∃ x tk, e.2 = Value.str x tk ∧ e.1 = hashStr w x
/-- the set at a holds these texts, in some order -/
def SetX (w : World) (h : Heap) (a : Addr) (ks : List Str) : Prop :=
  ∃ o es ep t, h.get? a = some o ∧ o.ExactSet ∧ o.data = .set es ep t ∧ (∀ e ∈ es.toList, GoodX w e) ∧ (es.toList.map keyX).Perm ks ∧
    es.size < scanBound ∧ t.fits es.size = true ∧ Ris t.place.toList ∧ (w.params.followText "set-order" = true ∨ t.led = true)
section
variable {P : Program} {w : World} {h h' : Heap} {a : Addr} {ks : List Str}
theorem SetX.at (R : SetX w h a ks) (k : ∀ o, h.get? a = some o → h'.get? a = some o) : SetX w h' a ks := by
  obtain ⟨o, es, ep, t, ho, r⟩ := R
  exact ⟨o, es, ep, t, k o ho, r⟩
theorem goodX_elems {l : List (Int × Value)} (g : ∀ e ∈ l, GoodX w e) : ElemsOf (PySem.strKind P w) l := fun e he => by
  obtain ⟨k, tk, h1, h2⟩ := g e he
  exact ⟨⟨k, by rw [h1]; exact strKind_is P w k tk, h2⟩, by rw [h1] <;> rfl⟩
theorem goodX_is {e : Int × Value} (g : GoodX w e) {k : Str} (h : (PySem.strKind P w).is k e.2 = true) : keyX e = k := by
  obtain ⟨x, tk, h1, _⟩ := g
  rw [h1] at h
  unfold keyX
  rw [h1]
  exact (PySem.strKind P w).inj _ _ _ (strKind_is P w x tk) h
end
section
variable {P : Program} {w : World} {A : Around} {E : Value → Shared → Prop} {s : Shared} {a : Addr} {ks : List Str}
theorem setX_tail {g : Bool → Sem Unit} (hg : ∀ (b : Bool) (s1 : Shared) (Q' : Unit → Shared → Prop), Q' () s1 → wpAny (model P w) A (g b) Q' E s1)
    {o : Obj} {es : Array (Int × Value)} {ep : Nat} {t : SetTable} (ho : s.heap.get? a = some o) (hex : o.ExactSet) (hd : o.data = .set es ep t)
    {es1 : Array (Int × Value)} {t2 : SetTable} (g1 : ∀ e ∈ es1.toList, GoodX w e) (m1 : (es1.toList.map keyX).Perm ks)
    (hb1 : es1.size < scanBound) (hf2 : t2.fits es1.size = true) (hr : Ris t2.place.toList) (hl : w.params.followText "set-order" = true ∨ t2.led = true) {wasDummy : Bool} {R : Option Bool → Shared → Prop}
    (hR : ∀ h', Heap.SameBut a s.heap h' → SetX w h' a ks → R (some true) { s with heap := h' }) :
    wpAny (model P w) A (do
        storeSet a es1 t2
        if (!wasDummy && t2.tooFull) = true then do
            g (relayAll t2 es1 (SetTable.grown es1.size)).2.2
            storeSet a (relayAll t2 es1 (SetTable.grown es1.size)).1 (relayAll t2 es1 (SetTable.grown es1.size)).2.1
            pure (some true)
          else pure (some true)) R E s := by
  refine wpAny_bind (wpAny_storeSet_of ho hd ?_ (fits_of_scanBound hb1))
  have ho1 := store_at (es' := es1) (t' := t2) ho hd
  have sb1 := Heap.SameBut.update s.heap a (Obj.putSet es1 t2)
  split
  · have pm := relayAll_perm t2 es1 (SetTable.grown es1.size)
    have hf3 := relayAll_fits t2 es1 (SetTable.grown es1.size)
    have hr3 := relayAll_ris t2 es1 (SetTable.grown es1.size)
    have hl3 := relayAll_led t2 es1 (SetTable.grown es1.size)
    generalize relayAll t2 es1 (SetTable.grown es1.size) = Z at pm hf3 hr3 hl3 ⊢
    obtain ⟨es2, t3, gave⟩ := Z
    dsimp only at pm hf3 hr3 hl3 ⊢
    have hsz : es2.size = es1.size := by rw [← Array.length_toList, pm.length_eq, Array.length_toList]
    have hb2 : es2.size < scanBound := by rw [hsz]; exact hb1
    refine wpAny_bind (hg _ _ _ ?_)
    refine wpAny_bind (wpAny_storeSet_of ho1 rfl ?_ (fits_of_scanBound hb2))
    have ho2 := store_at (es' := es2) (t' := t3) ho1 rfl
    refine wpAny_pure (hR _ (sb1.trans (Heap.SameBut.update _ a _)) ?_)
    exact ⟨_, es2, _, t3, ho2, hex, rfl, fun e he => g1 e (pm.mem_iff.mp he), (pm.map keyX).trans m1, hb2, hf3, hr3, hl.imp id fun z => by rw [hl3]; exact z⟩
  · exact wpAny_pure (hR _ sb1 ⟨_, es1, _, t2, ho1, hex, rfl, g1, m1, hb1, hf2, hr, hl⟩)
/-- a text that the set lacks is added -/
theorem setX_add {k : Str} {tk : Tok} {Q : Bool → Shared → Prop} (R : SetX w s.heap a ks) (room : ks.length + 1 < scanBound) (hk : k ∉ ks)
    (hQ : ∀ h', Heap.SameBut a s.heap h' → SetX w h' a (k :: ks) → Q true { s with heap := h' }) :
    wpAny (model P w) A (setAddHashed a (.str k tk) ((PySem.strKind P w).hash k)) Q E s := by
  obtain ⟨o, es, ep, t, ho, hex, hd, g, hm, hb, hf, hr, hl⟩ := R
  have hkey : (PySem.strKind P w).is k (.str k tk) = true := strKind_is P w k tk
  have hsc : (Value.str k tk).scannable = true := rfl
  have hel : ElemsOf (PySem.strKind P w) es.toList := goodX_elems g
  have hn : es.size = ks.length := by rw [← Array.length_toList, ← hm.length_eq, List.length_map]
  unfold setAddHashed setAddHashedIn
  refine wpAny_holding (wpAny_bind (wpAny_setState_of ho hd hf ?_))
  dsimp only
  rw [byScan_of hsc hb hel]
  simp only [↓reduceIte]
  unfold setAddByScan
  refine wpAny_bind ?_
  refine wpAny_bind (wpAny_rule ?_)
  refine wpAny_bind (wpAny_setScan_of hkey ho hd hf hel ?_)
  have hnone : List.findIdx? (fun e => (PySem.strKind P w).is k e.2) es.toList = none := by
    rw [List.findIdx?_eq_none_iff]
    intro e he
    cases q : (PySem.strKind P w).is k e.2 with
    | false => rfl
    | true => exact absurd (hm.mem_iff.mp (List.mem_map.mpr ⟨e, he, goodX_is (g e he) q⟩)) hk
  rw [hnone]
  dsimp only
  have hgw : ∀ (b : Bool) {s1 : Shared} {Q' : Unit → Shared → Prop}, Q' () s1 → wpAny (model P w) A (match b with | true => rule "set.scan.the-table-gave-way" | false => pure ()) Q' E s1 :=
    fun b s1 Q' q => by cases b <;> first | exact wpAny_pure q | exact wpAny_rule q
  have pm := layNew_perm t es ((PySem.strKind P w).hash k) (.str k tk)
  have hf1 := layNew_fits t es ((PySem.strKind P w).hash k) (.str k tk)
  have hr1 := layNew_ris t es ((PySem.strKind P w).hash k) (.str k tk) hr
  have hl1 := layNew_led t es ((PySem.strKind P w).hash k) (.str k tk)
  generalize layNew t es ((PySem.strKind P w).hash k) (.str k tk) = Z at pm hf1 hr1 hl1 ⊢
  obtain ⟨es1, t1, wasDummy, gave⟩ := Z
  dsimp only at pm hf1 hr1 hl1 ⊢
  rw [Array.toList_push] at pm
  have pc : es1.toList.Perm (((PySem.strKind P w).hash k, Value.str k tk) :: es.toList) := pm.trans (List.perm_append_singleton _ _)
  have m1 : (es1.toList.map keyX).Perm (k :: ks) := (pc.map keyX).trans (List.Perm.cons k hm)
  have g1 : ∀ e ∈ es1.toList, GoodX w e := fun e he => by
    rcases List.mem_cons.mp (pc.mem_iff.mp he) with z | z
    · rw [z]; exact ⟨k, tk, rfl, rfl⟩
    · exact g e z
  have hsz : es1.size = ks.length + 1 := by rw [← Array.length_toList, pc.length_eq, List.length_cons, Array.length_toList, hn]
  have hb1 : es1.size < scanBound := by rw [hsz]; exact room
  have hled : w.params.followText "set-order" = true ∨ t1.led = true := hl.imp id fun z => by rw [hl1]; exact z
  refine wpAny_bind (hgw _ ?_)
  split
  · refine wpAny_bind ?_
    rw [hashByValue_scannable 8 hsc]
    refine wpAny_pure ?_
    refine setX_tail ?_ ho hex hd g1 m1 hb1 ?_ ?_ ?_ ?_
    · intro b s1 Q' q; cases b <;> first | exact wpAny_pure q | exact wpAny_rule q
    · first | (split <;> first | exact hf1 | exact SetTable.fits_plain_off hf1) | exact hf1
    · first | (split <;> exact hr1) | exact hr1
    · first | (split <;> exact hled) | exact hled
    · intro h' sb r; dsimp only; exact wpAny_pure (hQ h' sb r)
  · refine wpAny_bind (wpAny_pure ?_)
    simp only [↓reduceIte]
    refine setX_tail ?_ ho hex hd g1 m1 hb1 hf1 hr1 hled ?_
    · intro b s1 Q' q; cases b <;> first | exact wpAny_pure q | exact wpAny_rule q
    · intro h' sb r; dsimp only; exact wpAny_pure (hQ h' sb r)
end
section
variable {prog : Program} {w : World} {A : Around} {R : Result → Shared → Prop} {I : Addr} {fp wr : List Addr} {G : Array GenState → Array GenState → Prop} {n : Nat} {P : Nat → Value → Prop} {St : Nat → Shared → Prop}
theorem loopX (W : WalksS prog w A.in1 I fp wr G n P St) (S : Addr) (hSf : S ∉ fp) (xs : List Str) (hsz : xs.length = n) (hn1 : n < 64) (hnd : xs.Nodup)
    (hval : ∀ i v, P i v → ∃ x t, xs[i]? = some x ∧ v = .str x t) :
    ∀ (k i : Nat) (s : Shared), n - i = k → i ≤ n → St i s → SetX w s.heap S (xs.take i).reverse →
      (∀ s', Moved (S :: wr) G s s' → SetX w s'.heap S xs.reverse → R (.ok (.ret .none)) s') →
      codeAny (model prog w) A (.builtin "set.update.loop" ⟨[.ref S, .ref I], []⟩) R s := by
  have hSw : S ∉ wr := fun h => hSf (W.sub _ h)
  have hsub : ∀ b ∈ wr, b ∈ S :: wr := fun b hb => List.mem_cons_of_mem _ hb
  intro k
  induction k with
  | zero =>
    intro i s hk hi hst hS hR
    have hin : i = n := by omega
    subst hin
    refine codeAny_builtin PyProof.Rows.F.entry_set_update_loop ?_
    rw [Around.under_plainId PyProof.Rows.F.plain_set_update_loop _]
    show wpAny _ A.in1 (pyNext (.ref I) >>= _) _ _ s
    refine wpAny_bind (W.done s _ _ hst fun s' hm => ?_)
    show wpAny _ A.in1 (ret Value.none) _ _ s'
    rw [← hsz, List.take_length] at hS
    exact wpAny_pure (hR s' (hm.mono hsub) (hS.at fun o e => hm.heap S _ hSw e))
  | succ k ih =>
    intro i s hk hi hst hS hR
    have hlt : i < n := by omega
    refine codeAny_builtin PyProof.Rows.F.entry_set_update_loop ?_
    rw [Around.under_plainId PyProof.Rows.F.plain_set_update_loop _]
    show wpAny _ A.in1 (pyNext (.ref I) >>= _) _ _ s
    refine wpAny_bind (W.item i s _ _ hlt hst fun v s' hP hst' hm => ?_)
    obtain ⟨x, t, hx, rfl⟩ := hval i v hP
    have hS' : SetX w s'.heap S (xs.take i).reverse := hS.at fun o e => hm.heap S _ hSw e
    have e1 : xs.take (i + 1) = xs.take i ++ [x] := by rw [List.take_succ, hx] <;> rfl
    have hnx : x ∉ (xs.take i).reverse := by
      have z : (xs.take (i + 1)).Nodup := hnd.sublist (List.take_sublist _ _)
      rw [e1, List.nodup_append] at z
      intro hm'
      exact z.2.2 x (List.mem_reverse.mp hm') x (List.mem_singleton.mpr rfl) rfl
    show wpAny _ A.in1 (holding [Value.str x t] (setAdd S (.str x t)) >>= _) _ _ s'
    refine wpAny_bind (wpAny_holding ?_)
    unfold setAdd
    refine wpAny_holding ?_
    refine wpAny_bind ((PySem.strKind prog w).pyHash (k := x) (strKind_is _ _ _ _) ?_)
    refine setX_add (s := { s' with toks := s'.toks + 1 }) hS' (by rw [List.length_reverse, List.length_take]; unfold scanBound; omega) hnx fun h' hsb hS2 => ?_
    have hSi : SetX w h' S (xs.take (i + 1)).reverse := by
      rw [e1, List.reverse_append]
      exact hS2
    refine wpAny_pure ⟨plainId_quiet PyProof.Rows.F.plain_set_update_loop _, ih (i + 1) _ (by omega) hlt (W.frame _ s' _ _ hst' (Nat.le_succ _) fun b hb o e => ?_) hSi fun s'' hm'' hS'' => ?_⟩
    · rw [hsb.2 b (fun h : b = S => hSf (by rw [← h]; exact hb))]; exact e
    · refine hR s'' (Moved.trans W.gtrans ((hm.mono hsub).then_heap (Nat.le_succ _) fun b o hb e => ?_) hm'') hS''
      rw [hsb.2 b (fun h : b = S => hb (by rw [h]; exact List.mem_cons_self))]; exact e
end
section
variable {P : Program} {w : World} {A : Around} {E : Value → Shared → Prop} {s : Shared}
theorem code_setX_new (a : Value) {Q1 : Value → Shared → Prop}
    (h : Q1 (.ref s.heap.objs.size) { s with heap := s.heap.push { cls := .type "set", dict := none, data := .set #[] 0 (.fresh 0 0 (!w.params.followText "set-order")) } }) :
    codeAny (model P w) A (.call (.builtin "set.__new__") ⟨[.type "set", a], []⟩) (wants Q1 E) s := by
  refine codeAny_of_tree ?_
  show wpAny _ A.in1 (do checkBuiltinCall "set.__new__" ⟨[.type "set", a], []⟩; again (.builtin "set.__new__" ⟨[.type "set", a], []⟩)) _ _ s
  refine wpAny_bind (wpAny_of_eq (PySem.F.newCall_set_1 a) (wpAny_pure ⟨plainId_quiet F.plain_set_new _, codeAny_builtin F.entry_set_new ?_⟩))
  rw [Around.under_plainId F.plain_set_new _]
  unfold Builtin.«set.__new__» Builtin.Frozenset.newClass
  have hsub := sub_set_self
  obtain ⟨hp, g, d, tk, os⟩ := s
  dsimp only
  wp_walk
  refine wpAny_askSetting (wpAny_pure ?_)
  dsimp only
  simp only [newObj]
  refine wpAny_bind (wpAny_alloc (wpAny_pure ?_))
  exact wpAny_pure h
theorem strs_item : ∀ {us : List Value} {xs : List Str}, StrsAre us xs → ∀ (i : Nat) (v : Value), us[i]? = some v → ∃ x t, xs[i]? = some x ∧ v = .str x t
  | _, _, .nil, i, v, h => by simp at h
  | _, _, .cons x t r, 0, v, h => by
    simp at h
    exact ⟨x, t, rfl, h.symm⟩
  | _, _, .cons x t r, i + 1, v, h => strs_item r i v (by simpa using h)
set_option maxHeartbeats 8000000 in
theorem call_setX {l : Addr} {items : Array Value} {xs : List Str} {Q : Value → Shared → Prop}
    (hh : A.handled = none) (hl : s.heap.IsList l items) (hi : StrsAre items.toList xs) (hn1 : xs.length < 64) (hnd : xs.Nodup)
    (h : ∀ (h' : Heap) (tk : Nat), SetX w h' s.heap.objs.size xs.reverse →
      (∀ b o, b < s.heap.objs.size → s.heap.get? b = some o → h'.get? b = some o) → Q (.ref s.heap.objs.size) { s with heap := h', toks := tk }) :
    wpAny (model P w) A (call (.type "set") [.ref l]) Q E s := by
  obtain ⟨c, tl, hmro⟩ := PySem.F.called_set.mro
  have hmade := PySem.F.called_set.made
  have hsub := PySem.F.called_set.sub
  refine wpAny_call (codeAny_of_tree ?_)
  show wpAny _ _ (callAny (.type "set") _) _ _ _
  refine wpAny_pure ⟨Code.quiet_builtin _ (by decide +kernel), codeAny_builtin PySem.F.entry_type_call ?_⟩
  rw [Around.under_plain (weight_type_call_type "set" [.ref l] []) rfl]
  have h1 := PySem.F.called_set.notType
  have h2 := PySem.F.called_set.canCreate
  have hct := PySem.F.typeCall_set_1 (.ref l)
  repeat (any_goals (first | assumption | wp_step))
  refine codeAny_mono (code_setX_new (.ref l) (E := E) (Q1 := fun obj s1 => obj = .ref s.heap.objs.size ∧ s1 = { s with heap := s.heap.push { cls := .type "set", dict := none, data := .set #[] 0 (.fresh 0 0 (!w.params.followText "set-order")) } }) ⟨rfl, rfl⟩) fun r s1 hr => ?_
  have hr0 := setR_fresh (h := s.heap) w
  generalize hled : (!w.params.followText "set-order") = led at hr hr0
  cases r with
  | error e => exact hr
  | ok fl =>
    cases fl with
    | ret obj =>
      obtain ⟨rfl, rfl⟩ := hr
      have hS : (s.heap.push { cls := .type "set", dict := none, data := .set #[] 0 (.fresh 0 0 led) }).get? s.heap.objs.size = some { cls := .type "set", dict := none, data := .set #[] 0 (.fresh 0 0 led) } := Heap.get?_push_size _ rfl
      have hT : Shared.TypeIs { s with heap := s.heap.push { cls := .type "set", dict := none, data := .set #[] 0 (.fresh 0 0 led) } } (.ref s.heap.objs.size) "set" := ⟨_, hS, rfl⟩
      have hli := PySem.F.called_set.init.lookup
      have hbi := PySem.F.called_set.init.bind (.ref s.heap.objs.size)
      repeat (any_goals (first | assumption | wp_step))
      refine codeAny_mono (codeAny_call_builtin (R := wants (fun r s2 => r = .none ∧ ∃ h' tk, s2 = { s with heap := h', toks := tk } ∧ SetX w h' s.heap.objs.size xs.reverse ∧
          (∀ b o, b < s.heap.objs.size → s.heap.get? b = some o → h'.get? b = some o)) E) PySem.F.called_set.init.plain PySem.F.entry_set_init (check_set_init_1 hT ?_)) fun r2 s2 hr2 => ?_
      · obtain ⟨ol, hol, hcl, nl, hdl⟩ := hl
        obtain ⟨ocls, odict, odata, oslots⟩ := ol
        simp only at hcl hdl
        subst hcl; subst hdl
        have hol' : (s.heap.push { cls := .type "set", dict := none, data := .set #[] 0 (.fresh 0 0 led) }).get? l = some { cls := .type "list", dict := odict, data := .seq items nl, slots := oslots } := Heap.get?_push_of_some _ hol
        have hsls := PySem.F.sub_list_set
        have hslf := PySem.F.sub_list_frozenset
        have hne : (Value.type "list" == Value.type "dict") = false := by decide
        have hl1 : (s.heap.push { cls := .type "set", dict := none, data := .set #[] 0 (.fresh 0 0 led) }).IsList l items := ⟨_, hol', rfl, nl, rfl⟩
        unfold Builtin.«set.__init__» noKeywords Builtin.Frozenset.updateFrom
        generalize hPI : pyIter = PI
        wp_walk
        subst hPI
        refine wpAny_pyIter_list hl1 ?_
        refine wpAny_bind (wpAny_runValue ?_)
        have hlS : l < s.heap.objs.size := Heap.lt_size hol
        have hh3 : A.in1.in1.in1.handled = none := by simp [hh]
        have hneI : l ≠ (s.heap.push { cls := .type "set", dict := none, data := .set #[] 0 (.fresh 0 0 led) }).objs.size := by
          rw [Heap.size_push]; exact Nat.ne_of_lt (Nat.lt_succ_of_lt hlS)
        have hSf : s.heap.objs.size ∉ [(s.heap.push { cls := .type "set", dict := none, data := .set #[] 0 (.fresh 0 0 led) }).objs.size, l] := by
          rw [Heap.size_push]; simp only [List.mem_cons, List.mem_singleton, List.not_mem_nil, or_false, not_or]
          exact ⟨Nat.ne_of_lt (Nat.lt_succ_self _), Nat.ne_of_gt hlS⟩
        have hsz : xs.length = items.size := by rw [← StrsAre.len_eq hi, Array.length_toList]
        refine loopX ((Walks.list hh3 _ l hneI items).toS) s.heap.objs.size hSf xs hsz (by rw [← hsz]; exact hn1) hnd
          (fun i v hv => strs_item hi i v (by rw [Array.getElem?_toList]; exact hv)) (items.size - 0) 0 _ (by omega) (Nat.zero_le _)
          ⟨⟨_, Heap.get?_push_size _ rfl, rfl, rfl⟩, (hl1.push _)⟩ ?hS0 ?hR
        case hS0 =>
          have hget : ((s.heap.push { cls := .type "set", dict := none, data := .set #[] 0 (.fresh 0 0 led) }).push { cls := .type "list_iterator", data := .fields #[.ref l, .int 0 0] }).get? s.heap.objs.size
              = some { cls := .type "set", dict := none, data := .set #[] 0 (.fresh 0 0 led) } := Heap.get?_push_of_some _ hS
          refine ⟨_, _, _, _, hget, ⟨rfl, rfl, rfl⟩, rfl, (fun e he => by simp at he), by simp, by decide, by rfl, List.Pairwise.nil, ?_⟩
          show _ ∨ led = true
          rw [← hled]
          cases w.params.followText "set-order"
          · exact .inr rfl
          · exact .inl rfl
        case hR =>
          intro s' hm hS'
          obtain ⟨h', g', d', tk', os'⟩ := s'
          have eg : g' = s.gens := hm.gens
          have ed : d' = s.drawn := hm.drawn
          have eo : os' = s.os := hm.os
          subst eg; subst ed; subst eo
          show wpAny _ _ _ _ _ _
          refine wpAny_pure ?_
          show wpAny _ _ (ret Value.none) _ _ _
          refine wpAny_pure ⟨rfl, h', tk', rfl, hS', fun b o hb e => ?_⟩
          have hb1 : b ≠ s.heap.objs.size := Nat.ne_of_lt hb
          have hb2 : b ≠ (s.heap.push { cls := .type "set", dict := none, data := .set #[] 0 (.fresh 0 0 led) }).objs.size := by
            rw [Heap.size_push]; exact Nat.ne_of_lt (Nat.lt_succ_of_lt hb)
          exact hm.heap b o (by simp only [List.mem_cons, List.mem_singleton, List.not_mem_nil, or_false, not_or]; exact ⟨hb1, hb2⟩) (Heap.get?_push_of_some _ (Heap.get?_push_of_some _ e))
      · cases r2 with
        | error e => exact hr2
        | ok fl2 =>
          cases fl2 with
          | ret r =>
            obtain ⟨rfl, h', tk, rfl, hS', hk'⟩ := hr2
            repeat (any_goals (first | assumption | wp_step))
            exact h _ _ hS' hk'
          | _ => exact hr2.elim
    | _ => exact hr.elim
end
section
variable {X : Cx}
/-! ### over the layer -/
def SetXO (w : World) (a : Addr) (ks : List Str) : HO := .ext fun h => SetX w h a ks
theorem setXO_ok {P : Program} {w : World} {H : Hp} {h : Heap} {a : Addr} {ks : List Str} (R : SetX w h a ks) : ObjOk P w H h a (SetXO w a ks) :=
  ⟨R, let ⟨o, _, _, _, ho, _⟩ := R; ⟨o, ho⟩, fun _ _ x k => x.at k⟩
theorem strsX : ∀ {ys : List Str} {us : List Value}, Vals (ys.map V.str) us → StrsAre us ys
  | [], _, .nil => .nil
  | y :: ys, _, .cons r t => by
    obtain ⟨k, rfl⟩ := r
    exact .cons y k (strsX t)
/-- set(xs), xs unlike texts -/
def rSetX (K : PySem.W.Frag) (w : World) : List V → Hp → VK → Prop := fun vs H Q => ∃ (l : Addr) (xs : List Str), vs = [.ref l] ∧ SqL K H l (xs.map V.str) ∧ xs.length < 64 ∧ xs.Nodup ∧ ∀ p, H p = none → Q (.ref p) (upd H p (SetXO w p xs.reverse))
theorem cr_setX (hc : X.calm = true) : CallR X (.type "set") (rSetX X.K X.w) := by
  intro pins s σ H vs us Q I r h
  obtain ⟨l, xs, rfl, hl, h64, hnd, q⟩ := h
  rw [Vals.ref1 r]
  obtain ⟨its, rv, pl, hz⟩ := I.list hl
  have hn : H s.heap.objs.size = none := I.hok.fresh (Nat.le_refl _)
  refine call_setX (P := X.prog) (w := X.w) (I.ok.hd hc) pl.isList (by simpa using strsX rv) h64 hnd fun h' tk R k => ?_
  exact ⟨.ref s.heap.objs.size, _, I.laid (t' := tk) (fun b o e => k b o (Heap.lt_size e) e) (Nat.le_refl _) (setXO_ok R), rfl, q _ hn⟩
/-- len of it -/
def rLenX (w : World) : List V → Hp → VK → Prop := fun vs H Q => ∃ (a : Addr) (ks : List Str), vs = [.ref a] ∧ H a = some (SetXO w a ks) ∧ Q (.int (ks.length : Nat)) H
theorem cr_lenX : CallR X (.builtin "len") (rLenX X.w) := by
  intro pins s σ H vs us Q I r h
  obtain ⟨a, ks, rfl, ha, q⟩ := h
  rw [Vals.ref1 r]
  obtain ⟨o, es, ep, t, ho, hex, hd, _, hm, hb, hf, _⟩ := (I.hok a _ ha).1
  have hn : es.size = ks.length := by rw [← Array.length_toList, ← hm.length_eq, List.length_map]
  refine call_len_set ho hex hd hf (by unfold scanBound at hb; omega) ⟨.int (ks.length : Nat), H, I.tok _, ⟨_, by rw [hn]⟩, q⟩
theorem strs_keys : ∀ (vs : List Value) (es : List (Int × Value)) {w : World}, (∀ v ∈ vs, ∃ e ∈ es, e.2 = v) → (∀ e ∈ es, GoodX w e) → StrsAre vs (vs.map fun v => keyX (0, v))
  | [], _, _, _, _ => .nil
  | v :: vs, es, w, h, g => by
    obtain ⟨e, he, q⟩ := h v List.mem_cons_self
    obtain ⟨x, tk, h1, _⟩ := g e he
    have hv : v = Value.str x tk := by rw [← q, h1]
    subst hv
    exact .cons x tk (strs_keys vs es (fun u hu => h u (List.mem_cons_of_mem _ hu)) g)
/-- sorted of it -/
def rSortedX (w : World) : List V → Hp → VK → Prop := fun vs H Q => ∃ (a : Addr) (ks : List Str), vs = [.ref a] ∧ H a = some (SetXO w a ks) ∧ ks.length < 64 ∧
  ∀ (ys : List Str) (p : Addr), ys.Perm ks → sortedS ys = true → H p = none → Q (.ref p) (upd H p (.lst (ys.map V.str)))
theorem cr_sortedX (hc : X.calm = true) : CallR X (.builtin "sorted") (rSortedX X.w) := by
  intro pins s σ H vs us Q I r h
  obtain ⟨a, ks, rfl, ha, h64, q⟩ := h
  rw [Vals.ref1 r]
  obtain ⟨o, es, ep, t, ho, hex, hd, g, hm, hb, hf, hr, hl⟩ := (I.hok a _ ha).1
  have hn : es.size = ks.length := by rw [← Array.length_toList, ← hm.length_eq, List.length_map]
  refine Calls.call_function_entry kind_sorted plain_sorted entry_sorted (args_sorted1 _) ?_
  unfold Builtin.«sorted»
  refine wpAny_bind (m := checkCount "sorted" 1 1 _) (wpAny_pure ?_)
  refine wpAny_bind (collect_set (A := X.A.in1) (I.ok.hd hc) ⟨o, ho, hex.1, hd⟩ hf hb hr hl fun s1 vs k1 hz g1 o1 pm => ?_)
  have hvl : vs.length = ks.length := by rw [pm.length_eq, List.length_map, Array.length_toList]; exact hn
  have hS : StrsAre vs (vs.map fun v => keyX (0, v)) := strs_keys vs es.toList (fun v hv => List.mem_map.mp (pm.mem_iff.mp hv)) g
  have pk : (vs.map fun v => keyX (0, v)).Perm ks := by
    have z := pm.map fun v => keyX (0, v)
    rw [List.map_map] at z
    exact z.trans hm
  refine wpAny_bind (wpAny_newList ?_ (by rw [hvl, sizeLine_eq]; omega))
  have hoL : (s1.heap.push (seqObj "list" vs.toArray 0)).get? s1.heap.objs.size = some (seqObj "list" vs.toArray 0) := Heap.get?_push_size _ rfl
  refine wpAny_bind (wpAny_holding (wpAny_call_entry PyProof.Rows.slot_list_sort ⟨_, hoL, rfl⟩ PyProof.Rows.entry_list_sort
    (list_sort_treeK strKind_oneLt hoL hS.keysOf (fun v1 v2 rest e => keyKind_strs (by rw [← e]; exact hS)) (by rw [hvl]; exact h64) fun st' hp hs => ⟨_, rfl, ?_⟩) (PyProof.Rows.args_list_sort _)))
  obtain ⟨ys, y1, y2, y3⟩ := sorted_out_str hS hp hs
  obtain ⟨c, hc2⟩ := PyProof.Rows.sortedHeap_at (vs := vs) (out := (arrOf st').map (·.2)) hoL
  have hlen : (ys.map V.str).length ≤ sizeLine := by
    rw [List.length_map, (y2.trans pk).length_eq]
    exact Nat.le_trans (Nat.le_of_lt h64) (by decide)
  have hpn : H s1.heap.objs.size = none := I.hok.fresh hz
  have kp : ∀ b u, s.heap.get? b = some u → (sortedHeap (s1.heap.push (seqObj "list" vs.toArray 0)) s1.heap.objs.size vs ((arrOf st').map (·.2))).get? b = some u := fun b u e => by
    have z := k1 b u e
    have hlt := Heap.lt_size z
    rw [PyProof.Rows.sortedHeap_old (Nat.ne_of_lt hlt) (by rw [Heap.size_push]; exact Nat.lt_succ_of_lt hlt)]
    exact Heap.get?_push_of_some _ z
  have J : Inv X pins σ (upd H s1.heap.objs.size (.lst (ys.map V.str))) { s with heap := sortedHeap (s1.heap.push (seqObj "list" vs.toArray 0)) s1.heap.objs.size vs ((arrOf st').map (·.2)), gens := s1.gens, drawn := s1.drawn, toks := s1.toks } :=
    I.call (ch := []) (Un.laid kp hz hpn) (I.hok.laid kp hz ⟨hlen, ((arrOf st').map (·.2)).toList, c, vals_of_strs y1, by rw [Array.toArray_toList]; exact hc2⟩) (by rw [g1]; exact I.bare) (fun _ z => nomatch z)
  have e : s1.os = s.os := o1
  refine wpAny_pure ⟨_, rfl, ?_⟩
  show EP X pins σ Q (.ref s1.heap.objs.size) { s1 with heap := sortedHeap (s1.heap.push (seqObj "list" vs.toArray 0)) s1.heap.objs.size vs ((arrOf st').map (·.2)) }
  have e2 : ({ s1 with heap := sortedHeap (s1.heap.push (seqObj "list" vs.toArray 0)) s1.heap.objs.size vs ((arrOf st').map (·.2)) } : Shared) = { s with heap := sortedHeap (s1.heap.push (seqObj "list" vs.toArray 0)) s1.heap.objs.size vs ((arrOf st').map (·.2)), gens := s1.gens, drawn := s1.drawn, toks := s1.toks } := by
    rw [← e]
  rw [e2]
  exact ⟨.ref _, _, J, rfl, q ys _ (y2.trans pk) y3 hpn⟩
end
end Wn

/-! Data in tuples, kept heaps, dicts of data; the program's things as plain types. -/
namespace Wn
open PySem PySem.Spec PyProof.Rows L2
/-! ### kept: tuples; tuples and dicts -/
def Ts (H H' : Hp) : Prop := ∀ b xs, H b = some (.tup xs) → H' b = some (.tup xs)
structure Kp (H H' : Hp) : Prop where
  t : Ts H H'
  d : ∀ b kvs, H b = some (.dK kvs) → H' b = some (.dK kvs)
/-- all but p is kept -/
def But (p : Addr) (H H' : Hp) : Prop := ∀ b o, b ≠ p → H b = some o → H' b = some o
section
variable {H H' H'' : Hp} {p a : Addr} {o o' : HO}
theorem Ts.refl (H : Hp) : Ts H H := fun _ _ e => e
theorem Ts.trans (h : Ts H H') (g : Ts H' H'') : Ts H H'' := fun b xs e => g b xs (h b xs e)
theorem Kp.refl (H : Hp) : Kp H H := ⟨Ts.refl H, fun _ _ e => e⟩
theorem Kp.trans (h : Kp H H') (g : Kp H' H'') : Kp H H'' := ⟨h.t.trans g.t, fun b k e => g.d b k (h.d b k e)⟩
theorem But.refl (p : Addr) (H : Hp) : But p H H := fun _ _ _ e => e
theorem But.trans (h : But p H H') (g : But p H' H'') : But p H H'' := fun b o n e => g b o n (h b o n e)
theorem But.of (h : L2.Same H H') : But p H H' := fun b o _ e => h b o e
theorem But.upd (p : Addr) (H : Hp) (o : HO) : But p H (upd H p o) := fun b o' n e => by rw [upd_ne n]; exact e
theorem sameUpd (n : H p = none) : L2.Same H (upd H p o) := fun b o' e => by rw [upd_ne (ne_of_none e n)]; exact e
theorem kpSame (h : L2.Same H H') : Kp H H' := ⟨fun b xs e => h b _ e, fun b k e => h b _ e⟩
theorem But.kp (h : But p H H') (e : H p = some o) (nt : ∀ xs, o ≠ .tup xs) (nd : ∀ k, o ≠ .dK k) : Kp H H' :=
  ⟨fun b xs q => h b _ (fun z => by subst z; rw [e] at q; cases q; exact nt _ rfl) q, fun b xs q => h b _ (fun z => by subst z; rw [e] at q; cases q; exact nd _ rfl) q⟩
theorem But.kpL {xs : List V} (h : But p H H') (e : H p = some (.lst xs)) : Kp H H' := h.kp e (fun _ z => nomatch z) (fun _ z => nomatch z)
theorem But.kpI {C dx : Addr} {fs : List (Str × V)} (h : But p H H') (e : H p = some (.ins C dx fs)) : Kp H H' := h.kp e (fun _ z => nomatch z) (fun _ z => nomatch z)
theorem But.kpN (h : But p H H') (e : H p = none) : Kp H H' :=
  ⟨fun b xs q => h b _ (fun z => by subst z; rw [e] at q; cases q) q, fun b xs q => h b _ (fun z => by subst z; rw [e] at q; cases q) q⟩
theorem But.same (h : But p H H') (e : H p = none) : L2.Same H H' := fun b o q => h b o (fun z => by subst z; rw [e] at q; cases q) q
theorem But.lst {b : Addr} {xs : List V} (h : But p H H') (e : H p = some o) (n : o ≠ .lst xs) (q : H b = some (.lst xs)) : H' b = some (.lst xs) := h b _ (fun z => by subst z; rw [e] at q; cases q; exact n rfl) q
theorem tsLock {d : Addr} {kvs : List (Key × V)} (e : H d = some (.dK kvs)) : Ts H (upd H d o) := fun b xs q => by
  rw [upd_ne (fun z => by subst z; rw [e] at q; cases q)]
  exact q
end
/-! ### data in tuples -/
def TpK (K : PySem.W.Frag) (H : Hp) (a : Addr) (xs : List V) : Prop := H a = some (.tup xs) ∨
    ∃ (o : Obj) (its : Array Value) (n : Nat), K.lookup a = some o ∧ o.cls = .type "tuple" ∧ o.data = .seq its n ∧ its.size ≤ sizeLine ∧ Vals xs its.toList
section
variable {K : PySem.W.Frag} {H H' : Hp} {a : Addr} {xs : List V}
theorem TpK.sq (h : TpK K H a xs) : SqT K H a xs := h.elim (fun e => .inl (.inl e)) .inr
theorem TpK.ts (k : Ts H H') (h : TpK K H a xs) : TpK K H' a xs := h.elim (fun e => .inl (k _ _ e)) .inr
theorem TpK.of (h : H a = some (.tup xs)) : TpK K H a xs := .inl h
end
mutual
inductive Dt (K : PySem.W.Frag) (H : Hp) : V → PyData → Prop
  | non : Dt K H .non .none
  | bl (b : Bool) : Dt K H (.bl b) (.bool b)
  | int (i : Int) : Dt K H (.int i) (.int i)
  | str (x : Str) : Dt K H (.str x) (.str x)
  | tup {a : Addr} {xs : List V} {ds : List PyData} : TpK K H a xs → DtA K H xs ds → Dt K H (.ref a) (.tuple ds)
inductive DtA (K : PySem.W.Frag) (H : Hp) : List V → List PyData → Prop
  | nil : DtA K H [] []
  | cons {v : V} {vs : List V} {d : PyData} {ds : List PyData} : Dt K H v d → DtA K H vs ds → DtA K H (v :: vs) (d :: ds)
end
section
variable {K : PySem.W.Frag} {H H' : Hp}
mutual
theorem Dt.ts (k : Ts H H') : ∀ {v : V} {d : PyData}, Dt K H v d → Dt K H' v d
  | _, _, .non => .non
  | _, _, .bl b => .bl b
  | _, _, .int i => .int i
  | _, _, .str x => .str x
  | _, _, .tup h g => .tup (h.ts k) (DtA.ts k g)
theorem DtA.ts (k : Ts H H') : ∀ {vs : List V} {ds : List PyData}, DtA K H vs ds → DtA K H' vs ds
  | _, _, .nil => .nil
  | _, _, .cons h g => .cons (Dt.ts k h) (DtA.ts k g)
end
mutual
theorem Dt.dp : ∀ {v : V} {d : PyData}, Dt K H v d → Dp K H v d
  | _, _, .non => .non
  | _, _, .bl b => .bl b
  | _, _, .int i => .int i
  | _, _, .str x => .str x
  | _, _, .tup h g => .tup h.sq (DtA.dp g)
theorem DtA.dp : ∀ {vs : List V} {ds : List PyData}, DtA K H vs ds → DpAll K H vs ds
  | _, _, .nil => .nil
  | _, _, .cons h g => .cons (Dt.dp h) (DtA.dp g)
end
theorem DtA.length : ∀ {vs : List V} {ds : List PyData}, DtA K H vs ds → vs.length = ds.length
  | _, _, .nil => rfl
  | _, _, .cons _ g => by rw [List.length_cons, List.length_cons, DtA.length g]
theorem DtA.get {i : Nat} {d : PyData} : ∀ {vs : List V} {ds : List PyData} (j : Nat), DtA K H vs ds → ds[j]? = some d → ∃ v, vs[j]? = some v ∧ Dt K H v d
  | _, _, _, .nil, e => by simp at e
  | _, _, 0, .cons (v := v) h _, e => by
    rw [List.getElem?_cons_zero] at e
    cases e
    exact ⟨v, rfl, h⟩
  | _, _, j + 1, .cons _ g, e => by
    rw [List.getElem?_cons_succ] at e
    obtain ⟨v, h1, h2⟩ := DtA.get j (i := i) g e
    exact ⟨v, by rw [List.getElem?_cons_succ]; exact h1, h2⟩
theorem DtA.snoc {v : V} {d : PyData} (h : Dt K H v d) : ∀ {vs : List V} {ds : List PyData}, DtA K H vs ds → DtA K H (vs ++ [v]) (ds ++ [d])
  | _, _, .nil => .cons h .nil
  | _, _, .cons g k => .cons g (DtA.snoc h k)
theorem DtA.take : ∀ {vs : List V} {ds : List PyData} (n : Nat), DtA K H vs ds → DtA K H (vs.take n) (ds.take n)
  | _, _, 0, _ => .nil
  | _, _, n + 1, .nil => .nil
  | _, _, n + 1, .cons h g => .cons h (DtA.take n g)
end
/-! ### dicts of data, their keys texts -/
section
variable {α β : Type}
def lkA (W : List (Str × α)) (k : Str) : Option α := (W.find? fun p => decide (p.1 = k)).map (·.2)
def putA (W : List (Str × α)) (k : Str) (d : α) : List (Str × α) := if (W.any fun p => decide (p.1 = k)) = true then W.map (fun p => if p.1 = k then (p.1, d) else p) else W ++ [(k, d)]
def delA (W : List (Str × α)) (k : Str) : List (Str × α) := W.filter fun p => decide (p.1 ≠ k)
def mapA (f : α → β) (W : List (Str × α)) : List (Str × β) := W.map fun p => (p.1, f p.2)
theorem lkA_map (f : α → β) (k : Str) : ∀ W : List (Str × α), lkA (mapA f W) k = (lkA W k).map f
  | [] => rfl
  | p :: W => by
    have e := lkA_map f k W
    by_cases h : p.1 = k
    · simp [lkA, mapA, h]
    · simp only [lkA, mapA, List.map_cons, List.find?_cons, h, decide_false] at e ⊢
      exact e
theorem putA_map (f : α → β) (k : Str) (d : α) (W : List (Str × α)) : mapA f (putA W k d) = putA (mapA f W) k (f d) := by
  unfold putA mapA
  rw [List.any_map]
  have e : ((fun p : Str × β => decide (p.1 = k)) ∘ fun p : Str × α => (p.1, f p.2)) = fun p => decide (p.1 = k) := rfl
  rw [e]
  split
  · rw [List.map_map, List.map_map]
    refine List.map_congr_left fun p _ => ?_
    simp only [Function.comp]
    split <;> rfl
  · rw [List.map_append]
    rfl
theorem delA_map (f : α → β) (k : Str) (W : List (Str × α)) : mapA f (delA W k) = delA (mapA f W) k := by
  unfold delA mapA
  rw [List.filter_map]
  rfl
theorem keys_map (f : α → β) (W : List (Str × α)) : (mapA f W).map (·.1) = W.map (·.1) := by
  unfold mapA
  rw [List.map_map]
  rfl
theorem lkA_mem {W : List (Str × α)} {k : Str} {d : α} (h : lkA W k = some d) : (k, d) ∈ W := by
  unfold lkA at h
  cases e : W.find? fun p => decide (p.1 = k) with
  | none => rw [e] at h; cases h
  | some p =>
    rw [e] at h
    cases h
    have m := List.mem_of_find?_eq_some e
    have q : p.1 = k := of_decide_eq_true (List.find?_some (p := fun p : Str × α => decide (p.1 = k)) e)
    rw [← q]
    exact m
theorem lkA_none {W : List (Str × α)} {k : Str} : lkA W k = none ↔ k ∉ W.map (·.1) := by
  unfold lkA
  rw [Option.map_eq_none_iff, List.find?_eq_none]
  constructor
  · intro h m
    obtain ⟨q, hq, e⟩ := List.mem_map.mp m
    exact h q hq (decide_eq_true e)
  · intro h q hq e
    exact h (List.mem_map.mpr ⟨q, hq, of_decide_eq_true e⟩)
theorem lkA_isSome {W : List (Str × α)} {k : Str} : (lkA W k).isSome = true ↔ k ∈ W.map (·.1) := by
  cases e : lkA W k with
  | none =>
    have z := lkA_none.mp e
    simp [z]
  | some d =>
    have z := lkA_mem e
    simp only [Option.isSome_some, true_iff]
    exact List.mem_map.mpr ⟨_, z, rfl⟩
theorem lkA_of_mem {W : List (Str × α)} (nd : (W.map (·.1)).Nodup) {k : Str} {d : α} (h : (k, d) ∈ W) : lkA W k = some d := by
  induction W with
  | nil => cases h
  | cons p W ih =>
    rw [List.map_cons, List.nodup_cons] at nd
    rcases List.mem_cons.mp h with e | e
    · subst e
      simp [lkA]
    · have n : p.1 ≠ k := fun z => nd.1 (z ▸ List.mem_map.mpr ⟨_, e, rfl⟩)
      have q := ih nd.2 e
      simp only [lkA, List.find?_cons, n, decide_false] at q ⊢
      exact q
theorem putA_mem {W : List (Str × α)} {k : Str} {d : α} {p : Str × α} (h : p ∈ putA W k d) : p = (k, d) ∨ (p ∈ W ∧ p.1 ≠ k) := by
  unfold putA at h
  split at h
  · obtain ⟨q, m, e⟩ := List.mem_map.mp h
    by_cases c : q.1 = k
    · rw [if_pos c] at e
      left
      rw [← e, c]
    · rw [if_neg c] at e
      subst e
      exact .inr ⟨m, c⟩
  · rename_i z
    rcases List.mem_append.mp h with m | m
    · refine .inr ⟨m, fun c => z ?_⟩
      exact List.any_eq_true.mpr ⟨p, m, decide_eq_true c⟩
    · exact .inl (List.mem_singleton.mp m)
theorem putA_keys_old {W : List (Str × α)} {k : Str} {d : α} (h : k ∈ W.map (·.1)) : (putA W k d).map (·.1) = W.map (·.1) := by
  unfold putA
  obtain ⟨q, m, e⟩ := List.mem_map.mp h
  rw [if_pos (List.any_eq_true.mpr ⟨q, m, decide_eq_true e⟩), List.map_map]
  refine List.map_congr_left fun p _ => ?_
  simp only [Function.comp]
  split <;> rfl
theorem putA_new {W : List (Str × α)} {k : Str} {d : α} (h : k ∉ W.map (·.1)) : putA W k d = W ++ [(k, d)] := by
  unfold putA
  rw [if_neg]
  intro z
  obtain ⟨q, m, e⟩ := List.any_eq_true.mp z
  exact h (List.mem_map.mpr ⟨q, m, of_decide_eq_true e⟩)
theorem putA_length_le (W : List (Str × α)) (k : Str) (d : α) : (putA W k d).length ≤ W.length + 1 := by
  unfold putA
  split
  · rw [List.length_map]; omega
  · rw [List.length_append]; exact Nat.le_refl _
theorem delA_length_le (W : List (Str × α)) (k : Str) : (delA W k).length ≤ W.length := List.length_filter_le _ _
theorem delA_mem {W : List (Str × α)} {k : Str} {p : Str × α} : p ∈ delA W k ↔ p ∈ W ∧ p.1 ≠ k := by
  unfold delA
  rw [List.mem_filter]
  simp
theorem putA_nodup {W : List (Str × α)} {k : Str} {d : α} (h : (W.map (·.1)).Nodup) : ((putA W k d).map (·.1)).Nodup := by
  by_cases c : k ∈ W.map (·.1)
  · rw [putA_keys_old c]; exact h
  · rw [putA_new c, List.map_append]
    exact List.nodup_append.mpr ⟨h, by simp, fun a ha b hb e => by
      simp only [List.map_cons, List.map_nil, List.mem_singleton] at hb
      exact c (hb ▸ e ▸ ha)⟩
theorem delA_nodup {W : List (Str × α)} {k : Str} (h : (W.map (·.1)).Nodup) : ((delA W k).map (·.1)).Nodup :=
  List.Nodup.sublist (List.Sublist.map _ List.filter_sublist) h
theorem putA_lk {W : List (Str × α)} {k j : Str} {d : α} : lkA (putA W k d) j = if j = k then some d else lkA W j := by
  unfold putA
  split
  · rename_i z
    induction W with
    | nil => simp at z
    | cons p W ih =>
      by_cases c : p.1 = k
      · by_cases cj : j = k
        · subst cj
          simp [lkA, c]
        · have n : ¬ k = j := fun z => cj z.symm
          have n2 : ¬ p.1 = j := fun z => cj (z ▸ c)
          by_cases a : (W.any fun p => decide (p.1 = k)) = true
          · have e := ih a
            rw [if_neg cj] at e
            rw [if_neg cj]
            simp only [lkA, List.map_cons, c, if_true, List.find?_cons, n, decide_false] at e ⊢
            exact e
          · rw [if_neg cj]
            have e : (W.map fun p => if p.1 = k then (p.1, d) else p) = W := by
              refine (List.map_congr_left fun q m => ?_).trans (List.map_id W)
              rw [if_neg fun z => a (List.any_eq_true.mpr ⟨q, m, decide_eq_true z⟩)]
              rfl
            simp only [lkA, List.map_cons, c, if_true, List.find?_cons, n, decide_false, e]
      · have a : (W.any fun p => decide (p.1 = k)) = true := by simpa [c] using z
        have e := ih a
        by_cases cj : p.1 = j
        · have n : ¬ j = k := fun z => c (cj.trans z)
          simp [lkA, c, cj, n]
        · simp only [lkA, List.map_cons, c, if_false, List.find?_cons, cj, decide_false] at e ⊢
          exact e
  · rename_i z
    by_cases cj : j = k
    · subst cj
      have n : W.find? (fun p => decide (p.1 = j)) = none := by
        rw [List.find?_eq_none]
        intro q m e
        exact z (List.any_eq_true.mpr ⟨q, m, e⟩)
      simp [lkA, List.find?_append, n]
    · have n : ¬ k = j := fun z => cj z.symm
      simp [lkA, List.find?_append, cj, n]
theorem delA_lk {W : List (Str × α)} {k j : Str} : lkA (delA W k) j = if j = k then none else lkA W j := by
  unfold delA lkA
  rw [List.find?_filter]
  by_cases c : j = k
  · rw [if_pos c]
    subst c
    have e : (W.find? fun a => decide (decide (a.1 ≠ j) = true ∧ decide (a.1 = j) = true)) = none := by
      rw [List.find?_eq_none]
      intro q _ z
      simp at z
    rw [e]
    rfl
  · rw [if_neg c]
    congr 2
    funext a
    by_cases d : a.1 = j
    · have n : ¬ a.1 = k := fun z => c (d ▸ z)
      simp [d, c]
    · simp [d]
end
inductive Ents (K : PySem.W.Frag) (H : Hp) : List (Key × V) → List (Str × PyData) → Prop
  | nil : Ents K H [] []
  | cons {k : Str} {v : V} {d : PyData} {kvs : List (Key × V)} {W : List (Str × PyData)} : Dt K H v d → Ents K H kvs W → Ents K H ((.inr k, v) :: kvs) ((k, d) :: W)
section
variable {K : PySem.W.Frag} {H H' : Hp}
theorem Ents.ts (k : Ts H H') : ∀ {kvs : List (Key × V)} {W : List (Str × PyData)}, Ents K H kvs W → Ents K H' kvs W
  | _, _, .nil => .nil
  | _, _, .cons h g => .cons (h.ts k) (Ents.ts k g)
theorem Ents.length : ∀ {kvs : List (Key × V)} {W : List (Str × PyData)}, Ents K H kvs W → kvs.length = W.length
  | _, _, .nil => rfl
  | _, _, .cons _ g => by rw [List.length_cons, List.length_cons, Ents.length g]
theorem Ents.keys : ∀ {kvs : List (Key × V)} {W : List (Str × PyData)}, Ents K H kvs W → kvs.map (·.1) = (W.map (·.1)).map Sum.inr
  | _, _, .nil => rfl
  | _, _, .cons _ g => by
    rw [List.map_cons, List.map_cons, List.map_cons, Ents.keys g]
theorem Ents.get (k : Str) : ∀ {kvs : List (Key × V)} {W : List (Str × PyData)}, Ents K H kvs W →
    (valV kvs (Sum.inr k : Key) = none ∧ lkA W k = none) ∨ ∃ v d, valV kvs (Sum.inr k : Key) = some v ∧ lkA W k = some d ∧ Dt K H v d
  | _, _, .nil => .inl ⟨rfl, rfl⟩
  | _, _, .cons (k := j) (v := v) (d := d) h g => by
    by_cases e : j = k
    · refine .inr ⟨v, d, ?_, ?_, h⟩
      · simp [valV, e]
      · simp [lkA, e]
    · have n : ¬ (Sum.inr j : Key) = Sum.inr k := fun z => e (Sum.inr.inj z)
      have q := Ents.get k g
      simp only [valV, lkA, List.find?_cons, e, n, decide_false] at q ⊢
      exact q
theorem Ents.any (k : Str) : ∀ {kvs : List (Key × V)} {W : List (Str × PyData)}, Ents K H kvs W → (kvs.any fun kv => decide (kv.1 = (Sum.inr k : Key))) = (W.any fun p => decide (p.1 = k))
  | _, _, .nil => rfl
  | _, _, .cons (k := j) h g => by
    rw [List.any_cons, List.any_cons, Ents.any k g]
    congr 1
    by_cases e : j = k
    · simp [e]
    · have n : ¬ (Sum.inr j : Key) = Sum.inr k := fun z => e (Sum.inr.inj z)
      simp [e, n]
theorem Ents.app {kvs2 : List (Key × V)} {W2 : List (Str × PyData)} (g2 : Ents K H kvs2 W2) : ∀ {kvs : List (Key × V)} {W : List (Str × PyData)}, Ents K H kvs W → Ents K H (kvs ++ kvs2) (W ++ W2)
  | _, _, .nil => g2
  | _, _, .cons h g => .cons h (Ents.app g2 g)
theorem Ents.rep {k : Str} {v : V} {d : PyData} (hv : Dt K H v d) : ∀ {kvs : List (Key × V)} {W : List (Str × PyData)}, Ents K H kvs W →
    Ents K H (kvs.map fun kv => if kv.1 = (Sum.inr k : Key) then (kv.1, v) else kv) (W.map fun p => if p.1 = k then (p.1, d) else p)
  | _, _, .nil => .nil
  | _, _, .cons (k := j) h g => by
    rw [List.map_cons, List.map_cons]
    by_cases e : j = k
    · subst e
      rw [if_pos rfl, if_pos rfl]
      exact .cons hv (Ents.rep hv g)
    · have n : ¬ (Sum.inr j : Key) = Sum.inr k := fun z => e (Sum.inr.inj z)
      rw [if_neg n, if_neg e]
      exact .cons h (Ents.rep hv g)
theorem Ents.put {k : Str} {v : V} {d : PyData} (hv : Dt K H v d) {kvs : List (Key × V)} {W : List (Str × PyData)} (g : Ents K H kvs W) : Ents K H (putK kvs (Sum.inr k) v) (putA W k d) := by
  unfold putK putA
  rw [g.any k]
  split
  · exact g.rep hv
  · exact Ents.app (.cons hv .nil) g
theorem Ents.del {k : Str} : ∀ {kvs : List (Key × V)} {W : List (Str × PyData)}, Ents K H kvs W → Ents K H (dropK kvs (Sum.inr k)) (delA W k)
  | _, _, .nil => .nil
  | _, _, .cons (k := j) h g => by
    unfold dropK delA
    rw [List.filter_cons, List.filter_cons]
    by_cases e : j = k
    · rw [if_neg (by simp [e]), if_neg (by simp [e])]
      exact Ents.del g
    · have n : ¬ (Sum.inr j : Key) = Sum.inr k := fun z => e (Sum.inr.inj z)
      rw [if_pos (by simp [n]), if_pos (by simp [e])]
      exact .cons h (Ents.del g)
theorem Ents.cut {kvs : List (Key × V)} {W : List (Str × PyData)} (g : Ents K H kvs W) : ∃ ks : List (Str × V), kvs = ks.map (fun p => (Sum.inr p.1, p.2)) ∧ ks.map (·.1) = W.map (·.1) := by
  induction g with
  | nil => exact ⟨[], rfl, rfl⟩
  | cons h g ih =>
    obtain ⟨ks, e1, e2⟩ := ih
    exact ⟨(_, _) :: ks, by rw [List.map_cons, ← e1], by rw [List.map_cons, List.map_cons, e2]⟩
/-- a dict of data -/
def Web (K : PySem.W.Frag) (H : Hp) (a : Addr) (W : List (Str × PyData)) : Prop := ∃ kvs, H a = some (.dK kvs) ∧ Ents K H kvs W
theorem Web.kp {a : Addr} {W : List (Str × PyData)} (k : Kp H H') (h : Web K H a W) : Web K H' a W := by
  obtain ⟨kvs, e, g⟩ := h
  exact ⟨kvs, k.d _ _ e, g.ts k.t⟩
end
/-! ### the program's things -/
inductive Pl where
  | make (path text : Str) (own numbered : Bool)
  | put (path text : Str) (count : Option Nat)
  | drop (path : Str) (count : Option Nat)
  | see (path : Str) (count : Option Nat)
inductive De where
  | plain (p : Pl)
  | all (ps : List Pl)
  | opn (n : Nat)
  | close
  | bring
inductive En where
  | ask (who : Str) (stamp : Nat) (d : De)
  | fin (who : Str)
structure Nd where
  text : Str
  count : Nat
  made : Nat
  owner : Option Str
def natD (n : Nat) : PyData := .int n
def cntD : Option Nat → PyData
  | none => .none
  | some n => .int n
def ownD : Option Str → PyData
  | none => .none
  | some x => .str x
def Pl.d : Pl → PyData
  | .make p t o n => .tuple [.str "make", .str p, .str t, .bool o, .bool n]
  | .put p t c => .tuple [.str "put", .str p, .str t, cntD c]
  | .drop p c => .tuple [.str "drop", .str p, cntD c]
  | .see p c => .tuple [.str "see", .str p, cntD c]
def De.d : De → PyData
  | .plain p => p.d
  | .all ps => .tuple [.str "all", .tuple (ps.map Pl.d)]
  | .opn n => .tuple [.str "open", .int n]
  | .close => .tuple [.str "close"]
  | .bring => .tuple [.str "bring"]
def En.d : En → PyData
  | .ask w s d => .tuple [.str "ask", .str w, .int s, d.d]
  | .fin w => .tuple [.str "end", .str w]
def Nd.d (n : Nd) : PyData := .tuple [.str n.text, .int n.count, .int n.made, ownD n.owner]
abbrev Place := Nat × Nat
def plD (p : Place) : PyData := .tuple [.int p.1, .int p.2]
abbrev Thing := Place × En
def thD (t : Thing) : PyData := .tuple [plD t.1, t.2.d]
end Wn

/-! What is known of the top; a def that keeps a promise. -/
namespace Wn
open PySem PySem.Spec PyProof.Rows L2
structure Bag (w : World) (K : PySem.W.Frag) (mg : Str → Option Value) (base : Heap) : Prop where
  X : K.In base
  G : base.Ns mainGlobals mg
  S : Says w K
/-- the def of this name keeps the promise, at this level -/
def Kept (P : Program) (w : World) (K : PySem.W.Frag) (mg : Str → Option Value) (base : Heap) (x : Str) (k : Nat) (ps : List Str) (sp : Sp) : Prop :=
  ∃ f fd, mg x = some (.ref f) ∧ PySem.W.keepIn K (.ref f) = true ∧ Binds K fd ps [] ∧ FnOk P w K mg base CX0 k f fd ps sp
/-- a method of Words -/
def KeptM (P : Program) (w : World) (K : PySem.W.Frag) (mg : Str → Option Value) (base : Heap) (m : Str) (k : Nat) (ps : List Str) (sp : Sp) : Prop :=
  ∃ f fd, Meth K (He.ga K "Words") m f ∧ Binds K fd ps [] ∧ FnOk P w K mg base CX0 k f fd ps sp
section
variable {P : Program} {w : World} {K : PySem.W.Frag} {mg : Str → Option Value} {base : Heap}
theorem Bag.c (B : Bag w K mg base) : He.SaysD fa fn K := B.S.1.d
theorem tupK {x : Str} {vs : List He.Dv} (h : He.tupB K x vs = true) (H : Hp) : TpK K H (He.ga K x) (vs.map (He.Dv.v K)) := by
  rcases He.tupB_ok h (fun _ => none) with z | z
  · rcases z with z | ⟨_, z⟩ <;> cases z
  · exact .inr z
theorem Bag.nowhere (B : Bag w K mg base) (H : Hp) : TpK K H (He.ga K "NOWHERE") [.int 0, .int 0] := tupK (Bool.and_eq_true_iff.mp B.S.2).1 H
theorem Bag.okT (B : Bag w K mg base) (H : Hp) : TpK K H (He.ga K "OK") [.str "ok", .non] := tupK (Bool.and_eq_true_iff.mp (Bool.and_eq_true_iff.mp B.S.2).2).1 H
theorem Bag.never (B : Bag w K mg base) (H : Hp) : TpK K H (He.ga K "NEVER") [.non, .int 0, .non, .ref (He.ga K "NOWHERE")] :=
  tupK (Bool.and_eq_true_iff.mp (Bool.and_eq_true_iff.mp (Bool.and_eq_true_iff.mp B.S.2).2).2).1 H
theorem Bag.long (B : Bag w K mg base) : He.valsB K (He.ga K "LONG") [("make", .int 5), ("put", .int 4), ("drop", .int 3), ("see", .int 3)] = true :=
  (Bool.and_eq_true_iff.mp (Bool.and_eq_true_iff.mp (Bool.and_eq_true_iff.mp (Bool.and_eq_true_iff.mp B.S.2).2).2).2).1
theorem Bag.truths (B : Bag w K mg base) : He.valsB K (He.ga K "TRUTHS") [("yes", .bl true), ("no", .bl false)] = true :=
  (Bool.and_eq_true_iff.mp (Bool.and_eq_true_iff.mp (Bool.and_eq_true_iff.mp (Bool.and_eq_true_iff.mp B.S.2).2).2).2).2
end
/-! ### promises by the number of arguments -/
def sp0 (f : Hp → VK → Prop) : Sp := fun vs H Q _ => vs = [] ∧ f H Q
def sp1 (f : V → Hp → VK → Prop) : Sp := fun vs H Q _ => ∃ a, vs = [a] ∧ f a H Q
def sp2 (f : V → V → Hp → VK → Prop) : Sp := fun vs H Q _ => ∃ a b, vs = [a, b] ∧ f a b H Q
def sp3 (f : V → V → V → Hp → VK → Prop) : Sp := fun vs H Q _ => ∃ a b c, vs = [a, b, c] ∧ f a b c H Q
def sp4 (f : V → V → V → V → Hp → VK → Prop) : Sp := fun vs H Q _ => ∃ a b c d, vs = [a, b, c, d] ∧ f a b c d H Q
def sp6 (f : V → V → V → V → V → V → Hp → VK → Prop) : Sp := fun vs H Q _ => ∃ a b c d e g, vs = [a, b, c, d, e, g] ∧ f a b c d e g H Q
section
variable {vs : List V} {H : Hp} {Q : VK} {E : XK}
theorem len0 {f} (h : sp0 f vs H Q E) {n : Nat} (hn : n = 0 := by rfl) : vs.length = n := by obtain ⟨rfl, _⟩ := h; rw [hn]; rfl
theorem len1 {f} (h : sp1 f vs H Q E) {n : Nat} (hn : n = 1 := by rfl) : vs.length = n := by obtain ⟨_, rfl, _⟩ := h; rw [hn]; rfl
theorem len2 {f} (h : sp2 f vs H Q E) {n : Nat} (hn : n = 2 := by rfl) : vs.length = n := by obtain ⟨_, _, rfl, _⟩ := h; rw [hn]; rfl
theorem len3 {f} (h : sp3 f vs H Q E) {n : Nat} (hn : n = 3 := by rfl) : vs.length = n := by obtain ⟨_, _, _, rfl, _⟩ := h; rw [hn]; rfl
theorem len4 {f} (h : sp4 f vs H Q E) {n : Nat} (hn : n = 4 := by rfl) : vs.length = n := by obtain ⟨_, _, _, _, rfl, _⟩ := h; rw [hn]; rfl
theorem len6 {f} (h : sp6 f vs H Q E) {n : Nat} (hn : n = 6 := by rfl) : vs.length = n := by obtain ⟨_, _, _, _, _, _, rfl, _⟩ := h; rw [hn]; rfl
end
/-- a def with keyword-only parameters that are given by name -/
def KeptK (P : Program) (w : World) (K : PySem.W.Frag) (mg : Str → Option Value) (base : Heap) (x : Str) (k : Nat) (ps ks : List Str) (sp : Sp) : Prop :=
  ∃ f fd, mg x = some (.ref f) ∧ PySem.W.keepIn K (.ref f) = true ∧ KBn K fd ps 2 ks (fun us ws => us ++ ws) (fun us ws => us ++ ws) ∧ FnOk P w K mg base CX0 k f fd ps sp
theorem kbn_of {K : PySem.W.Frag} {x qual : Str} {params : Arguments} {body : List Stmt} {scope : Scope} {f : Addr} {fd : FuncData} {ps ks : List Str} {n : Nat} (F : FunD K x qual params body scope [] [] f fd)
    (h : ∀ (kV doc pm : Value) (an : Option Addr) (cdv ct : Value) (us ws : List Value), us.length = n → ws.length = ks.length → bindArgs (PySem.W.fnOf x qual params body scope .none kV doc pm an cdv ct) ⟨us, ks.zip ws⟩ = pure (ps.zip (us ++ ws))) :
    KBn K fd ps n ks (fun us ws => us ++ ws) (fun us ws => us ++ ws) := by
  obtain ⟨oc, od, dV, kV, doc, pm, an, cdv, ct, osl, rfl, lk, hcd, hD, hK⟩ := F.ex
  rcases hD with ⟨_, rfl⟩ | ⟨e, _⟩
  · exact ⟨fun s us ws _ h1 h2 => .of_eq (h kV doc pm an cdv ct us ws h1 h2), fun r1 r2 => r1.append r2⟩
  · exact absurd rfl e
theorem hu80_of {k : Nat} {A : Around} (r : Room k A) : A.units + 80 < cLine := by have := r.un; omega
theorem hu64_of {k : Nat} {A : Around} (r : Room k A) : A.units + 64 < cLine := by have := r.un; omega
theorem hu65_of {k : Nat} {A : Around} (r : Room k A) : A.units + 65 < cLine := by have := r.un; omega
theorem hu66_of {k : Nat} {A : Around} (r : Room k A) : A.units + 66 < cLine := by have := r.un; omega
theorem hu0_of {k : Nat} {A : Around} (r : Room k A) : A.units < cLine := by have := r.un; omega
/-! ### isinstance, by what the value is -/
theorem tyD {K : PySem.W.Frag} {H : Hp} {a : Addr} {xs : List V} (h : TpK K H a xs) : TyX K H (.ref a) (.type "tuple") := by
  rcases h with h | ⟨o, its, n, e, c, _⟩
  · exact .base (.tup h)
  · exact .kTuple e c
/-! ### all([..]) where all are true -/
def AllP (H1 : Hp) (D : Addr) (i : Nat) (H : Hp) : Prop := L2.Same H1 H ∧ H D = some (.lst (List.replicate i (.bl true)))
section
variable {K : PySem.W.Frag} {H H1 H2 : Hp} {D : Addr} {i n : Nat} {Q : VK}
theorem AllP.start (n : H1 D = none) : AllP H1 D 0 (upd H1 D (.lst [])) := ⟨sameUpd n, upd_same⟩
theorem AllP.step {b : Bool} (p : AllP H1 D i H) (n : H1 D = none) (s : L2.Same H H2) (e : b = true) (hi : i < 100000) : ∃ acc, H2 D = some (.lst acc) ∧ acc.length < sizeLine ∧ AllP H1 D (i + 1) (upd H2 D (.lst (acc ++ [.bl b]))) := by
  subst e
  refine ⟨_, s _ _ p.2, by rw [List.length_replicate]; exact Nat.lt_trans hi (by decide), fun b o e => ?_, ?_⟩
  · rw [upd_ne (ne_of_none e n)]
    exact s _ _ (p.1 _ _ e)
  · rw [upd_same, ← List.replicate_succ']
theorem AllP.fin (p : AllP H1 D n H) (q : ∀ H', L2.Same H1 H' → Q (.bl true) H') : rAll K [.ref D] H Q := by
  refine ⟨D, List.replicate n true, rfl, SqL.of ?_, ?_⟩
  · rw [p.2, List.map_replicate]
  · have e : (List.replicate n true).all id = true := by
      rw [List.all_eq_true]
      intro x hx
      rw [(List.mem_replicate.mp hx).2]
      rfl
    rw [e]
    exact q H p.1
end
/-! ### steps of the readings -/
theorem iteTc {c : Bool} {A B : Prop} (e : c = true) (h : A) : if c = true then A else B := by rw [if_pos e]; exact h
theorem iteFc {c : Bool} {A B : Prop} (e : c = false) (h : B) : if c = true then A else B := by rw [if_neg (by rw [e]; exact Bool.false_ne_true)]; exact h
theorem iteC {c : Bool} {A B : Prop} (h : c = true → A) (g : c = false → B) : if c = true then A else B := by
  cases c with
  | true => exact iteTc rfl (h rfl)
  | false => exact iteFc rfl (g rfl)
section
variable {K : PySem.W.Frag} {H H' H1 : Hp} {p q a : Addr} {o u : HO} {v : V} {d : PyData} {xs : List V} {ds : List PyData}
theorem sameTr (s2 : L2.Same H1 H') (s1 : L2.Same H H1) : L2.Same H H' := L2.Same.trans s1 s2
theorem sameU (n : H1 p = none) (s : L2.Same H H1) : L2.Same H (upd H1 p o) := L2.Same.trans s (sameUpd n)
theorem getS (s : L2.Same H H') (h : H p = some o) : H' p = some o := s _ _ h
theorem getU (n : H q = none) (h : H p = some o) : upd H q u p = some o := sameUpd n _ _ h
theorem getK (k : Kp H H') {kvs : List (Key × V)} (h : H p = some (.dK kvs)) : H' p = some (.dK kvs) := k.d _ _ h
theorem dtS (s : L2.Same H H') (h : Dt K H v d) : Dt K H' v d := h.ts (kpSame s).t
theorem dtU (n : H p = none) (h : Dt K H v d) : Dt K (upd H p o) v d := h.ts (kpSame (sameUpd n)).t
theorem dtK (k : Kp H H') (h : Dt K H v d) : Dt K H' v d := h.ts k.t
theorem dtT (k : Ts H H') (h : Dt K H v d) : Dt K H' v d := h.ts k
theorem daS (s : L2.Same H H') (h : DtA K H xs ds) : DtA K H' xs ds := h.ts (kpSame s).t
theorem daU (n : H p = none) (h : DtA K H xs ds) : DtA K (upd H p o) xs ds := h.ts (kpSame (sameUpd n)).t
theorem daK (k : Kp H H') (h : DtA K H xs ds) : DtA K H' xs ds := h.ts k.t
theorem daT (k : Ts H H') (h : DtA K H xs ds) : DtA K H' xs ds := h.ts k
theorem tpS (s : L2.Same H H') (h : TpK K H a xs) : TpK K H' a xs := h.ts (kpSame s).t
theorem tpU (n : H p = none) (h : TpK K H a xs) : TpK K (upd H p o) a xs := h.ts (kpSame (sameUpd n)).t
theorem tpKk (k : Kp H H') (h : TpK K H a xs) : TpK K H' a xs := h.ts k.t
theorem tpT (k : Ts H H') (h : TpK K H a xs) : TpK K H' a xs := h.ts k
theorem sqS (s : L2.Same H H') (h : SqL K H a xs) : SqL K H' a xs := s.seq h
theorem sqU (n : H p = none) (h : SqL K H a xs) : SqL K (upd H p o) a xs := (sameUpd n).seq h
theorem webS {W : List (Str × PyData)} (s : L2.Same H H') (h : Web K H a W) : Web K H' a W := h.kp (kpSame s)
theorem webU {W : List (Str × PyData)} (n : H p = none) (h : Web K H a W) : Web K (upd H p o) a W := h.kp (kpSame (sameUpd n))
theorem kpTr (s2 : Kp H1 H') (s1 : Kp H H1) : Kp H H' := s1.trans s2
theorem kpU (n : H1 p = none) (s : Kp H H1) : Kp H (upd H1 p o) := s.trans (kpSame (sameUpd n))
end
theorem notT {c : Bool} (e : c = false) : (!c) = true := by rw [e]; rfl
theorem notF {c : Bool} (e : c = true) : (!c) = false := by rw [e]; rfl
theorem plD_inv {K : PySem.W.Frag} {H : Hp} {v : V} {p : Place} (h : Dt K H v (plD p)) : ∃ a, v = .ref a ∧ TpK K H a [.int p.1, .int p.2] := by
  cases h with | tup h g => cases g with | cons g1 g => cases g1; cases g with | cons g2 g => cases g2; cases g; exact ⟨_, rfl, h⟩
/-! ### slices, places in lists -/
theorem cutV_init (xs : List V) : cutV xs none (some (-1)) = xs.dropLast := by
  unfold cutV HT.sIx
  simp only [List.drop_zero]
  rw [if_pos (by decide), List.dropLast_eq_take]
  congr 1
  omega
theorem cutV_from (xs : List V) (k : Nat) : cutV xs (some (k : Int)) none = xs.drop k := by
  unfold cutV
  rw [HT.sIx_none, HT.sIx_nat]
  by_cases h : k ≤ xs.length
  · rw [Nat.min_eq_left h, List.take_of_length_le (by rw [List.length_drop]; exact Nat.le_refl _)]
  · rw [Nat.min_eq_right (by omega), Nat.sub_self, List.take_zero, List.drop_of_length_le (by omega)]
theorem cutV_one (xs : List V) : cutV xs (some 1) none = xs.drop 1 := cutV_from xs 1
theorem cutV_two (xs : List V) : cutV xs (some 2) none = xs.drop 2 := cutV_from xs 2
theorem cutV_three (xs : List V) : cutV xs (some 3) none = xs.drop 3 := cutV_from xs 3
theorem cutV_to (xs : List V) (k : Nat) : cutV xs none (some (k : Int)) = xs.take k := by
  unfold cutV
  rw [HT.sIx_none, HT.sIx_nat, List.drop_zero, Nat.sub_zero]
  by_cases h : k ≤ xs.length
  · rw [Nat.min_eq_left h]
  · rw [Nat.min_eq_right (by omega), List.take_of_length_le (Nat.le_refl _), List.take_of_length_le (by omega)]
theorem atI_last {xs : List V} {v : V} : atI (xs ++ [v]) (-1) = some v := by
  unfold atI ixN
  rw [if_neg (by decide), if_pos (by rw [List.length_append, List.length_singleton]; omega)]
  show (xs ++ [v])[(-1 + ((xs ++ [v]).length : Int)).toNat]? = some v
  have e : (-1 + ((xs ++ [v]).length : Int)).toNat = xs.length := by rw [List.length_append, List.length_singleton]; omega
  rw [e]
  simp
theorem atI_at {α : Type} {xs : List α} {k : Nat} {v : α} (h : xs[k]? = some v) : atI xs (k : Int) = some v := by
  obtain ⟨hk, _⟩ := List.getElem?_eq_some_iff.mp h
  unfold atI ixN
  rw [if_pos (by omega), if_pos (by omega)]
  exact h
/-! ### rules that give what they find a name -/
structure Nm {α : Type} (a b : α) : Prop where
  h : a = b
section
variable {X : Cx}
def rPartN : V → List V → Hp → VK → Prop := fun x xs H Q => ∃ (a b y1 y2 y3 : Str), x = .str a ∧ xs = [.str b] ∧ (b.length == 0) = false ∧ a.length ≤ sizeLine ∧ Nm (Txt.partition a b) (y1, y2, y3) ∧ ∀ p, H p = none → Q (.ref p) (upd H p (.tup [.str y1, .str y2, .str y3]))
theorem mt_partN : MtR X "str.partition" rPartN := by
  intro pins s σ H x xs v us Q I rx rs h
  obtain ⟨a, b, y1, y2, y3, e1, e2, e3, e4, e5, q⟩ := h
  refine mt_partition pins s σ H x xs v us Q I rx rs ⟨a, b, e1, e2, e3, e4, ?_⟩
  rw [e5.h]
  exact q
def rSplitN : V → List V → Hp → VK → Prop := fun x xs H Q => ∃ (a b : Str) (ys : List Str), x = .str a ∧ xs = [.str b] ∧ (b.length == 0) = false ∧ a.length + 2 ≤ sizeLine ∧ Nm (Txt.split a b) ys ∧ ∀ p, H p = none → Q (.ref p) (upd H p (.lst (ys.map V.str)))
theorem mt_splitN : MtR X "str.split" rSplitN := by
  intro pins s σ H x xs v us Q I rx rs h
  obtain ⟨a, b, ys, e1, e2, e3, e4, e5, q⟩ := h
  refine mt_split pins s σ H x xs v us Q I rx rs ⟨a, b, e1, e2, e3, e4, ?_⟩
  rw [e5.h]
  exact q
def rJoinN (K : PySem.W.Frag) : V → List V → Hp → VK → Prop := fun x xs H Q => ∃ (a : Str) (p : Addr) (ys : List Str) (z : Str), x = .str a ∧ xs = [.ref p] ∧ SqL K H p (ys.map V.str) ∧ (ys.map (·.length)).sum + ys.length * a.length ≤ 16777216 ∧ Nm (Str.join a ys) z ∧ Q (.str z) H
theorem mt_joinN : MtR X "str.join" (rJoinN X.K) := by
  intro pins s σ H x xs v us Q I rx rs h
  obtain ⟨a, p, ys, z, e1, e2, e3, e4, e5, q⟩ := h
  refine mt_join pins s σ H x xs v us Q I rx rs ⟨a, p, ys, e1, e2, .inl e3, e4, ?_⟩
  rw [TL.join_eq, e5.h]
  exact q
def rSlSN : V → Option Int → Option Int → Hp → VK → Prop := fun x lo hi H Q => ∃ (z y : Str), x = .str z ∧ z.length ≤ sizeLine ∧ Nm (cutS z lo hi) y ∧ Q (.str y) H
theorem sl_strN : SlR X rSlSN := by
  intro pins s σ H x v vl vu lo hi sl Q I rx hs pl pu h
  obtain ⟨z, y, e1, e2, e3, q⟩ := h
  exact sl_str pins s σ H x v vl vu lo hi sl Q I rx hs pl pu ⟨z, e1, e2, by rw [e3.h]; exact q⟩
def rSlLN (K : PySem.W.Frag) : V → Option Int → Option Int → Hp → VK → Prop := fun x lo hi H Q => ∃ (a : Addr) (xs ys : List V), x = .ref a ∧ SqL K H a xs ∧ Nm (cutV xs lo hi) ys ∧ ∀ p, H p = none → Q (.ref p) (upd H p (.lst ys))
theorem sl_listN : SlR X (rSlLN X.K) := by
  intro pins s σ H x v vl vu lo hi sl Q I rx hs pl pu h
  obtain ⟨a, xs, ys, e1, e2, e3, q⟩ := h
  exact sl_list pins s σ H x v vl vu lo hi sl Q I rx hs pl pu ⟨a, xs, e1, e2, by rw [e3.h]; exact q⟩
/-- a tuple's slice that is not the whole -/
def rSlTN (K : PySem.W.Frag) : V → Option Int → Option Int → Hp → VK → Prop := fun x lo hi H Q => ∃ (a : Addr) (xs ys : List V), x = .ref a ∧ SqT K H a xs ∧ ¬ (HT.sIx xs.length 0 lo = 0 ∧ HT.sIx xs.length xs.length hi = xs.length) ∧ Nm (cutV xs lo hi) ys ∧ ∀ p, H p = none → Q (.ref p) (upd H p (.tup ys))
theorem sl_tupN : SlR X (rSlTN X.K) := by
  intro pins s σ H x v vl vu lo hi sl Q I rx hs pl pu h
  obtain ⟨a, xs, ys, e1, e2, e0, e3, q⟩ := h
  exact sl_tup pins s σ H x v vl vu lo hi sl Q I rx hs pl pu ⟨a, xs, e1, e2, e0, by rw [e3.h]; exact q⟩
/-- t + u, none of them empty -/
def rCatN (K : PySem.W.Frag) : R2 := fun x y H Q => ∃ a b xs ys, x = .ref a ∧ y = .ref b ∧ SqT K H a xs ∧ SqT K H b ys ∧ xs.length + ys.length ≤ sizeLine ∧ xs ≠ [] ∧ ys ≠ [] ∧ ∀ p, H p = none → Q (.ref p) (upd H p (.tup (xs ++ ys)))
theorem op_catN : OpR X (binaryOp .Add) (rCatN X.K) := by
  intro pins s σ H x y v u Q I rx ry h
  obtain ⟨a, b, xs, ys, e1, e2, h1, h2, hl, n1, n2, q⟩ := h
  exact op_catA pins s σ H x y v u Q I rx ry ⟨a, b, xs, ys, e1, e2, h1, h2, hl, fun e => absurd e n1, fun _ e => absurd e n2, fun _ _ => q⟩
end
theorem tyL {K : PySem.W.Frag} {H : Hp} {l : Addr} {xs : List V} (h : SqL K H l xs) : tyV K "list" (.ref l) H := .inl ⟨rfl, _, h⟩
theorem ne_nilV {x : V} {xs : List V} : x :: xs ≠ [] := List.cons_ne_nil _ _
end Wn

/-! Words, paths, texts; how a thing is written, in tokens. -/
namespace Wn
open PySem PySem.Spec PyProof.Rows L2 TL
theorem tl_sl : tl ("/" : Str) = [47] := by decide +kernel
theorem tl_bl : tl (" " : Str) = [32] := by decide +kernel
theorem tl_nl : tl ("\n" : Str) = [10] := by decide +kernel
theorem tl_dot : tl ("." : Str) = [46] := by decide +kernel
theorem tl_da : tl ("-" : Str) = [45] := by decide +kernel
theorem tl_em : tl Str.empty = [] := rfl
theorem em_str : ("" : Str) = Str.empty := by decide +kernel
theorem tl_letters : tl ("abcdefghijklmnopqrstuvwxyz" : Str) = (List.range 26).map (97 + ·) := by decide +kernel
theorem tl_figures : tl ("0123456789" : Str) = (List.range 10).map (48 + ·) := by decide +kernel
theorem mem_letters {c : Nat} : c ∈ tl ("abcdefghijklmnopqrstuvwxyz" : Str) ↔ 97 ≤ c ∧ c ≤ 122 := by
  rw [tl_letters, List.mem_map]
  constructor
  · rintro ⟨a, h, rfl⟩
    have := List.mem_range.mp h
    omega
  · intro h
    exact ⟨c - 97, List.mem_range.mpr (by omega), by omega⟩
theorem mem_figures {c : Nat} : c ∈ tl ("0123456789" : Str) ↔ 48 ≤ c ∧ c ≤ 57 := by
  rw [tl_figures, List.mem_map]
  constructor
  · rintro ⟨a, h, rfl⟩
    have := List.mem_range.mp h
    omega
  · intro h
    exact ⟨c - 48, List.mem_range.mpr (by omega), by omega⟩
def FigsOk (x : Str) : Prop := ∀ c ∈ tl x, 48 ≤ c ∧ c ≤ 57
def WordOk (x : Str) : Prop := 1 ≤ x.length ∧ x.length ≤ 8 ∧ ∀ c ∈ tl x, 97 ≤ c ∧ c ≤ 122
def PartOk (x : Str) : Prop := WordOk x ∨ ∃ w f, x = w ++ "-" ++ f ∧ WordOk w ∧ f.length = 6 ∧ FigsOk f
def PartsOk (ps : List Str) : Prop := ps.length ≤ 5 ∧ ∀ p ∈ ps, PartOk p
def pathT (ps : List Str) : Str := "/" ++ Str.join "/" ps
def PathOk (x : Str) : Prop := ∃ ps, PartsOk ps ∧ x = pathT ps
def TextOk (x : Str) : Prop := x.length ≤ 40 ∧ ∀ c ∈ tl x, 32 ≤ c ∧ c ≤ 126
def sgn (x : Str) (lo hi : Nat) : Prop := ∀ c ∈ tl x, lo ≤ c ∧ c ≤ hi
theorem WordOk.ne {x : Str} (h : WordOk x) : tl x ≠ [] := fun e => by
  have := h.1
  rw [len_tl, e] at this
  simp at this
theorem PartOk.signs {x : Str} (h : PartOk x) : ∀ c ∈ tl x, c = 45 ∨ (48 ≤ c ∧ c ≤ 57) ∨ (97 ≤ c ∧ c ≤ 122) := by
  intro c hc
  rcases h with h | ⟨w, f, rfl, hw, _, hf⟩
  · exact .inr (.inr (h.2.2 c hc))
  · rw [tl_append, tl_append, tl_da] at hc
    rcases List.mem_append.mp hc with hc | hc
    · rcases List.mem_append.mp hc with hc | hc
      · exact .inr (.inr (hw.2.2 c hc))
      · exact .inl (List.mem_singleton.mp hc)
    · exact .inr (.inl (hf c hc))
theorem PartOk.len {x : Str} (h : PartOk x) : 1 ≤ x.length ∧ x.length ≤ 15 := by
  rcases h with h | ⟨w, f, rfl, hw, h6, hf⟩
  · exact ⟨h.1, by have := h.2.1; omega⟩
  · have e : ("-" : Str).length = 1 := by decide +kernel
    rw [PySem.Str.length_append, PySem.Str.length_append, e]
    have := hw.1
    have := hw.2.1
    omega
theorem PartOk.ne {x : Str} (h : PartOk x) : tl x ≠ [] := fun e => by
  have := h.len.1
  rw [len_tl, e] at this
  simp at this
theorem PartOk.noslash {x : Str} (h : PartOk x) : 47 ∉ tl x := fun m => by
  have := h.signs 47 m
  omega
theorem pathT_nil : pathT [] = "/" := by decide +kernel
theorem join_cons {y x : Str} {l : List Str} (h : l ≠ []) : Str.join y (x :: l) = x ++ y ++ Str.join y l := by
  cases l with
  | nil => exact absurd rfl h
  | cons a b => rfl
theorem pathT_join {ps : List Str} (h : ps ≠ []) : pathT ps = Txt.join "/" (Str.empty :: ps) := by
  rw [join_eq, join_cons h, PySem.Str.empty_append]
  rfl
theorem pathT_split {ps : List Str} (h : ps ≠ []) (ok : ∀ p ∈ ps, PartOk p) : Txt.split (pathT ps) "/" = Str.empty :: ps := by
  rw [pathT_join h]
  refine split_join tl_sl (by decide +kernel) (by simp) fun p hp => ?_
  rcases List.mem_cons.mp hp with rfl | hp
  · simp [tl, Str.empty]
  · exact (ok p hp).noslash
theorem tl_pathT (ps : List Str) : tl (pathT ps) = 47 :: joinL [47] (ps.map tl) := by
  unfold pathT
  rw [tl_append, tl_sl, tl_join, tl_sl]
  rfl
theorem joinL_ne {S p : List Nat} {ps : List (List Nat)} (h : p ≠ []) : joinL S (p :: ps) ≠ [] := by
  cases ps with
  | nil => exact h
  | cons q r => exact fun e => h (List.append_eq_nil_iff.mp e).1
theorem pathT_root {ps : List Str} (ok : ∀ p ∈ ps, PartOk p) : pathT ps = "/" ↔ ps = [] := by
  constructor
  · intro e
    cases ps with
    | nil => rfl
    | cons p r =>
      have e2 := congrArg tl e
      rw [tl_pathT, tl_sl, List.map_cons] at e2
      exact absurd (List.cons.inj e2).2 (joinL_ne (ok p List.mem_cons_self).ne)
  · rintro rfl
    exact pathT_nil
theorem pathT_inj {ps qs : List Str} (hp : ∀ p ∈ ps, PartOk p) (hq : ∀ p ∈ qs, PartOk p) (e : pathT ps = pathT qs) : ps = qs := by
  by_cases h : ps = []
  · subst h
    rw [pathT_nil] at e
    exact ((pathT_root hq).mp e.symm).symm
  · have h2 : qs ≠ [] := fun z => by
      subst z
      rw [pathT_nil] at e
      exact h ((pathT_root hp).mp e)
    have a := pathT_split h hp
    rw [e, pathT_split h2 hq] at a
    exact (List.cons.inj a).2.symm
theorem joinL_mem {S : List Nat} {c : Nat} : ∀ {ps : List (List Nat)}, c ∈ joinL S ps → c ∈ S ∨ ∃ p ∈ ps, c ∈ p
  | [], h => by cases h
  | [p], h => .inr ⟨p, List.mem_singleton.mpr rfl, h⟩
  | p :: q :: r, h => by
    rcases List.mem_append.mp (show c ∈ p ++ (S ++ joinL S (q :: r)) from h) with h | h
    · exact .inr ⟨p, List.mem_cons_self, h⟩
    · rcases List.mem_append.mp h with h | h
      · exact .inl h
      · rcases joinL_mem h with h | ⟨a, b, d⟩
        · exact .inl h
        · exact .inr ⟨a, List.mem_cons_of_mem _ b, d⟩
theorem joinL_len {S : List Nat} {m : Nat} (hS : S.length ≤ 1) : ∀ {ps : List (List Nat)}, (∀ p ∈ ps, p.length ≤ m) → (joinL S ps).length ≤ ps.length * (m + 1)
  | [], _ => by simp [joinL]
  | [p], h => by
    have := h p (List.mem_singleton.mpr rfl)
    show p.length ≤ 1 * (m + 1)
    omega
  | p :: q :: r, h => by
    have h1 := h p List.mem_cons_self
    have h2 := joinL_len hS (ps := q :: r) fun x hx => h x (List.mem_cons_of_mem _ hx)
    show (p ++ (S ++ joinL S (q :: r))).length ≤ (r.length + 1 + 1) * (m + 1)
    rw [List.length_append, List.length_append, Nat.add_mul (r.length + 1)]
    simp only [List.length_cons] at h2
    omega
theorem PathOk.signs {x : Str} (h : PathOk x) : ∀ c ∈ tl x, c = 45 ∨ (47 ≤ c ∧ c ≤ 57) ∨ (97 ≤ c ∧ c ≤ 122) := by
  obtain ⟨ps, ⟨_, ok⟩, rfl⟩ := h
  intro c hc
  rw [tl_pathT] at hc
  rcases List.mem_cons.mp hc with rfl | hc
  · omega
  · rcases joinL_mem hc with hc | ⟨p, hp, hc⟩
    · have := List.mem_singleton.mp hc
      omega
    · obtain ⟨q, hq, rfl⟩ := List.mem_map.mp hp
      have := (ok q hq).signs c hc
      omega
theorem PathOk.len {x : Str} (h : PathOk x) : x.length ≤ 81 := by
  obtain ⟨ps, ⟨h5, ok⟩, rfl⟩ := h
  rw [len_tl, tl_pathT, List.length_cons]
  have z := joinL_len (S := [47]) (m := 15) (Nat.le_refl _) (ps := ps.map tl) fun p hp => by
    obtain ⟨q, hq, rfl⟩ := List.mem_map.mp hp
    rw [← len_tl]
    exact (ok q hq).len.2
  rw [List.length_map] at z
  have : ps.length * (15 + 1) ≤ 5 * 16 := Nat.mul_le_mul_right _ h5
  omega
theorem rootOk : PathOk "/" := ⟨[], ⟨by decide, fun _ h => by cases h⟩, pathT_nil.symm⟩
/-! ### parts of a path -/
def partsOf (x : Str) : List Str := if x = "/" then [] else (Txt.split x "/").drop 1
def parentOf (x : Str) : Str := pathT (partsOf x).dropLast
theorem partsOf_pathT {ps : List Str} (ok : ∀ p ∈ ps, PartOk p) : partsOf (pathT ps) = ps := by
  unfold partsOf
  by_cases h : ps = []
  · rw [if_pos ((pathT_root ok).mpr h), h]
  · rw [if_neg fun e => h ((pathT_root ok).mp e), pathT_split h ok]
    rfl
theorem parentOf_pathT {ps : List Str} (ok : ∀ p ∈ ps, PartOk p) : parentOf (pathT ps) = pathT ps.dropLast := by
  unfold parentOf
  rw [partsOf_pathT ok]
theorem parentOk {x : Str} (h : PathOk x) : PathOk (parentOf x) := by
  obtain ⟨ps, ⟨h5, ok⟩, rfl⟩ := h
  rw [parentOf_pathT ok]
  exact ⟨_, ⟨by rw [List.length_dropLast]; omega, fun p hp => ok p (List.dropLast_subset _ hp)⟩, rfl⟩
/-! ### numbers -/
def num (n : Nat) : Str := Str.ofString (toString ((n : Nat) : Int))
theorem tl_numS (n : Nat) : tl (num n) = numL n := tl_num n
theorem num_len {n k : Nat} (hk : 0 < k) (h : n < 10 ^ k) : (num n).length ≤ k := by
  rw [len_tl, tl_numS]
  exact numL_len hk h
theorem num_signs (n : Nat) : ∀ c ∈ tl (num n), 48 ≤ c ∧ c ≤ 57 := by
  intro c hc
  rw [tl_numS] at hc
  have := numL_digits n c hc
  exact this
theorem num_ne (n : Nat) : num n ≠ "" := fun e => numL_ne n (by rw [← tl_numS, e]; rfl)
theorem num_inj {m n : Nat} (h : num m = num n) : m = n := numL_inj (by rw [← tl_numS, ← tl_numS, h])
theorem numL_head0 (n : Nat) : (numL n).head? = some 48 → n = 0 := by
  induction n using Nat.strongRecOn with
  | _ n ih =>
    intro h
    by_cases h10 : n < 10
    · rw [numL_lt h10] at h
      simp at h
      exact h
    · rw [numL_step (by omega)] at h
      cases e : numL (n / 10) with
      | nil => exact absurd e (numL_ne _)
      | cons a b =>
        rw [e] at h
        have z := ih (n / 10) (by omega) (by rw [e]; exact h)
        omega
/-! ### tokens -/
def tbT (b : Bool) : Str := if b then "yes" else "no"
def cntT : Option Nat → Str
  | none => "-"
  | some n => num n
def ownT : Option Str → Str
  | none => "-"
  | some x => x
def tokP : Pl → List Str
  | .make p t o n => ["make", p, tbT o, tbT n, num t.length, t]
  | .put p t c => ["put", p, cntT c, num t.length, t]
  | .drop p c => ["drop", p, cntT c]
  | .see p c => ["see", p, cntT c]
def tokD : De → List Str
  | .plain p => tokP p
  | .all ps => "all" :: num ps.length :: (ps.map tokP).flatten
  | .opn n => ["open", num n]
  | .close => ["close"]
  | .bring => ["bring"]
def tokE : En → List Str
  | .ask w s d => (w ++ "." ++ num s) :: tokD d
  | .fin w => ["end", w]
def plT (p : Place) : Str := num p.1 ++ "." ++ num p.2
def tokT (t : Thing) : List Str := plT t.1 :: tokE t.2
def tokN (x : Str) (n : Nd) : List Str := [x, num n.count, num n.made, ownT n.owner, num n.text.length, n.text]
def bj (ts : List Str) : Str := Str.join " " ts
def nj (ts : List Str) : Str := Str.join "\n" ts
theorem join_app {y : Str} : ∀ {a b : List Str}, a ≠ [] → b ≠ [] → Str.join y (a ++ b) = Str.join y a ++ y ++ Str.join y b
  | [], _, h, _ => absurd rfl h
  | [x], b, _, h => join_cons h
  | x :: z :: a, b, _, h => by
    rw [List.cons_append, join_cons (by simp), join_app (a := z :: a) (by simp) h, join_cons (x := x) (l := z :: a) (by simp)]
    simp only [PySem.Str.append_assoc]
theorem join_flat {y : Str} : ∀ {l : List (List Str)}, (∀ a ∈ l, a ≠ []) → Str.join y (l.map (Str.join y)) = Str.join y l.flatten
  | [], _ => rfl
  | [a], _ => by simp [Str.join]
  | a :: b :: l, h => by
    have hb : b ≠ [] := h b (by simp)
    rw [List.map_cons, join_cons (by simp), join_flat (l := b :: l) fun x hx => h x (List.mem_cons_of_mem _ hx), List.flatten_cons (l := a), join_app (h a (by simp)) (by
      rw [List.flatten_cons]
      exact fun e => hb (List.append_eq_nil_iff.mp e).1)]
theorem tokP_ne (p : Pl) : tokP p ≠ [] := by cases p <;> simp [tokP]
theorem tokD_ne (d : De) : tokD d ≠ [] := by
  cases d with
  | plain p => exact tokP_ne p
  | _ => simp [tokD]
theorem tokE_ne (e : En) : tokE e ≠ [] := by cases e <;> simp [tokE]
/-! ### the valid ones -/
def big : Nat := 10 ^ 100
def CntOk : Option Nat → Prop
  | none => True
  | some n => n < big
def Pl.Ok : Pl → Prop
  | .make p t _ n => PathOk p ∧ p ≠ "/" ∧ TextOk t ∧ (n = true → ∃ ps q, p = pathT (ps ++ [q]) ∧ PartsOk (ps ++ [q]) ∧ WordOk q)
  | .put p t c => PathOk p ∧ TextOk t ∧ CntOk c
  | .drop p c => PathOk p ∧ p ≠ "/" ∧ CntOk c
  | .see p c => PathOk p ∧ CntOk c
def De.Ok : De → Prop
  | .plain p => p.Ok
  | .all ps => 1 ≤ ps.length ∧ ps.length ≤ 6 ∧ ∀ p ∈ ps, p.Ok
  | .opn n => 1 ≤ n ∧ n ≤ 1000
  | .close => True
  | .bring => True
def En.Ok : En → Prop
  | .ask w s d => WordOk w ∧ 1 ≤ s ∧ s < big ∧ d.Ok
  | .fin w => WordOk w
def PlaceOk (p : Place) : Prop := p.1 < big ∧ p.2 < big
def Thing.Ok (t : Thing) : Prop := PlaceOk t.1 ∧ t.2.Ok
def Nd.Ok (n : Nd) : Prop := TextOk n.text ∧ n.count < big ∧ n.made < big ∧ ∀ x, n.owner = some x → WordOk x
/-! ### sizes -/
theorem starts_app (y z : Str) : Txt.startswith (y ++ z) y = true := by
  unfold Txt.startswith
  rw [PySem.StrLaws.subAt_eq, Bool.and_eq_true, decide_eq_true_eq]
  refine ⟨by rw [PySem.Str.length_append]; omega, ?_⟩
  rw [List.drop_zero, beq_iff_eq]
  show (tl (y ++ z)).take y.length = tl y
  rw [tl_append, len_tl, List.take_left']
  rfl
theorem sum_le {α : Type} {f : α → Nat} {m : Nat} : ∀ {l : List α}, (∀ x ∈ l, f x ≤ m) → (l.map f).sum ≤ l.length * m
  | [], _ => Nat.zero_le _
  | x :: l, h => by
    have h1 := h x List.mem_cons_self
    have h2 := sum_le (l := l) fun y hy => h y (List.mem_cons_of_mem _ hy)
    rw [List.map_cons, List.sum_cons, List.length_cons, Nat.add_mul]
    omega
theorem join_le {y : Str} {m : Nat} {l : List Str} (hy : y.length ≤ 1) (h : ∀ x ∈ l, x.length ≤ m) : (Str.join y l).length ≤ l.length * (m + 1) := by
  refine Nat.le_trans (PySem.StrLaws.join_length_le y l) ?_
  have h1 := sum_le (f := fun x : Str => x.length) h
  have h2 := Nat.mul_le_mul_left l.length hy
  rw [Nat.mul_add]
  omega
theorem join_sum {y : Str} {m : Nat} {l : List Str} (hy : y.length ≤ 1) (h : ∀ x ∈ l, x.length ≤ m) : (l.map fun x : Str => x.length).sum + l.length * y.length ≤ l.length * (m + 1) := by
  have h1 := sum_le (f := fun x : Str => x.length) h
  have h2 := Nat.mul_le_mul_left l.length hy
  rw [Nat.mul_add]
  omega
theorem len_sl : ("/" : Str).length = 1 := by decide +kernel
theorem len_bl : (" " : Str).length = 1 := by decide +kernel
theorem len_nl : ("\n" : Str).length = 1 := by decide +kernel
/-! ### signs in range -/
theorem strOk_of {x : Str} (h : ∀ c ∈ tl x, c ≤ 126) : PyData.strOk x = true := by
  unfold PyData.strOk
  rw [Array.all_eq_true]
  intro i hi
  have := h x.cps[i] (by simp [tl])
  exact decide_eq_true (by omega)
theorem PartOk.strOk {x : Str} (h : PartOk x) : PyData.strOk x = true := strOk_of fun c hc => by
  have := h.signs c hc
  omega
theorem PathOk.strOk {x : Str} (h : PathOk x) : PyData.strOk x = true := strOk_of fun c hc => by
  have := h.signs c hc
  omega
end Wn

/-! Own rules: a written dict's get and not in; s.rjust(n, sign). -/
namespace Wn
open PySem PySem.Spec PyProof.Rows L2
/-- the written dict at d has v at the text z -/
def KHas (K : PySem.W.Frag) (w : World) (d : Addr) (z : Str) (v : V) : Prop := ∃ es n u, KDict K w d es n ∧ PySem.W.nsIn K d z = some (some u) ∧ RelV v u
section
variable {X : Cx} {o e : Expr} {apos cpos : Pos} {td ty : TE}
def tGetK (K : PySem.W.Frag) (w : World) (td ty : TE) : TE := fun σ H Q => td σ H fun x H1 => ∃ d, x = .ref d ∧ (∃ es n, KDict K w d es n) ∧ ty σ H1 fun y H2 => ∃ z v, y = .str z ∧ KHas K w d z v ∧ Q v H2
theorem pe_getK (ho : PE X o td) (he : PE X e ty) (m : M1 X o "get" apos e cpos) : PE X (.Call (.Attribute o "get" apos) [e] [] cpos) (tGetK X.K X.w td ty) := by
  refine ⟨fun pins s σ H Q I h => ?_⟩
  refine wpAny_Call_method m.base m.few m.line PySem.F.plainAttrs_dict PySem.F.slot_dict_get PySem.F.type_dict_get (thn (ho.run pins s σ H _ I h) fun u s1 ⟨x, H1, I1, rx, a, ex, d, q1⟩ => ?_)
  subst ex
  obtain rfl : u = Value.ref a := rx
  obtain ⟨es0, n0, D0⟩ := d
  have hm0 := PySem.W.mapOf_K (prog := X.prog) (w := X.w) I1.kIn D0.at_ D0.lit
  refine ⟨hm0.typeIs, hm0.noDict, ?_⟩
  rw [m.trees]
  refine Calls.callWith_builtin rfl (Calls.evalArgs_plain (Calls.spliced_cons (thn (he.run pins s1 σ H1 _ I1 q1) fun iv s2 ⟨y, H2, I2, ry, g⟩ => Calls.spliced_nil ?_)))
  obtain ⟨z, v, rfl, ⟨es, n, u0, D, e, ru⟩, q⟩ := g
  obtain ⟨t, rfl⟩ := ry
  have hm := PySem.W.mapOf_K (prog := X.prog) (w := X.w) I2.kIn D.at_ D.lit
  refine call_meetsIn PySem.F.slot_dict_get hm.typeIs PySem.F.entry_dict_get (PySem.F.args_dict_get_2 _ _) (meets_dict_get (PySem.strKind X.prog X.w) a (PySem.strKind_is X.prog X.w z t) D.low) ⟨_, hm, ?_⟩
  refine ⟨v, H2, I2.tok _, ?_, q⟩
  rw [PySem.W.find_K D.at_ e]
  exact ru
def rNotK (K : PySem.W.Frag) (w : World) : R2 := fun x y H Q => ∃ d z v, x = .str z ∧ y = .ref d ∧ KHas K w d z v ∧ Q (.bl false) H
theorem op_notK : OpR X (compareOp .NotIn) (rNotK X.K X.w) := by
  intro pins s σ H x y v u Q I rx ry h
  obtain ⟨d, z, v0, e1, e2, ⟨es, n, u0, D, e, ru⟩, q⟩ := h
  exact op_notIn_kd D pins s σ H x y v u Q I rx ry ⟨z, some u0, e1, e2, e, q⟩
def rIxK (K : PySem.W.Frag) (w : World) : R2 := fun x y H Q => ∃ d z v, x = .ref d ∧ y = .str z ∧ KHas K w d z v ∧ Q v H
theorem ix_hasK : IxR X (rIxK X.K X.w) := by
  intro value slice pins s σ H x y v u Q I rx ry h hs
  obtain ⟨d, z, v0, e1, e2, ⟨es, n, u0, D, e, ru⟩, q⟩ := h
  exact ix_kdict value slice pins s σ H x y v u Q I rx ry ⟨d, z, v0, e1, e2, ⟨es, n, u0, D.at_, D.lit, e, ru⟩, q⟩ hs
/-- s.rjust(n, sign) -/
def rRjustF : V → List V → Hp → VK → Prop := fun x xs H Q => ∃ (a b y : Str) (i : Int), x = .str a ∧ xs = [.int i, .str b] ∧ PadOk i = true ∧ b.length = 1 ∧ Nm (Txt.rjustF a i (b.cps.getD 0 0)) y ∧ Q (.str y) H
theorem mt_rjustF : MtR X "str.rjust" rRjustF := by
  intro pins s σ H x xs v us Q I rx rs h
  obtain ⟨a, b, y, i, rfl, rfl, hp, hb, hy, q⟩ := h
  obtain ⟨t, rfl⟩ := rx
  cases rs with
  | cons r1 rs =>
    cases rs with
    | cons r2 rs =>
      cases rs
      obtain ⟨u, rfl⟩ := r1
      obtain ⟨z, rfl⟩ := r2
      refine PyProof.Rows.rjust_fill hp hb fun t' k => ⟨.str y, H, I.tok k, ⟨t', ?_⟩, q⟩
      rw [hy.h]
end
section
variable {w : World} {K : PySem.W.Frag} {mg : Str → Option Value} {base : Heap}
theorem Bag.longD (B : Bag w K mg base) : ∃ es n, KDict K w (He.ga K "LONG") es n := B.S.1.tab 0
theorem Bag.longK (B : Bag w K mg base) {q : Str × He.Dv} (hq : q ∈ [(("make" : Str), He.Dv.int 5), ("put", .int 4), ("drop", .int 3), ("see", .int 3)]) : KHas K w (He.ga K "LONG") q.1 (q.2.v K) := by
  obtain ⟨es, n, D⟩ := B.S.1.tab 0
  obtain ⟨u, e, r⟩ := He.valsB_ok B.long hq
  exact ⟨es, n, u, D, e, r⟩
theorem Bag.truthK (B : Bag w K mg base) {q : Str × He.Dv} (hq : q ∈ [(("yes" : Str), He.Dv.bl true), ("no", .bl false)]) : KHas K w (He.ga K "TRUTHS") q.1 (q.2.v K) := by
  obtain ⟨es, n, D⟩ := B.S.1.tab 1
  obtain ⟨u, e, r⟩ := He.valsB_ok B.truths hq
  exact ⟨es, n, u, D, e, r⟩
end
end Wn

/-! Own rule: name = {k: v for ..} on one line. -/
namespace Wn
open PySem PySem.Spec PyProof.Rows L2
section
variable {X : Cx}
theorem ps_setDc {i : Nat} {y : Str} {py : Pos} {kx vx tg iter : Expr} {ifs : List Expr} {scope : Scope} {own : List (Str × Nat)} {pos spos : Pos} {wi : TI} {g : TG} {tt : TT} {tk tv : TE} (hc : X.calm = true) (hN : X.N.Nodup) (hy : X.N[i]? = some y) (hyl : X.env.scope.names.lookup y = some .local)
    (hsw : swapsWith (.DictComp kx vx [⟨tg, iter, ifs, 0⟩] scope pos) (some (.Name y py)) spos.line X.env = pure true) (hi : PI X tg iter wi) (ok : BlkOk X.N X.env.scope scope own)
    (hg : ∀ (s : Shared) (H : Hp) (C : Addr) (cl : List (Str × Addr)) (fp : List Addr), PG (X.blk s H scope (compEnvC scope cl C X.env) fp) tg g) (ht : ∀ (s : Shared) (H : Hp) (C : Addr) (cl : List (Str × Addr)) (fp : List Addr), PTs (X.blk s H scope (compEnvC scope cl C X.env) fp) ifs tt)
    (hk : ∀ (s : Shared) (H : Hp) (C : Addr) (cl : List (Str × Addr)) (fp : List Addr), PE (X.blk s H scope (compEnvC scope cl C X.env) fp) kx tk)
    (he : ∀ (s : Shared) (H : Hp) (C : Addr) (cl : List (Str × Addr)) (fp : List Addr), PE (X.blk s H scope (compEnvC scope cl C X.env) fp) vx tv) (hs : ∀ x, foldedSetIterable iter X.env x = pure x := by intro _; rfl) :
    PS X (.Assign [.Name y py] (.DictComp kx vx [⟨tg, iter, ifs, 0⟩] scope pos) spos) (tAsg (tDc wi g tt tk tv (own.map (·.2))) (gName i)) := by
  refine ⟨fun pins s σ H D I h => ?_⟩
  rw [exec_Assign_Name_used _ _ _ _ hsw]
  refine wpAny_bind (wpAny_standAt (wpAny_bind ?_))
  show wpAny _ X.A (do let _ ← comprehension (.DictComp kx vx [⟨tg, iter, ifs, 0⟩] scope pos) scope X.env (firstIterPos [⟨tg, iter, ifs, 0⟩] pos) newDict false (eval iter X.env) (some (assign (.Name y py) X.env))) _ _ s
  have h : tDc wi g tt tk tv (own.map (·.2)) σ H (fun x H1 => gName i x σ H1 D.nx) := h
  refine wpAny_bind (thn (dc_core (Qf := fun _ s' => SP X pins D .next s') hc hN I hi ok hg ht hk he hs h fun L C s' m H' I' q hn f => ?_) fun _ s' hq => wpAny_pure (wpAny_pure hq))
  show wpAny _ _ (assign (.Name y py) X.env (.ref L)) _ _ _
  refine wpAny_assign_Name (store_ok2 (v := V.ref L) I' hN hy (.inl hyl) rfl (fun s2 I2 ⟨a, sb, ha⟩ => ?_) (.inr hyl))
  obtain ⟨f0, f1, f2, f3, f4, f5⟩ := f
  have haC : C ≠ a := by
    rcases ha with z | z
    · rw [z]; exact f1
    · exact fun e => f4 y a z e.symm
  refine ⟨m, hn.sameBut sb haC, fun h3 sb3 => ?_⟩
  exact ⟨_, H', I2.turned (t' := s2.toks) (fun b o hb e => (sb3.2 b hb).trans e) f0 f1 f3 f4 f5, q⟩
theorem dsw_true {kx vx : Expr} {gs : List Comprehension} {scope : Scope} {pos py : Pos} {y : Str} {l : Nat} {env : Env} (hk : env.scope.kind = .function) (hy : env.scope.names.lookup y = some .local) (hl : (py.line == pos.line) = true)
    (ha : (scope.names.any fun (n, k) => n == y && (k == .local || k == .cell)) = false) : swapsWith (.DictComp kx vx gs scope pos) (some (.Name y py)) l env = pure true := by
  have ky : env.kindOf y = some .local := hy
  have hb : env.blockKind = .function := by unfold Env.blockKind; rw [hk]; rfl
  unfold swapsWith
  simp only [hb, ky, ha, Expr.pos, hl]
  rfl
end
end Wn

/-! Own rules: str(n), int(text), f'..', of numbers that are not too big. -/
namespace Wn
open PySem PySem.Spec PyProof.Rows L2 TL
theorem big_log {n : Nat} (h : n < big) : ((n : Nat) : Int).natAbs.log2 < 1920 := by
  show n.log2 < 1920
  by_cases h0 : n = 0
  · subst h0
    decide
  · exact (Nat.log2_lt h0).mpr (Nat.lt_trans h (by decide +kernel))
theorem num_le {n : Nat} (h : n < big) : (num n).length ≤ 100 := num_len (by decide) h
section
variable {X : Cx}
/-- str(x), x a text or a number -/
def rStrN : List V → Hp → VK → Prop := fun xs H Q => (∃ a, xs = [.str a] ∧ Q (.str a) H) ∨ ∃ n : Nat, xs = [.int n] ∧ n < big ∧ Q (.str (num n)) H
theorem call_strN : CallR X (.type "str") rStrN := by
  intro pins s σ H xs us Q I r h
  rcases h with h | ⟨n, e, hb, q⟩
  · exact SkE.call_str_str pins s σ H xs us Q I r h
  · exact call_str_int pins s σ H xs us Q I r ⟨_, e, big_log hb, q⟩
def rNumN : List V → Hp → VK → Prop := fun xs H Q => ∃ n : Nat, xs = [.int n] ∧ n < big ∧ Q (.str (num n)) H
theorem call_numN : CallR X (.type "str") rNumN := fun pins s σ H xs us Q I r h => call_strN pins s σ H xs us Q I r (.inr h)
def rIntN : List V → Hp → VK → Prop := fun xs H Q => ∃ n : Nat, xs = [.str (num n)] ∧ n < big ∧ Q (.int n) H
theorem call_intN : CallR X (.type "int") rIntN := by
  intro pins s σ H xs us Q I r h
  obtain ⟨n, e, hb, q⟩ := h
  have z := num_le hb
  refine call_int_str pins s σ H xs us Q I r ⟨_, _, e, int_num ?_, Nat.le_trans z (by decide), q⟩
  rw [← tl_numS, ← len_tl]
  exact Nat.le_trans z (by decide)
def tFmtN (te : TE) : TE := fun σ H Q => te σ H fun x H1 => (∃ y : Str, x = .str y ∧ y.length ≤ sizeLine ∧ Q (.str y) H1) ∨ ∃ n : Nat, x = .int n ∧ n < big ∧ Q (.str (num n)) H1
theorem pe_fmtN {e : Expr} {te : TE} {pos : Pos} (he : PE X e te) : PE X (.FormattedValue e (-1) none pos) (tFmtN te) := by
  refine ⟨fun pins s σ H Q I h => ?_⟩
  refine wpAny_FormattedValue_plain (thn (he.run pins s σ H _ I h) fun v s1 hv => ?_)
  obtain ⟨x, H1, I1, r1, q⟩ := hv
  rcases q with ⟨y, rfl, hz, q⟩ | ⟨n, rfl, hb, q⟩
  · obtain ⟨t, rfl⟩ := r1
    exact wpAny_formatField_str ⟨.str y, H1, I1, ⟨t, rfl⟩, q⟩ ⟨.str y, H1, I1.tok _, ⟨_, rfl⟩, q⟩ hz
  · obtain ⟨t, rfl⟩ := r1
    exact wpAny_formatField_int (big_log hb) ⟨.str (num n), H1, I1.tok _, ⟨_, rfl⟩, q⟩
end
end Wn

/-! The program's deeds in plain Lean. -/
namespace Wn
open PySem PySem.Spec PyProof.Rows L2 TL
abbrev Nds := List (Str × Nd)
def ndsD (W : Nds) : List (Str × PyData) := mapA Nd.d W
inductive Re where
  | ok (v : PyData)
  | no (w : Str)
def Re.d : Re → PyData
  | .ok v => .tuple [.str "ok", v]
  | .no w => .tuple [.str "no", .str w]
def pad6 (n : Nat) : Str := Txt.rjustF (num n) 6 48
def numT (p : Str) (n : Nat) : Str := p ++ "-" ++ pad6 n
def putM (W : Nds) (who path text : Str) (own : Bool) (e : Nd) (q : Str) : Nds := putA (putA W (parentOf path) { e with made := e.made + 1 }) q ⟨text, 0, 0, if own = true then some who else none⟩
def makeM (W : Nds) (who path text : Str) (own nb : Bool) : Nds × Re :=
  match lkA W (parentOf path) with
  | none => (W, .no "parent")
  | some e => if e.owner.isSome = true then (W, .no "own") else
    if (lkA W (if nb = true then numT path e.made else path)).isSome = true then (W, .no "there") else
    if 60 ≤ W.length ∨ (nb = true ∧ 999999 < e.made) then (W, .no "full") else
    (putM W who path text own e (if nb = true then numT path e.made else path), .ok (.str (if nb = true then numT path e.made else path)))
def hasKid (W : Nds) (path : Str) : Bool := W.any fun p => decide (p.1 ≠ "/") && decide (parentOf p.1 = path)
def plainM (W : Nds) (p : Pl) (who : Str) : Nds × Re :=
  match p with
  | .make path text own nb => makeM W who path text own nb
  | .put path text c => match lkA W path with
    | none => (W, .no "lacks")
    | some e => if c.isSome = true ∧ c ≠ some e.count then (W, .no "count") else (putA W path { e with text := text, count := e.count + 1 }, .ok (.int ((e.count + 1 : Nat) : Int)))
  | .drop path c => match lkA W path with
    | none => (W, .no "lacks")
    | some e => if c.isSome = true ∧ c ≠ some e.count then (W, .no "count") else if hasKid W path = true then (W, .no "kids") else (delA W path, .ok .none)
  | .see path c => match lkA W path with
    | none => (W, .no "lacks")
    | some e => if c.isSome = true ∧ c ≠ some e.count then (W, .no "count") else (W, .ok (.int ((e.count : Nat) : Int)))
def leftM (W : Nds) (who : Str) : Nds := W.filter fun p => decide (p.2.owner ≠ some who)
/-- done_all's loop: the nodes, the values; or the first no and its place -/
def allM (W0 : Nds) (who : Str) : Nat → Nds → List PyData → List Pl → Nds × PyData
  | _, W, vs, [] => (W, .tuple [.str "ok", .tuple vs])
  | i, W, vs, p :: ps => match (plainM W p who).2 with
    | .no w => (W0, .tuple [.str "no", .str w, .int (i : Int)])
    | .ok v => allM W0 who (i + 1) (plainM W p who).1 (vs ++ [v]) ps
def deedM (W : Nds) (limit : Option Nat) (d : De) (who : Str) : Nds × Option Nat × PyData :=
  match d with
  | .opn n => match limit with
    | none => (W, some n, .tuple [.str "ok", .none])
    | some m => (W, some m, .tuple [.str "no", .str "open"])
  | .close => match limit with
    | none => (W, none, .tuple [.str "no", .str "closed"])
    | some _ => (leftM W who, none, .tuple [.str "ok", .none])
  | .bring => match limit with
    | none => (W, none, .tuple [.str "no", .str "closed"])
    | some m => (W, some m, .tuple [.str "ok", .none])
  | .all ps => match limit with
    | none => (W, none, .tuple [.str "no", .str "closed"])
    | some m => ((allM W who 0 W [] ps).1, some m, (allM W who 0 W [] ps).2)
  | .plain p => match limit with
    | none => (W, none, .tuple [.str "no", .str "closed"])
    | some m => ((plainM W p who).1, some m, (plainM W p who).2.d)
structure Se where
  limit : Option Nat
  stamp : Nat
  answer : PyData
  place : Place
def Se.d (s : Se) : PyData := .tuple [cntD s.limit, .int s.stamp, s.answer, plD s.place]
abbrev Ses := List (Str × Se)
def sesD (S : Ses) : List (Str × PyData) := mapA Se.d S
def never : Se := ⟨none, 0, .none, (0, 0)⟩
abbrev State := Nds × Ses
def doneM (st : State) (e : En) (pl : Place) : State :=
  match e with
  | .fin who => match lkA st.2 who with
    | none => st
    | some s => match s.limit with
      | none => st
      | some _ => (leftM st.1 who, putA st.2 who { s with limit := none })
  | .ask who stamp d =>
    let s := (lkA st.2 who).getD never
    if stamp ≤ s.stamp then st else
    let r := deedM st.1 s.limit d who
    (r.1, putA st.2 who ⟨r.2.1, stamp, r.2.2, pl⟩)
def root0 : Nds := [("/", ⟨"", 0, 0, none⟩)]
def stateM (row : List Thing) : State := row.foldl (fun st t => doneM st t.2 t.1) (root0, [])
/-! ### what the walks ask of the nodes -/
structure NdsOk (B : Nat) (W : Nds) : Prop where
  nd : (W.map (·.1)).Nodup
  path : ∀ p ∈ W, PathOk p.1
  size : W.length ≤ 60
  cnt : ∀ p ∈ W, p.2.count ≤ B ∧ p.2.made ≤ B
theorem num_le0 {n : Nat} (h : n < big) : (num n).length ≤ 100 := num_len (by decide) h
theorem pad_tl (x : Str) (i : Int) (c : Nat) : tl (Txt.rjustF x i c) = if i ≤ x.length then tl x else List.replicate (i.toNat - x.length) c ++ tl x := by
  unfold Txt.rjustF
  split
  · rfl
  · unfold PySem.Builtin.Str.padded
    simp [tl]
theorem pad6_len {n : Nat} (h : n < big) : (pad6 n).length ≤ 106 := by
  have z := num_le0 h
  unfold pad6
  rw [len_tl, pad_tl]
  split
  · rw [← len_tl]; omega
  · rw [List.length_append, List.length_replicate, ← len_tl]
    omega
end Wn

/-! Steps of the readings: data taken apart, heaps that change at a dict or a list. -/
namespace Wn
open PySem PySem.Spec PyProof.Rows L2 TL
section
variable {K : PySem.W.Frag} {H H' H1 : Hp} {p q a l : Addr} {o u : HO} {v : V} {xs ys : List V} {ds : List PyData} {kvs ks : List (Key × V)} {d d1 d2 d3 d4 d5 : PyData}
theorem Dt.s {x : Str} (h : Dt K H v (.str x)) : v = .str x := by cases h; rfl
theorem Dt.i {x : Int} (h : Dt K H v (.int x)) : v = .int x := by cases h; rfl
theorem Dt.b {x : Bool} (h : Dt K H v (.bool x)) : v = .bl x := by cases h; rfl
theorem Dt.n (h : Dt K H v .none) : v = .non := by cases h; rfl
theorem Dt.inv (h : Dt K H v (.tuple ds)) : ∃ l xs, v = .ref l ∧ TpK K H l xs ∧ DtA K H xs ds := by cases h with | tup h g => exact ⟨_, _, rfl, h, g⟩
theorem DtA.c1 (h : DtA K H xs (d :: ds)) : ∃ x ys, xs = x :: ys ∧ Dt K H x d ∧ DtA K H ys ds := by cases h with | cons h g => exact ⟨_, _, rfl, h, g⟩
theorem DtA.c0 (h : DtA K H xs []) : xs = [] := by cases h; rfl
theorem dt1 (h : Dt K H v (.tuple [d1])) : ∃ l x1, v = .ref l ∧ TpK K H l [x1] ∧ Dt K H x1 d1 := by
  obtain ⟨l, xs, rfl, t, g⟩ := h.inv
  obtain ⟨x1, ys, rfl, e1, g⟩ := g.c1
  obtain rfl := g.c0
  exact ⟨l, x1, rfl, t, e1⟩
theorem dt2 (h : Dt K H v (.tuple [d1, d2])) : ∃ l x1 x2, v = .ref l ∧ TpK K H l [x1, x2] ∧ Dt K H x1 d1 ∧ Dt K H x2 d2 := by
  obtain ⟨l, xs, rfl, t, g⟩ := h.inv
  obtain ⟨x1, ys, rfl, e1, g⟩ := g.c1
  obtain ⟨x2, ys, rfl, e2, g⟩ := g.c1
  obtain rfl := g.c0
  exact ⟨l, x1, x2, rfl, t, e1, e2⟩
theorem dt3 (h : Dt K H v (.tuple [d1, d2, d3])) : ∃ l x1 x2 x3, v = .ref l ∧ TpK K H l [x1, x2, x3] ∧ Dt K H x1 d1 ∧ Dt K H x2 d2 ∧ Dt K H x3 d3 := by
  obtain ⟨l, xs, rfl, t, g⟩ := h.inv
  obtain ⟨x1, ys, rfl, e1, g⟩ := g.c1
  obtain ⟨x2, ys, rfl, e2, g⟩ := g.c1
  obtain ⟨x3, ys, rfl, e3, g⟩ := g.c1
  obtain rfl := g.c0
  exact ⟨l, x1, x2, x3, rfl, t, e1, e2, e3⟩
theorem dt4 (h : Dt K H v (.tuple [d1, d2, d3, d4])) : ∃ l x1 x2 x3 x4, v = .ref l ∧ TpK K H l [x1, x2, x3, x4] ∧ Dt K H x1 d1 ∧ Dt K H x2 d2 ∧ Dt K H x3 d3 ∧ Dt K H x4 d4 := by
  obtain ⟨l, xs, rfl, t, g⟩ := h.inv
  obtain ⟨x1, ys, rfl, e1, g⟩ := g.c1
  obtain ⟨x2, ys, rfl, e2, g⟩ := g.c1
  obtain ⟨x3, ys, rfl, e3, g⟩ := g.c1
  obtain ⟨x4, ys, rfl, e4, g⟩ := g.c1
  obtain rfl := g.c0
  exact ⟨l, x1, x2, x3, x4, rfl, t, e1, e2, e3, e4⟩
theorem dt5 (h : Dt K H v (.tuple [d1, d2, d3, d4, d5])) : ∃ l x1 x2 x3 x4 x5, v = .ref l ∧ TpK K H l [x1, x2, x3, x4, x5] ∧ Dt K H x1 d1 ∧ Dt K H x2 d2 ∧ Dt K H x3 d3 ∧ Dt K H x4 d4 ∧ Dt K H x5 d5 := by
  obtain ⟨l, xs, rfl, t, g⟩ := h.inv
  obtain ⟨x1, ys, rfl, e1, g⟩ := g.c1
  obtain ⟨x2, ys, rfl, e2, g⟩ := g.c1
  obtain ⟨x3, ys, rfl, e3, g⟩ := g.c1
  obtain ⟨x4, ys, rfl, e4, g⟩ := g.c1
  obtain ⟨x5, ys, rfl, e5, g⟩ := g.c1
  obtain rfl := g.c0
  exact ⟨l, x1, x2, x3, x4, x5, rfl, t, e1, e2, e3, e4, e5⟩
/-! the program's things -/
theorem pl_make {x t : Str} {o n : Bool} (h : Dt K H v (Pl.make x t o n).d) : ∃ l, v = .ref l ∧ TpK K H l [.str "make", .str x, .str t, .bl o, .bl n] := by
  obtain ⟨l, _, _, _, _, _, rfl, ht, e1, e2, e3, e4, e5⟩ := dt5 h
  obtain rfl := e1.s; obtain rfl := e2.s; obtain rfl := e3.s; obtain rfl := e4.b; obtain rfl := e5.b
  exact ⟨l, rfl, ht⟩
theorem pl_put {x t : Str} {c : Option Nat} (h : Dt K H v (Pl.put x t c).d) : ∃ l c', v = .ref l ∧ TpK K H l [.str "put", .str x, .str t, c'] ∧ Dt K H c' (cntD c) := by
  obtain ⟨l, _, _, _, c', rfl, ht, e1, e2, e3, e4⟩ := dt4 h
  obtain rfl := e1.s; obtain rfl := e2.s; obtain rfl := e3.s
  exact ⟨l, c', rfl, ht, e4⟩
theorem pl_drop {x : Str} {c : Option Nat} (h : Dt K H v (Pl.drop x c).d) : ∃ l c', v = .ref l ∧ TpK K H l [.str "drop", .str x, c'] ∧ Dt K H c' (cntD c) := by
  obtain ⟨l, _, _, c', rfl, ht, e1, e2, e3⟩ := dt3 h
  obtain rfl := e1.s; obtain rfl := e2.s
  exact ⟨l, c', rfl, ht, e3⟩
theorem pl_see {x : Str} {c : Option Nat} (h : Dt K H v (Pl.see x c).d) : ∃ l c', v = .ref l ∧ TpK K H l [.str "see", .str x, c'] ∧ Dt K H c' (cntD c) := by
  obtain ⟨l, _, _, c', rfl, ht, e1, e2, e3⟩ := dt3 h
  obtain rfl := e1.s; obtain rfl := e2.s
  exact ⟨l, c', rfl, ht, e3⟩
theorem nd_inv {e : Nd} (h : Dt K H v e.d) : ∃ l o', v = .ref l ∧ TpK K H l [.str e.text, .int e.count, .int e.made, o'] ∧ Dt K H o' (ownD e.owner) := by
  obtain ⟨l, _, _, _, o', rfl, ht, e1, e2, e3, e4⟩ := dt4 h
  obtain rfl := e1.s; obtain rfl := e2.i; obtain rfl := e3.i
  exact ⟨l, o', rfl, ht, e4⟩
def ownV : Option Str → V
  | none => .non
  | some x => .str x
def cntV : Option Nat → V
  | none => .non
  | some n => .int n
theorem own_inv {c : Option Str} (h : Dt K H v (ownD c)) : v = ownV c := by
  cases c with
  | none => exact h.n
  | some x => exact h.s
theorem cnt_inv {c : Option Nat} (h : Dt K H v (cntD c)) : v = cntV c := by
  cases c with
  | none => exact h.n
  | some x => exact h.i
/-! a dict read, a dict or a list written -/
theorem rdS (h : H a = some (.dK kvs)) : Rd H a (.dK kvs) := .inl h
theorem dgS {x : Str} {r : Option V} (h : Rd H a (.dK kvs)) (e : valV kvs (Sum.inr x : Key) = r) : DGet H a (.str x) r := .inl ⟨kvs, Sum.inr x, h, rfl, e.symm⟩
theorem dpS {x : Str} (h : H a = some (.dK kvs)) (hl : kvs.length < sizeLine) : DPut H a (.str x) v (upd H a (.dK (putK kvs (Sum.inr x) v))) := .inl ⟨kvs, Sum.inr x, h, rfl, hl, rfl⟩
theorem isD_of (h : H a = some (.dK kvs)) : IsD H a := .inl ⟨kvs, .inl h⟩
theorem getTD (h : H p = some (.dK kvs)) (e : H q = some (.tup xs)) : upd H p o q = some (.tup xs) := by rw [upd_ne (fun z => by subst z; rw [h] at e; cases e)]; exact e
theorem getLD (h : H p = some (.dK kvs)) (e : H q = some (.lst xs)) : upd H p o q = some (.lst xs) := by rw [upd_ne (fun z => by subst z; rw [h] at e; cases e)]; exact e
theorem getTL (h : H p = some (.lst ys)) (e : H q = some (.tup xs)) : upd H p o q = some (.tup xs) := by rw [upd_ne (fun z => by subst z; rw [h] at e; cases e)]; exact e
theorem getDL (h : H p = some (.lst ys)) (e : H q = some (.dK kvs)) : upd H p o q = some (.dK kvs) := by rw [upd_ne (fun z => by subst z; rw [h] at e; cases e)]; exact e
theorem tsD (h : H p = some (.dK kvs)) : Ts H (upd H p o) := fun b xs e => getTD h e
theorem tsL (h : H p = some (.lst ys)) : Ts H (upd H p o) := fun b xs e => getTL h e
theorem kpL (h : H p = some (.lst ys)) : Kp H (upd H p o) := ⟨tsL h, fun b k e => getDL h e⟩
theorem dtD (h : H p = some (.dK kvs)) (g : Dt K H v d) : Dt K (upd H p o) v d := g.ts (tsD h)
theorem dtL (h : H p = some (.lst ys)) (g : Dt K H v d) : Dt K (upd H p o) v d := g.ts (tsL h)
theorem daD (h : H p = some (.dK kvs)) (g : DtA K H xs ds) : DtA K (upd H p o) xs ds := g.ts (tsD h)
theorem daL (h : H p = some (.lst ys)) (g : DtA K H xs ds) : DtA K (upd H p o) xs ds := g.ts (tsL h)
theorem tpD (h : H p = some (.dK kvs)) (g : TpK K H a xs) : TpK K (upd H p o) a xs := g.ts (tsD h)
theorem tpL (h : H p = some (.lst ys)) (g : TpK K H a xs) : TpK K (upd H p o) a xs := g.ts (tsL h)
theorem webL {W : List (Str × PyData)} (h : H p = some (.lst ys)) (g : Web K H a W) : Web K (upd H p o) a W := g.kp (kpL h)
theorem enS {W : List (Str × PyData)} (s : L2.Same H H') (g : Ents K H kvs W) : Ents K H' kvs W := g.ts (kpSame s).t
theorem enU {W : List (Str × PyData)} (n : H p = none) (g : Ents K H kvs W) : Ents K (upd H p o) kvs W := g.ts (kpSame (sameUpd n)).t
theorem enD {W : List (Str × PyData)} (h : H p = some (.dK ks)) (g : Ents K H kvs W) : Ents K (upd H p o) kvs W := g.ts (tsD h)
theorem enL {W : List (Str × PyData)} (h : H p = some (.lst ys)) (g : Ents K H kvs W) : Ents K (upd H p o) kvs W := g.ts (tsL h)
theorem butSame (n : H p = none) (b : But p H H') : L2.Same H H' := b.same n
theorem butP (b : But p H H1) : But p H (upd H1 p o) := b.trans (But.upd p H1 o)
theorem butN (n : H1 q = none) (b : But p H H1) : But p H (upd H1 q o) := b.trans (But.of (sameUpd n))
theorem butS (s : L2.Same H1 H') (b : But p H H1) : But p H H' := b.trans (But.of s)
theorem butB (s : But p H1 H') (b : But p H H1) : But p H H' := b.trans s
theorem updd : upd (upd H p o) p u = upd H p u := by
  funext b
  by_cases h : b = p
  · subst h
    rw [upd_same, upd_same]
  · rw [upd_ne h, upd_ne h, upd_ne h]
theorem Ents.putN {k : Str} {W : Nds} {e : Nd} (hv : Dt K H v e.d) (g : Ents K H kvs (ndsD W)) : Ents K H (putK kvs (Sum.inr k) v) (ndsD (putA W k e)) := by
  have z := Ents.put hv g (k := k)
  unfold ndsD at z ⊢
  rw [putA_map]
  exact z
theorem Ents.delN {k : Str} {W : Nds} (g : Ents K H kvs (ndsD W)) : Ents K H (dropK kvs (Sum.inr k)) (ndsD (delA W k)) := by
  have z := Ents.del g (k := k)
  unfold ndsD at z ⊢
  rw [delA_map]
  exact z
theorem Ents.lenN {W : Nds} (g : Ents K H kvs (ndsD W)) : kvs.length = W.length := by rw [g.length]; unfold ndsD mapA; rw [List.length_map]
theorem Ents.getN {W : Nds} {x : Str} {e : Nd} (g : Ents K H kvs (ndsD W)) (h : lkA W x = some e) : ∃ v, valV kvs (Sum.inr x : Key) = some v ∧ Dt K H v e.d := by
  rcases g.get x with ⟨_, z⟩ | ⟨v, d, h1, h2, h3⟩
  · unfold ndsD at z
    rw [lkA_map, h] at z
    cases z
  · unfold ndsD at h2
    rw [lkA_map, h] at h2
    cases h2
    exact ⟨v, h1, h3⟩
theorem Ents.getN0 {W : Nds} {x : Str} (g : Ents K H kvs (ndsD W)) (h : lkA W x = none) : valV kvs (Sum.inr x : Key) = none := by
  rcases g.get x with ⟨z, _⟩ | ⟨v, d, h1, h2, h3⟩
  · exact z
  · unfold ndsD at h2
    rw [lkA_map, h] at h2
    cases h2
theorem Ents.keysN {W : Nds} (g : Ents K H kvs (ndsD W)) : kvs.map (·.1) = (W.map (·.1)).map Sum.inr := by
  rw [g.keys]
  unfold ndsD
  rw [keys_map]
theorem small_size {n m : Nat} (h : n ≤ m) (hm : m < 1000000 := by decide) : n < sizeLine := Nat.lt_of_le_of_lt h (Nat.lt_trans hm (by decide))
end
theorem one_lt {c m : Nat} : ([c] : List Nat) < [m] ↔ c < m := by
  rw [List.cons_lt_cons_iff]
  simp
theorem le_sgn {c : Nat} (h : 32 ≤ c) : (!decide ((⟨#[c]⟩ : Str).cps.toList < (" " : Str).cps.toList)) = true := by
  rw [show (" " : Str).cps.toList = [32] from tl_bl, show (⟨#[c]⟩ : Str).cps.toList = [c] from rfl, Bool.not_eq_true', decide_eq_false_iff_not, one_lt]
  omega
theorem ge_sgn {c : Nat} (h : c ≤ 126) : (!decide (("~" : Str).cps.toList < (⟨#[c]⟩ : Str).cps.toList)) = true := by
  rw [show ("~" : Str).cps.toList = [126] by decide +kernel, show (⟨#[c]⟩ : Str).cps.toList = [c] from rfl, Bool.not_eq_true', decide_eq_false_iff_not, one_lt]
  omega
section
variable {K : PySem.W.Frag} {H H' H1 : Hp} {p q a : Addr} {o u : HO} {v : V} {xs ys : List V} {ds : List PyData} {kvs ks : List (Key × V)} {d : PyData}
theorem sameOf (h : upd H p o = H1) (n : H p = none) : L2.Same H H1 := h ▸ sameUpd n
theorem atOf (h : upd H p o = H1) : H1 p = some o := h ▸ upd_same
theorem butOf (h : upd H p o = H1) : But p H H1 := h ▸ But.upd p H o
theorem tsOfD (h : upd H p o = H1) (e : H p = some (.dK kvs)) : Ts H H1 := h ▸ tsD e
theorem tsOfL (h : upd H p o = H1) (e : H p = some (.lst ys)) : Ts H H1 := h ▸ tsL e
theorem kpOfL (h : upd H p o = H1) (e : H p = some (.lst ys)) : Kp H H1 := h ▸ kpL e
theorem getT (k : Ts H H1) (e : H q = some (.tup xs)) : H1 q = some (.tup xs) := k _ _ e
theorem getKT (k : Kp H H1) (e : H q = some (.tup xs)) : H1 q = some (.tup xs) := k.t _ _ e
theorem getKD (k : Kp H H1) (e : H q = some (.dK kvs)) : H1 q = some (.dK kvs) := k.d _ _ e
theorem getB (b : But p H H1) (n : q ≠ p) (e : H q = some o) : H1 q = some o := b _ _ n e
theorem enT {W : List (Str × PyData)} (s : Ts H H') (g : Ents K H kvs W) : Ents K H' kvs W := g.ts s
theorem enK {W : List (Str × PyData)} (s : Kp H H') (g : Ents K H kvs W) : Ents K H' kvs W := g.ts s.t
theorem webB {W : List (Str × PyData)} (b : But p H H1) (t : Ts H H1) (n : a ≠ p) (g : Web K H a W) : Web K H1 a W := by
  obtain ⟨kvs, e, g⟩ := g
  exact ⟨kvs, b _ _ n e, g.ts t⟩
theorem butSm (n : H p = none) (b : But p H H') : L2.Same H H' := b.same n
theorem butOfS (s : L2.Same H H') : But p H H' := But.of s
theorem ne_new (n : H p = none) (e : H q = some o) : q ≠ p := fun z => by subst z; rw [n] at e; cases e
end
theorem freeS {H H1 : Hp} {p : Addr} (s : L2.Same H H1) (n : H1 p = none) : H p = none := s.free n
theorem dtInt {K : PySem.W.Frag} {H : Hp} {i j : Int} (h : i = j) : Dt K H (.int i) (.int j) := h ▸ Dt.int i
section
variable {K : PySem.W.Frag} {H : Hp} {l p : Addr} {Q : VK}
theorem strDp {H : Hp} : ∀ ys : List Str, DpAll K H (ys.map V.str) (ys.map PyData.str)
  | [] => .nil
  | y :: ys => .cons (.str y) (strDp ys)
theorem strLay : ∀ ys : List Str, (∀ y ∈ ys, PyData.strOk y = true) → PyData.canLayAll0 (ys.map PyData.str) = true
  | [], _ => by simp [PyData.canLayAll0]
  | y :: ys, h => by
    have h1 := strLay ys fun x hx => h x (List.mem_cons_of_mem _ hx)
    have h2 := h y List.mem_cons_self
    simp [PyData.canLayAll0, PyData.canLay0, h1, h2]
theorem strDep : ∀ ys : List Str, PyData.depthAll (ys.map PyData.str) = 0
  | [] => by simp [PyData.depthAll]
  | y :: ys => by
    have h1 := strDep ys
    simp [PyData.depthAll, PyData.depth, h1]
theorem strSh {ys : List Str} (h : ∀ y ∈ ys, PyData.strOk y = true) : SeqAt.shaped (.list (ys.map PyData.str)) = true := by
  show (PyData.canLay0 (.list (ys.map PyData.str)) && decide (PyData.depth (.list (ys.map PyData.str)) ≤ 64)) = true
  rw [Bool.and_eq_true]
  refine ⟨by simp only [PyData.canLay0]; exact strLay ys h, decide_eq_true ?_⟩
  simp only [PyData.depth]
  rw [strDep]
  decide
theorem neNil {ys : List Str} (ok : ∀ y ∈ ys, PyData.strOk y = true) (h1 : H l = some (.lst (ys.map V.str))) (h2 : H p = some (.lst [])) (q : Q (.bl (!decide (ys = []))) H) : rNeD K (.ref l) (.ref p) H Q := by
  refine ⟨_, _, .lst (SqL.of h1) (strDp ys), .lst (SqL.of h2) .nil, strSh ok, rfl, ?_⟩
  have e : PyData.eqv (.list (ys.map PyData.str)) (.list []) = decide (ys = []) := by
    cases ys with
    | nil => rfl
    | cons y ys => rfl
  rw [e]
  exact q
theorem Ents.at {kvs : List (Key × V)} {k : Key} {v : V} : ∀ {kvs : List (Key × V)} {W : Nds} (i : Nat), Ents K H kvs (ndsD W) → kvs[i]? = some (k, v) → ∃ y e, W[i]? = some (y, e) ∧ k = Sum.inr y ∧ Dt K H v e.d
  | [], W, i, _, h => by simp at h
  | kv :: kvs, [], i, g, h => by cases g
  | kv :: kvs, (y, e) :: W, 0, g, h => by
    cases g with | cons g1 g2 =>
    cases h
    exact ⟨y, e, rfl, rfl, g1⟩
  | kv :: kvs, (y, e) :: W, i + 1, g, h => by
    cases g with | cons g1 g2 =>
    exact Ents.at (kvs := kvs) i g2 h
end
theorem path_last {x : Str} (h : PathOk x) (n : x ≠ "/") : ∃ ps y, x = pathT (ps ++ [y]) ∧ PartsOk (ps ++ [y]) := by
  obtain ⟨ps, ok, rfl⟩ := h
  by_cases e : ps = []
  · subst e
    exact absurd pathT_nil n
  · refine ⟨ps.dropLast, ps.getLast e, ?_, ?_⟩
    · rw [List.dropLast_concat_getLast e]
    · rw [List.dropLast_concat_getLast e]
      exact ok
theorem sameUP {H H1 : Hp} {D : Addr} {o : HO} (n : H D = none) (s : L2.Same H H1) : L2.Same H (upd H1 D o) := fun b u e => by
  rw [upd_ne (ne_of_none e n)]
  exact s _ _ e
theorem delA_take {W : Nds} {i : Nat} {y x : Str} {e : Nd} (h : W[i]? = some (y, e)) : delA (W.take (i + 1)) x = if y = x then delA (W.take i) x else delA (W.take i) x ++ [(y, e)] := by
  unfold delA
  rw [List.take_succ, h, List.filter_append]
  by_cases c : y = x <;> simp [c]
theorem not_mem_take {W : Nds} (nd : (W.map (·.1)).Nodup) {i : Nat} {y x : Str} {e : Nd} (h : W[i]? = some (y, e)) : y ∉ (delA (W.take i) x).map (·.1) := by
  intro m
  obtain ⟨p, hp, rfl⟩ := List.mem_map.mp m
  have hp2 := (delA_mem.mp hp).1
  obtain ⟨j, hj⟩ := List.mem_iff_getElem?.mp hp2
  obtain ⟨hjl, _⟩ := List.getElem?_eq_some_iff.mp hj
  rw [List.length_take] at hjl
  rw [List.getElem?_take, if_pos (by omega)] at hj
  have e1 : (W.map (·.1))[j]? = some p.1 := by rw [List.getElem?_map, hj]; rfl
  have e2 : (W.map (·.1))[i]? = some p.1 := by rw [List.getElem?_map, h]; rfl
  have := (List.getElem?_inj (List.getElem?_eq_some_iff.mp e1).1 nd).mp (e1.trans e2.symm)
  omega
theorem putA_app {W : Nds} {y : Str} {e : Nd} (h : y ∉ W.map (·.1)) : putA W y e = W ++ [(y, e)] := putA_new h
theorem tyLs {K : PySem.W.Frag} {H : Hp} {a : Addr} {xs : List V} (h : H a = some (.lst xs)) : TyX K H (.ref a) (.type "list") := .base (.lst h)
theorem putK_len (kvs : List (Key × V)) (k : Key) (v : V) : (putK kvs k v).length ≤ kvs.length + 1 := by
  unfold putK
  split
  · rw [List.length_map]; omega
  · rw [List.length_append]; exact Nat.le_refl _
theorem sameBut {H H1 H' : Hp} {p : Addr} (b : But p H1 H') (n : H p = none) (s : But p H H1) : L2.Same H H' := (s.trans b).same n
end Wn

/-! The rules with an abstract heap behind them: what is new, what changed, what is kept. -/
namespace Wn
open PySem PySem.Spec PyProof.Rows L2 TL
section
variable {X : Cx} {e o i value : Expr} {es : List Expr} {pos : Pos} {te ta tv td ty : TE} {t : TA} {f : Str}
def upE (t : TE) : TE := fun σ H Q => ∃ Q0 : V → Hp → Prop, t σ H Q0 ∧ ∀ v H1, Q0 v H1 → Q v H1
def upA (t : TA) : TA := fun σ H Q => ∃ Q0 : List V → Hp → Prop, t σ H Q0 ∧ ∀ v H1, Q0 v H1 → Q v H1
theorem pe_up (h : PE X e te) : PE X e (upE te) := ⟨fun pins s σ H Q I ⟨Q0, q, w⟩ => thn (h.run pins s σ H Q0 I q) fun v s1 ⟨x, H1, I1, r, q1⟩ => ⟨x, H1, I1, r, w _ _ q1⟩⟩
theorem pa_up (h : PA X es t) : PA X es (upA t) := ⟨fun p pins s σ H Q I ⟨Q0, q, w⟩ => thn (h.run p pins s σ H Q0 I q) fun v s1 ⟨x, H1, I1, r, q1⟩ => ⟨x, H1, I1, r, w _ _ q1⟩⟩
theorem pe_wk {t1 : TE} (h : PE X e t1) (w : ∀ σ H Q, te σ H Q → t1 σ H Q) : PE X e te := ⟨fun pins s σ H Q I q => h.run pins s σ H Q I (w σ H Q q)⟩
theorem ps_wk {st : Stmt} {t1 t2 : TS} (h : PS X st t1) (w : ∀ D σ H, t2 D σ H → t1 D σ H) : PS X st t2 := ⟨fun pins s σ H D I q => h.run pins s σ H D I (w D σ H q)⟩
/-- a new object -/
theorem al {H : Hp} {o : HO} {Q : VK} (h : ∀ (p : Addr) (H' : Hp), L2.Same H H' → H p = none → H' p = some o → Q (.ref p) H') : ∀ p, H p = none → Q (.ref p) (upd H p o) := fun p n => h p _ (sameUpd n) n upd_same
def tTupA (t : TA) : TE := fun σ H Q => t σ H fun xs H1 => xs.length ≤ sizeLine ∧ ∀ (p : Addr) (H' : Hp), L2.Same H1 H' → H1 p = none → H' p = some (.tup xs) → Q (.ref p) H'
def tLstA (t : TA) : TE := fun σ H Q => t σ H fun xs H1 => xs.length ≤ sizeLine ∧ ∀ (p : Addr) (H' : Hp), L2.Same H1 H' → H1 p = none → H' p = some (.lst xs) → Q (.ref p) H'
theorem pe_tupA {x1} (h : PA X es t) : PE X (.Tuple es x1 pos) (tTupA t) := pe_wk (pe_tup (pa_up h)) fun σ H Q q => ⟨_, q, fun xs H1 r => ⟨r.1, al r.2⟩⟩
theorem pe_lstA (h : PA X es t) : PE X (.List es pos) (tLstA t) := pe_wk (pe_lst (pa_up h)) fun σ H Q q => ⟨_, q, fun xs H1 r => ⟨r.1, al r.2⟩⟩
def tDNewA : TE := fun _ H Q => ∀ (p : Addr) (H' : Hp), L2.Same H H' → H p = none → H' p = some (.dK []) → Q (.ref p) H'
theorem pe_dnewA : PE X (.Dict [] [] pos) tDNewA := pe_wk pe_dnewK fun σ H Q q => al q
/-- {k: v}, one pair, the key a text -/
def tDisp1 (tk tv : TE) : TE := fun σ H Q => ∀ (p : Addr) (H0 : Hp), L2.Same H H0 → H p = none → H0 p = some (.dK []) → tk σ H0 fun x H1 => tv σ H1 fun y H2 => H2 p = some (.dK []) ∧ ∃ z : Str, x = .str z ∧ ∀ H', But p H2 H' → Ts H2 H' → H' p = some (.dK [(Sum.inr z, y)]) → Q (.ref p) H'
theorem pe_disp1 {k v : Expr} {tk tv : TE} (hk : PE X k tk) (hv : PE X v tv) : PE X (.Dict [some k] [v] pos) (tDisp1 tk tv) := by
  refine pe_wk (pe_disp (pps_cons (pe_up hk) (pe_up hv) pps_nil) rfl rfl (by simp) (Nat.le_of_ble_eq_true rfl)) fun σ H Q q p n => ?_
  refine ⟨_, q p _ (sameUpd n) n upd_same, fun x H1 q1 => ⟨_, q1, fun y H2 q2 => ?_⟩⟩
  obtain ⟨e, z, rfl, q3⟩ := q2
  exact ⟨e, [(Sum.inr z, y)], rfl, Nat.le_of_ble_eq_true rfl, q3 _ (But.upd _ _ _) (tsD e) upd_same⟩
/-- d[k] = v, the key a text -/
def sDPutA (td ty tv : TE) : TS := fun D σ H => tv σ H fun v H1 => td σ H1 fun x H2 => ty σ H2 fun y H3 => ∃ (a : Addr) (kvs : List (Key × V)) (z : Str), x = .ref a ∧ y = .str z ∧ H3 a = some (.dK kvs) ∧ kvs.length < sizeLine ∧
  ∀ H', But a H3 H' → Ts H3 H' → H' a = some (.dK (putK kvs (Sum.inr z) v)) → D.nx σ H'
theorem ps_dputA {pos' : Pos} (hu : X.A.units + 1 < cLine) (ho : PE X o td) (hi : PE X i ty) (hv : PE X value tv) (hs : swapsWith value (some (.Subscript o i pos')) pos.line X.env = pure false) :
    PS X (.Assign [.Subscript o i pos'] value pos) (sDPutA td ty tv) := ps_wk (ps_dput hu (pe_up ho) (pe_up hi) (pe_up hv) hs) fun D σ H q =>
  ⟨_, q, fun v H1 q1 => ⟨_, q1, fun x H2 q2 => ⟨_, q2, fun y H3 q3 => by
    obtain ⟨a, kvs, z, e1, e2, e3, hl, q4⟩ := q3
    exact ⟨a, _, e1, e2 ▸ dpS e3 hl, q4 _ (But.upd _ _ _) (tsD e3) upd_same⟩⟩⟩⟩
def tDPop1A (td ty : TE) : TE := fun σ H Q => td σ H fun x H1 => ∃ a, x = .ref a ∧ IsD H1 a ∧ ty σ H1 fun y H2 => ∃ (kvs : List (Key × V)) (z : Str) (v : V), H2 a = some (.dK kvs) ∧ y = .str z ∧ valV kvs (Sum.inr z : Key) = some v ∧ ∀ H', But a H2 H' → Ts H2 H' → H' a = some (.dK (dropK kvs (Sum.inr z))) → Q v H'
theorem pe_dpop1A {apos cpos : Pos} (ho : PE X o td) (he : PE X e ty) (m : M1 X o "pop" apos e cpos) : PE X (.Call (.Attribute o "pop" apos) [e] [] cpos) (tDPop1A td ty) := pe_wk (pe_dpop1 (pe_up ho) (pe_up he) m) fun σ H Q q =>
  ⟨_, q, fun x H1 q1 => by
    obtain ⟨a, e1, d, q2⟩ := q1
    refine ⟨a, e1, d, _, q2, fun y H2 q3 => ?_⟩
    obtain ⟨kvs, z, v, e3, e4, e5, q4⟩ := q3
    exact ⟨kvs, Sum.inr z, v, e3, e4, e5, q4 _ (But.upd _ _ _) (tsD e3) upd_same⟩⟩
/-- o.f = e -/
def sFldA (K : PySem.W.Frag) (ta tv : TE) (f : Str) : TS := fun D σ H => tv σ H fun y H1 => ta σ H1 fun x H2 => ∃ (a C dx : Addr) (fs : List (Str × V)), x = .ref a ∧ H2 a = some (.ins C dx fs) ∧ Cls K C ∧ NoAttr K C f ∧ fs.length < 1000 ∧
  ∀ H', But a H2 H' → Kp H2 H' → H' a = some (.ins C dx (putF f y fs)) → D.nx σ H'
theorem kpIns {H : Hp} {a C dx : Addr} {fs : List (Str × V)} {u : HO} (h : H a = some (.ins C dx fs)) : Kp H (upd H a u) := (But.upd a H u).kpI h
theorem ps_fldA {pos' : Pos} (ha : PE X o ta) (hv : PE X value tv) (hs : swapsWith value (some (.Attribute o f pos')) pos.line X.env = pure false) : PS X (.Assign [.Attribute o f pos'] value pos) (sFldA X.K ta tv f) :=
  ps_wk (ps_fld (pe_up ha) (pe_up hv) hs) fun D σ H q => ⟨_, q, fun y H1 q1 => ⟨_, q1, fun x H2 q2 => by
    obtain ⟨a, C, dx, fs, e1, e2, c, n, l, q3⟩ := q2
    exact ⟨a, C, dx, fs, e1, e2, c, n, l, q3 _ (But.upd _ _ _) (kpIns e2) upd_same⟩⟩⟩
def gFldA (K : PySem.W.Frag) (ta : TE) (f : Str) : TG := fun v σ H Q => ta σ H fun x H1 => ∃ (a C dx : Addr) (fs : List (Str × V)), x = .ref a ∧ H1 a = some (.ins C dx fs) ∧ Cls K C ∧ NoAttr K C f ∧ fs.length < 1000 ∧
  ∀ H', But a H1 H' → Kp H1 H' → H' a = some (.ins C dx (putF f v fs)) → Q σ H'
theorem pg_wk {tg : Expr} {g1 g2 : TG} (h : PG X tg g1) (w : ∀ v σ H Q, g2 v σ H Q → g1 v σ H Q) : PG X tg g2 := ⟨fun pins s σ H v u Q I r q => h.run pins s σ H v u Q I r (w v σ H Q q)⟩
theorem pg_fldA (ho : PE X o ta) : PG X (.Attribute o f pos) (gFldA X.K ta f) := pg_wk (pg_fld (pe_up ho)) fun v σ H Q q => ⟨_, q, fun x H1 q1 => by
  obtain ⟨a, C, dx, fs, e1, e2, c, n, l, q3⟩ := q1
  exact ⟨a, C, dx, fs, e1, e2, c, n, l, q3 _ (But.upd _ _ _) (kpIns e2) upd_same⟩⟩
def upG (t : TGs) : TGs := fun vs σ H Q => ∃ Q0 : L2.St → Hp → Prop, t vs σ H Q0 ∧ ∀ σ' H', Q0 σ' H' → Q σ' H'
/-- a, .., *r = t -/
def gStarA (K : PySem.W.Frag) (i : Nat) (t : TGs) : TG := fun v σ H Q => ∃ a xs, v = .ref a ∧ (SqT K H a xs ∨ SqL K H a xs) ∧ i ≤ xs.length ∧ xs.length ≤ 1000 ∧ ∀ (p : Addr) (H' : Hp), L2.Same H H' → H p = none → H' p = some (.lst (xs.drop i)) → t (xs.take i ++ [.ref p]) σ H' Q
theorem pg_starA {es : List Expr} {k : Nat} {t : TGs} {i : Nat} (hc : X.calm = true) (h : PGs X (es.map fun e => match e with | .Starred x _ => x | x => x) t)
    (he : (assignEach es X.env).map (·.2) = (assignEach (es.map fun e => match e with | .Starred x _ => x | x => x) X.env).map (·.2) := by rfl)
    (hn : (assignEach es X.env).length = i + 1 := by rfl) (hst : (assignEach es X.env).findIdx? (·.1) = some i := by rfl) : PG X (.Tuple es k pos) (gStarA X.K i t) := pg_wk (pg_star hc h he hn hst) fun v σ H Q q => by
  obtain ⟨a, xs, e1, e2, e3, e4, q⟩ := q
  exact ⟨a, xs, e1, e2, e3, e4, fun p n => q p _ (sameUpd n) n upd_same⟩
/-- C(e), by an __init__ -/
def tMakeA (C : Addr) (sp : Sp) (dvs : List V) (E : XK) (t : TA) : TE := fun σ H Q => t σ H fun vs H1 => ∀ (x dx : Addr) (H' : Hp), L2.Same H1 H' → H1 x = none → H' x = some (.ins C dx []) → sp (.ref x :: (vs ++ dvs)) H' (fun v H2 => v = .non ∧ Q (.ref x) H2) E
theorem pe_makeA {k : Nat} {CX : CXT} {C f : Addr} {fd : FuncData} {ps : List Str} {sp : Sp} {x : Str} {p : Pos} {ds : List Value} {dvs : List V} {E : XK} (M : Mk X.K C f) (F : FnOk X.prog X.w X.K X.mg X.base CX k f fd ps sp) (hr : Room (k + 1) X.A) (hg : Gl X x) (hm : X.mg x = some (.ref C)) (hb : Binds X.K fd ps ds) (hd : Vals dvs ds) (hx : Passes CX X E)
    (ha : PA X (e :: es) t) (hdb : (x == ("__debug__" : Str)) = false := by decide) (he : starEach (e :: es) X.env = (false, eval e X.env) :: starEach es X.env := by rfl) (hpl : (backTo pos (starEach es X.env)).any (·.1) = false := by rfl) :
    PE X (.Call (.Name x p) (e :: es) [] pos) (tMakeA C sp dvs E t) := pe_wk (pe_make M F hr hg hm hb hd hx (pa_up ha) hdb he hpl) fun σ H Q q =>
  ⟨_, q, fun vs H1 q1 a dx na ndx nad => q1 a dx _ ((sameUpd ndx).trans (sameUpd (by rw [upd_ne nad.symm]; exact na))) na upd_same⟩
end
theorem freeN {H H1 : Hp} {p : Addr} (n : H1 p = none) (s : L2.Same H H1) : H p = none := s.free n
theorem neF {H1 : Hp} {a b : Addr} {o : HO} (n : H1 b = none) (e : H1 a = some o) : a ≠ b := fun z => by subst z; rw [n] at e; cases e
theorem freeB {H H' : Hp} {a D : Addr} (b : But a H H') (n : H' D = none) (ne : D ≠ a) : H D = none := by
  cases e : H D with
  | none => rfl
  | some o => rw [b D o ne e] at n; cases n
/-! ### slots -/
theorem slN {l : L2.St} {i j : Nat} {v : Option V} {r : Option (Option V)} (n : Nat.beq i j = false) (h : l[j]? = r) : (l.set i v)[j]? = r := by
  rw [List.getElem?_set_ne (Nat.ne_of_beq_eq_false n)]
  exact h
theorem lnS {l : L2.St} {i j : Nat} {v : Option V} (h : Nat.blt i l.length = true) : Nat.blt i (l.set j v).length = true := by
  rw [List.length_set]
  exact h
theorem slE {l : L2.St} {i : Nat} {v : Option V} (h : Nat.blt i l.length = true) : (l.set i v)[i]? = some v := by
  rw [List.getElem?_set_self]
  exact Nat.le_of_ble_eq_true h
/-! ### by values -/
section
variable {X : Cx}
def rPartA : V → List V → Hp → VK → Prop := fun x xs H Q => ∃ (a b y1 y2 y3 : Str), x = .str a ∧ xs = [.str b] ∧ (b.length == 0) = false ∧ a.length ≤ sizeLine ∧ Nm (Txt.partition a b) (y1, y2, y3) ∧ ∀ (p : Addr) (H' : Hp), L2.Same H H' → H p = none → H' p = some (.tup [.str y1, .str y2, .str y3]) → Q (.ref p) H'
theorem mt_partA : MtR X "str.partition" rPartA := by
  intro pins s σ H x xs v us Q I rx rs h
  obtain ⟨a, b, y1, y2, y3, e1, e2, e3, e4, e5, q⟩ := h
  exact mt_partN pins s σ H x xs v us Q I rx rs ⟨a, b, y1, y2, y3, e1, e2, e3, e4, e5, al q⟩
def rSplitA : V → List V → Hp → VK → Prop := fun x xs H Q => ∃ (a b : Str) (ys : List Str), x = .str a ∧ xs = [.str b] ∧ (b.length == 0) = false ∧ a.length + 2 ≤ sizeLine ∧ Nm (Txt.split a b) ys ∧ ∀ (p : Addr) (H' : Hp), L2.Same H H' → H p = none → H' p = some (.lst (ys.map V.str)) → Q (.ref p) H'
theorem mt_splitA : MtR X "str.split" rSplitA := by
  intro pins s σ H x xs v us Q I rx rs h
  obtain ⟨a, b, ys, e1, e2, e3, e4, e5, q⟩ := h
  exact mt_splitN pins s σ H x xs v us Q I rx rs ⟨a, b, ys, e1, e2, e3, e4, e5, al q⟩
def rJoinA (K : PySem.W.Frag) : V → List V → Hp → VK → Prop := fun x xs H Q => ∃ (a : Str) (p : Addr) (ys : List Str) (z : Str), x = .str a ∧ xs = [.ref p] ∧ Nm (Str.join a ys) z ∧ SqL K H p (ys.map V.str) ∧ (ys.map (·.length)).sum + ys.length * a.length ≤ 16777216 ∧ Q (.str z) H
theorem mt_joinA : MtR X "str.join" (rJoinA X.K) := by
  intro pins s σ H x xs v us Q I rx rs h
  obtain ⟨a, p, ys, z, e1, e2, e5, e3, e4, q⟩ := h
  exact mt_joinN pins s σ H x xs v us Q I rx rs ⟨a, p, ys, z, e1, e2, e3, e4, e5, q⟩
def rSlLA (K : PySem.W.Frag) : V → Option Int → Option Int → Hp → VK → Prop := fun x lo hi H Q => ∃ (a : Addr) (xs ys : List V), x = .ref a ∧ SqL K H a xs ∧ Nm (cutV xs lo hi) ys ∧ ∀ (p : Addr) (H' : Hp), L2.Same H H' → H p = none → H' p = some (.lst ys) → Q (.ref p) H'
theorem sl_listA : SlR X (rSlLA X.K) := by
  intro pins s σ H x v vl vu lo hi sl Q I rx hs pl pu h
  obtain ⟨a, xs, ys, e1, e2, e3, q⟩ := h
  exact sl_listN pins s σ H x v vl vu lo hi sl Q I rx hs pl pu ⟨a, xs, ys, e1, e2, e3, al q⟩
def rSlTA (K : PySem.W.Frag) : V → Option Int → Option Int → Hp → VK → Prop := fun x lo hi H Q => ∃ (a : Addr) (xs ys : List V), x = .ref a ∧ SqT K H a xs ∧ ¬ (HT.sIx xs.length 0 lo = 0 ∧ HT.sIx xs.length xs.length hi = xs.length) ∧ Nm (cutV xs lo hi) ys ∧ ∀ (p : Addr) (H' : Hp), L2.Same H H' → H p = none → H' p = some (.tup ys) → Q (.ref p) H'
theorem sl_tupA2 : SlR X (rSlTA X.K) := by
  intro pins s σ H x v vl vu lo hi sl Q I rx hs pl pu h
  obtain ⟨a, xs, ys, e1, e2, e0, e3, q⟩ := h
  exact sl_tupN pins s σ H x v vl vu lo hi sl Q I rx hs pl pu ⟨a, xs, ys, e1, e2, e0, e3, al q⟩
def rCatTA (K : PySem.W.Frag) : R2 := fun x y H Q => ∃ (a b : Addr) (xs ys : List V), x = .ref a ∧ y = .ref b ∧ SqT K H a xs ∧ SqT K H b ys ∧ xs.length + ys.length ≤ sizeLine ∧ xs ≠ [] ∧ ys ≠ [] ∧ ∀ (p : Addr) (H' : Hp), L2.Same H H' → H p = none → H' p = some (.tup (xs ++ ys)) → Q (.ref p) H'
theorem op_catTA : OpR X (binaryOp .Add) (rCatTA X.K) := by
  intro pins s σ H x y v u Q I rx ry h
  obtain ⟨a, b, xs, ys, e1, e2, h1, h2, hl, n1, n2, q⟩ := h
  exact op_catN pins s σ H x y v u Q I rx ry ⟨a, b, xs, ys, e1, e2, h1, h2, hl, n1, n2, al q⟩
def rCatLA : R2 := fun x y H Q => ∃ (a b : Addr) (xs ys : List V), x = .ref a ∧ y = .ref b ∧ H a = some (.lst xs) ∧ H b = some (.lst ys) ∧ xs.length + ys.length ≤ sizeLine ∧ ∀ (p : Addr) (H' : Hp), L2.Same H H' → H p = none → H' p = some (.lst (xs ++ ys)) → Q (.ref p) H'
theorem op_catLA : OpR X (binaryOp .Add) rCatLA := by
  intro pins s σ H x y v u Q I rx ry h
  obtain ⟨a, b, xs, ys, e1, e2, h1, h2, hl, q⟩ := h
  exact op_cat pins s σ H x y v u Q I rx ry ⟨a, b, xs, ys, e1, e2, h1, h2, hl, al q⟩
def rDictA : List V → Hp → VK → Prop := fun xs H Q => ∃ (a : Addr) (kvs : List (Key × V)), xs = [.ref a] ∧ H a = some (.dK kvs) ∧ ∀ (p : Addr) (H' : Hp), L2.Same H H' → H p = none → H' p = some (.dK kvs) → Q (.ref p) H'
theorem call_dictA : CallR X (.type "dict") rDictA := by
  intro pins s σ H xs us Q I r h
  obtain ⟨a, kvs, e1, e2, q⟩ := h
  exact call_dictD pins s σ H xs us Q I r ⟨a, kvs, e1, .inl e2, al q⟩
def rSortDA : List V → Hp → VK → Prop := fun xs H Q => ∃ (a : Addr) (kvs : List (Key × V)) (ks : List Str), xs = [.ref a] ∧ H a = some (.dK kvs) ∧ Nm (kvs.map (·.1)) (ks.map Sum.inr) ∧ ks.length < 64 ∧
    ∀ (ys : List Str) (p : Addr) (H' : Hp), ys.Perm ks → sortedS ys = true → L2.Same H H' → H p = none → H' p = some (.lst (ys.map V.str)) → Q (.ref p) H'
theorem call_sortDA (hc : X.calm = true) : CallR X (.builtin "sorted") rSortDA := by
  intro pins s σ H xs us Q I r h
  obtain ⟨a, kvs, ks, e1, e2, e3, e4, q⟩ := h
  exact call_sortedD hc pins s σ H xs us Q I r ⟨a, kvs, ks, e1, .inl e2, e3.h, e4, fun ys p h1 h2 => al (fun p H' s n e => q ys p H' h1 h2 s n e) p⟩
def rSortSA (K : PySem.W.Frag) : List V → Hp → VK → Prop := fun vs H Q => ∃ (a : Addr) (xs : List Str), vs = [V.ref a] ∧ SqL K H a (xs.map V.str) ∧ xs.length < 64 ∧ ∀ (ys : List Str) (p : Addr) (H' : Hp), ys.Perm xs → sortedS ys = true → L2.Same H H' → H p = none → H' p = some (.lst (ys.map V.str)) → Q (.ref p) H'
theorem cr_sortSA : CallR X (.builtin "sorted") (rSortSA X.K) := by
  intro pins s σ H xs us Q I r h
  obtain ⟨a, xs, e1, e2, e3, q⟩ := h
  exact cr_sortedS pins s σ H _ us Q I r ⟨a, xs, e1, e2, e3, fun ys p h1 h2 => al (fun p H' s n e => q ys p H' h1 h2 s n e) p⟩
/-- tuple(list) -/
def rTupleA (K : PySem.W.Frag) : List V → Hp → VK → Prop := fun vs H Q => ∃ (a : Addr) (xs : List V), vs = [V.ref a] ∧ SqL K H a xs ∧ ∀ (p : Addr) (H' : Hp), L2.Same H H' → H p = none → H' p = some (.tup xs) → Q (.ref p) H'
theorem call_tupleA : CallR X (.type "tuple") (rTupleA X.K) := by
  intro pins s σ H xs us Q I r h
  obtain ⟨a, xs, e1, e2, q⟩ := h
  exact call_tuple_of pins s σ H _ us Q I r ⟨a, xs, e1, .inl ⟨e2, al q⟩⟩
def rAppA : V → List V → Hp → VK → Prop := fun x vs H Q => ∃ (l : Addr) (xs : List V) (y : V), x = .ref l ∧ vs = [y] ∧ H l = some (.lst xs) ∧ xs.length < sizeLine ∧ ∀ H', But l H H' → Kp H H' → H' l = some (.lst (xs ++ [y])) → Q .non H'
theorem mt_appA : MtM X "list.append" rAppA := by
  intro pins s σ H x xs v us Q I rx rs h
  obtain ⟨l, xs, y, e1, e2, e3, e4, q⟩ := h
  exact mt_append pins s σ H x _ v us Q I rx rs ⟨l, xs, y, e1, e2, e3, e4, q _ (But.upd _ _ _) (kpL e3) upd_same⟩
def rExtA : V → List V → Hp → VK → Prop := fun x vs H Q => ∃ (l b : Addr) (xs zs : List V), x = .ref l ∧ vs = [.ref b] ∧ H l = some (.lst xs) ∧ H b = some (.lst zs) ∧ xs.length + zs.length ≤ sizeLine ∧ ∀ H', But l H H' → Kp H H' → H' l = some (.lst (xs ++ zs)) → Q .non H'
theorem mt_extA : MtM X "list.extend" rExtA := by
  intro pins s σ H x xs v us Q I rx rs h
  obtain ⟨l, b, xs, zs, e1, e2, e3, e4, e5, q⟩ := h
  exact mt_extend pins s σ H x _ v us Q I rx rs ⟨l, b, xs, zs, e1, e2, e3, e4, e5, q _ (But.upd _ _ _) (kpL e3) upd_same⟩
def rSetLA : V → V → V → Hp → (Hp → Prop) → Prop := fun o i v H Q => ∃ (p : Addr) (xs ys : List V) (k : Int) (j : Nat), o = .ref p ∧ i = .int k ∧ H p = some (.lst xs) ∧ ixN xs.length k = some j ∧ Nm (xs.set j v) ys ∧ ∀ H', But p H H' → Kp H H' → H' p = some (.lst ys) → Q H'
theorem set_listA : PSet X rSetLA := by
  intro pins s σ H o i v ov iv u Q I ro ri rv h
  obtain ⟨p, xs, ys, k, j, e1, e2, e3, e4, e5, q⟩ := h
  exact set_list pins s σ H o i v ov iv u Q I ro ri rv ⟨p, xs, k, j, e1, e2, e3, e4, e5.h ▸ q _ (But.upd _ _ _) (kpL e3) upd_same⟩
end
/-! ### a dict that is locked while it is walked -/
section
variable {X : Cx} {st : Stmt} {t : TS}
def upS (t : TS) : TS := fun D σ H => ∃ D0 : Ends, t D0 σ H ∧ (∀ σ' H', D0.nx σ' H' → D.nx σ' H') ∧ (∀ v H', D0.rt v H' → D.rt v H') ∧ (∀ σ' H', D0.bk σ' H' → D.bk σ' H') ∧ ∀ σ' H', D0.ct σ' H' → D.ct σ' H'
theorem ps_up (h : PS X st t) : PS X st (upS t) := ⟨fun pins s σ H D I ⟨D0, q, w1, w2, w3, w4⟩ => wpAny_mono (h.run pins s σ H D0 I q) (fun f s1 r => by
  cases f with
  | next => obtain ⟨σ', H', I, q⟩ := r; exact ⟨σ', H', I, w1 _ _ q⟩
  | brk => obtain ⟨σ', H', I, q⟩ := r; exact ⟨σ', H', I, w3 _ _ q⟩
  | cont => obtain ⟨σ', H', I, q⟩ := r; exact ⟨σ', H', I, w4 _ _ q⟩
  | ret u => obtain ⟨v, σ', H', I, rr, q⟩ := r; exact ⟨v, σ', H', I, rr, w2 _ _ q⟩) fun _ _ x => x⟩
theorem tsFrz {H : Hp} {d : Addr} {od : Obj} {kvs : List (Key × V)} {u : HO} (e : H d = some (.frz od (.dK kvs))) : Ts H (upd H d u) := fun b xs q => by
  rw [upd_ne (fun z => by subst z; rw [e] at q; cases q)]
  exact q
def tLockA (t : TS) : TS := fun D σ H => ∃ (d : Addr) (kvs : List (Key × V)), H d = some (.dK kvs) ∧ ∀ (od : Obj) (HF : Hp), But d H HF → Ts H HF → HF d = some (.frz od (.dK kvs)) →
  t ⟨fun σ' H' => H' d = some (.frz od (.dK kvs)) ∧ ∀ Hz, But d H' Hz → Ts H' Hz → Hz d = some (.dK kvs) → D.nx σ' Hz, fun v H' => H' d = some (.frz od (.dK kvs)) ∧ ∀ Hz, But d H' Hz → Ts H' Hz → Hz d = some (.dK kvs) → D.rt v Hz,
    fun σ' H' => H' d = some (.frz od (.dK kvs)) ∧ ∀ Hz, But d H' Hz → Ts H' Hz → Hz d = some (.dK kvs) → D.bk σ' Hz, fun σ' H' => H' d = some (.frz od (.dK kvs)) ∧ ∀ Hz, But d H' Hz → Ts H' Hz → Hz d = some (.dK kvs) → D.ct σ' Hz⟩ σ HF
theorem ps_lockA (h : PS X st t) : PS X st (tLockA t) := ps_wk (ps_lock (ps_up h)) fun D σ H q => by
  obtain ⟨d, kvs, e, q⟩ := q
  refine ⟨d, .dK kvs, e, True.intro, fun od => ⟨_, q od _ (But.upd _ _ _) (tsD e) upd_same, ?_, ?_, ?_, ?_⟩⟩ <;>
  · intro x H' r
    exact ⟨r.1, r.2 _ (But.upd _ _ _) (tsFrz r.1) upd_same⟩
theorem sameLock {H Hz : Hp} {d : Addr} {o : HO} (e : H d = some o) (e2 : Hz d = some o) (b : But d H Hz) : L2.Same H Hz := fun q u h => by
  by_cases n : q = d
  · subst n
    rw [e] at h
    cases h
    exact e2
  · exact b q u n h
end
theorem Web.mk {K : PySem.W.Frag} {H : Hp} {a : Addr} {kvs : List (Key × V)} {W : List (Str × PyData)} (h : H a = some (.dK kvs)) (g : Ents K H kvs W) : Web K H a W := ⟨kvs, h, g⟩
section
variable {J : It} {n : Nat} {G : Hp → Prop} {Y : Nat → Hp → V → Hp → Prop}
/-- a dict comprehension over it -/
theorem dc_it (w : Walk J n G Y) {g : TG} {tt : TT} {tk tv : TE} {vs : List Nat} {σ : L2.St} {H1 : Hp} {D : Addr} {Qd : Hp → Prop} (Pv : Nat → Hp → Prop) (h0 : Pv 0 (upd H1 D (.dK []))) (hG : ∀ i H, i ≤ n → Pv i H → G H)
    (hs : ∀ i x H H', i < n → Pv i H → Y i H x H' → g x (wipe σ vs) H' fun σ2 H2 => wipe σ2 vs = wipe σ vs ∧ tt σ2 H2 fun b H3 =>
      if b = true then tk σ2 H3 fun y H4 => tv σ2 H4 fun z H5 => ∃ kvs k, y = kV k ∧ H5 D = some (.dK kvs) ∧ kvs.length < sizeLine ∧ Pv (i + 1) (upd H5 D (.dK (putK kvs k z))) else Pv (i + 1) H3) (hd : ∀ H, Pv n H → Qd H) :
    ∃ W : Nat → Nat → Hp → Prop, (∃ m, W 0 m (upd H1 D (.dK []))) ∧ ∀ i m H, W i m H →
      (J.stop i H ∧ Qd H) ∨ (J.go i H ∧ ∃ Nx : Hp → Prop, (∀ H', Nx H' → ∃ m', m' < m ∧ W (i + 1) m' H') ∧ ∀ x H', J.yld i H x H' → g x (wipe σ vs) H' fun σ2 H2 => wipe σ2 vs = wipe σ vs ∧ tt σ2 H2 fun b H3 =>
        if b = true then tk σ2 H3 fun y H4 => tv σ2 H4 fun z H5 => ∃ kvs k, y = kV k ∧ H5 D = some (.dK kvs) ∧ kvs.length < sizeLine ∧ Nx (upd H5 D (.dK (putK kvs k z))) else Nx H3) := by
  refine ⟨fun i m H => m = n - i ∧ i ≤ n ∧ Pv i H, ⟨n, by simp, Nat.zero_le _, h0⟩, ?_⟩
  rintro i m H ⟨rfl, hi, p⟩
  have q := hG i H hi p
  by_cases hlt : i < n
  · refine .inr ⟨w.goes i H hlt q, Pv (i + 1), fun H' p' => ⟨n - (i + 1), by omega, rfl, hlt, p'⟩, fun x H' y => hs i x H H' hlt p (w.yields i H x H' hlt q y)⟩
  · have e : i = n := by omega
    subst e
    exact .inl ⟨w.stops H q, hd H p⟩
end
end Wn

/-! Data that can be compared and shown; the program's things are such. -/
namespace Wn
open PySem PySem.Spec PyProof.Rows L2 TL
structure Fit (d : PyData) (k m : Nat) : Prop where
  lay : d.canLay0 = true
  sho : d.showable = true
  dep : d.depth ≤ k
  len : d.shown.length ≤ m
structure FitA (ds : List PyData) (k m n : Nat) : Prop where
  lay : PyData.canLayAll0 ds = true
  sho : PyData.showableAll ds = true
  dep : PyData.depthAll ds ≤ k
  len : ((PyData.shownAll ds).map (·.length)).sum ≤ n * m
  cnt : (PyData.shownAll ds).length ≤ n
section
variable {d : PyData} {ds : List PyData} {k m n k' m' : Nat}
theorem Fit.mono (h : Fit d k m) (hk : k ≤ k' := by decide) (hm : m ≤ m' := by decide) : Fit d k' m' := ⟨h.lay, h.sho, Nat.le_trans h.dep hk, Nat.le_trans h.len hm⟩
theorem Fit.shaped (h : Fit d k m) (hk : k ≤ 64 := by decide) : SeqAt.shaped d = true := by
  unfold SeqAt.shaped
  rw [h.lay, Bool.true_and]
  exact decide_eq_true (Nat.le_trans h.dep hk)
theorem Fit.nod (h : Fit d k m) : d.hasDict = false := PyData.hasDict_of_canLay d h.lay
theorem fit_str {x : Str} (h : PyData.strOk x = true) (hl : x.length ≤ n) (hm : 10 * n + 2 ≤ m := by decide) : Fit (.str x) k m := by
  refine ⟨by simpa only [PyData.canLay0] using h, by simp only [PyData.showable], by simp only [PyData.depth]; exact Nat.zero_le _, ?_⟩
  have e := PySem.StrLaws.reprText_len x (by
    have h0 : x.cps.all (· < 0x110000) = true := by simpa only [PyData.strOk] using h
    intro c hcm
    have := (Array.all_eq_true_iff_forall_mem.mp h0) c (Array.mem_toList_iff.mp hcm)
    have z : c < 0x110000 := by simpa using this
    exact Nat.lt_trans z (by decide))
  simp only [PyData.shown]
  omega
theorem fit_int {n : Nat} (h : n < big) (hm : 101 ≤ m := by decide) : Fit (.int n) k m := by
  refine ⟨by simp only [PyData.canLay0], ?_, by simp only [PyData.depth]; exact Nat.zero_le _, ?_⟩
  · simp only [PyData.showable]
    have : ((n : Nat) : Int).natAbs.log2 < 1920 := by
      rw [Int.natAbs_natCast]
      have h2 : n < 2 ^ 1920 := Nat.lt_trans h (by decide)
      by_cases z : n = 0
      · subst z; decide
      · exact (Nat.log2_lt z).mpr h2
    exact decide_eq_true this
  · have := num_le0 h
    simp only [PyData.shown]
    unfold num at this
    exact Nat.le_trans this (by omega)
theorem fit_none (hm : 5 ≤ m := by decide) : Fit .none k m := ⟨by simp only [PyData.canLay0], by simp only [PyData.showable], by simp only [PyData.depth]; exact Nat.zero_le _, by simp only [PyData.shown]; exact Nat.le_trans (by decide) hm⟩
theorem fit_bool {b : Bool} (hm : 5 ≤ m := by decide) : Fit (.bool b) k m := ⟨by simp only [PyData.canLay0], by simp only [PyData.showable], by simp only [PyData.depth]; exact Nat.zero_le _, by simp only [PyData.shown]; exact Nat.le_trans (by cases b <;> decide) hm⟩
theorem fitA : ∀ {ds : List PyData}, (∀ d ∈ ds, Fit d k m) → FitA ds k m ds.length
  | [], _ => ⟨by simp only [PyData.canLayAll0], by simp only [PyData.showableAll], by simp only [PyData.depthAll]; exact Nat.zero_le _, by simp [PyData.shownAll], by simp [PyData.shownAll]⟩
  | d :: ds, h => by
    have h1 := h d List.mem_cons_self
    have h2 := fitA (ds := ds) fun x hx => h x (List.mem_cons_of_mem _ hx)
    refine ⟨?_, ?_, ?_, ?_, ?_⟩
    · simp only [PyData.canLayAll0, h1.lay, h2.lay, Bool.and_self]
    · simp only [PyData.showableAll, h1.sho, h2.sho, Bool.and_self]
    · simp only [PyData.depthAll]
      exact Nat.max_le.mpr ⟨h1.dep, h2.dep⟩
    · simp only [PyData.shownAll, List.map_cons, List.sum_cons, List.length_cons, Nat.add_mul]
      have := h1.len
      have := h2.len
      omega
    · simp only [PyData.shownAll, List.length_cons]
      have := h2.cnt
      omega
theorem fit_tup (h : ∀ d ∈ ds, Fit d k m) (hn : ds.length ≤ n) (hm : n * m + 2 * n + 3 ≤ m' := by decide) (hk : k + 1 ≤ k' := by decide) : Fit (.tuple ds) k' m' := by
  have z := fitA h
  have z2 := tupleText_len_le (PyData.shownAll ds)
  have z3 := z.len
  have z4 := z.cnt
  have z5 : ds.length * m ≤ n * m := Nat.mul_le_mul_right _ hn
  refine ⟨by simp only [PyData.canLay0]; exact z.lay, by simp only [PyData.showable]; exact z.sho, ?_, ?_⟩
  · simp only [PyData.depth]
    have := z.dep
    omega
  · simp only [PyData.shown]
    omega
theorem fit_lst (h : ∀ d ∈ ds, Fit d k m) (hn : ds.length ≤ n) (hm : n * m + 2 * n + 3 ≤ m' := by decide) (hk : k + 1 ≤ k' := by decide) : Fit (.list ds) k' m' := by
  have z := fitA h
  have z2 := listText_len_le (PyData.shownAll ds)
  have z3 := z.len
  have z4 := z.cnt
  have z5 : ds.length * m ≤ n * m := Nat.mul_le_mul_right _ hn
  refine ⟨by simp only [PyData.canLay0]; exact z.lay, by simp only [PyData.showable]; exact z.sho, ?_, ?_⟩
  · simp only [PyData.depth]
    have := z.dep
    omega
  · simp only [PyData.shown]
    omega
end
/-! a written text of few signs -/
theorem fit_s {x : Str} {k m : Nat} (h : PyData.strOk x = true := by decide +kernel) (hl : x.length ≤ 80 := by decide +kernel) (hm : 812 ≤ m := by decide) : Fit (.str x) k m := fit_str h hl (Nat.le_trans (by decide) hm)
theorem WordOk.strOk {x : Str} (h : WordOk x) : PyData.strOk x = true := (show PartOk x from .inl h).strOk
theorem TextOk.strOk {x : Str} (h : TextOk x) : PyData.strOk x = true := strOk_of fun c hc => (h.2 c hc).2
theorem fit_path {x : Str} (h : PathOk x) {k : Nat} : Fit (.str x) k 812 := fit_str h.strOk h.len
theorem fit_text {x : Str} (h : TextOk x) {k : Nat} : Fit (.str x) k 812 := fit_str h.strOk h.1
theorem fit_word {x : Str} (h : WordOk x) {k : Nat} : Fit (.str x) k 812 := fit_str h.strOk h.2.1
theorem fit_cnt {c : Option Nat} (h : CntOk c) {k : Nat} : Fit (cntD c) k 812 := by
  cases c with
  | none => exact fit_none
  | some n => exact fit_int h
theorem fit_own {c : Option Str} (h : ∀ x, c = some x → WordOk x) {k : Nat} : Fit (ownD c) k 812 := by
  cases c with
  | none => exact fit_none
  | some x => exact fit_word (h x rfl)
theorem fit_1 {d1 : PyData} {k m : Nat} (h1 : Fit d1 k m) : ∀ d ∈ [d1], Fit d k m := by
  intro d hd
  rcases List.mem_singleton.mp hd with rfl
  exact h1
theorem fit_c {d1 : PyData} {ds : List PyData} {k m : Nat} (h1 : Fit d1 k m) (h2 : ∀ d ∈ ds, Fit d k m) : ∀ d ∈ d1 :: ds, Fit d k m := by
  intro d hd
  rcases List.mem_cons.mp hd with rfl | hd
  · exact h1
  · exact h2 d hd
theorem fit_nil {k m : Nat} : ∀ d ∈ ([] : List PyData), Fit d k m := fun d hd => by cases hd
theorem Pl.fit {p : Pl} (h : p.Ok) : Fit p.d 1 4100 := by
  cases p with
  | make x t o n => exact fit_tup (n := 5) (k := 0) (m := 812) (fit_c fit_s (fit_c (fit_path h.1) (fit_c (fit_text h.2.2.1) (fit_c fit_bool (fit_c fit_bool fit_nil))))) (by simp)
  | put x t c => exact fit_tup (n := 5) (k := 0) (m := 812) (fit_c fit_s (fit_c (fit_path h.1) (fit_c (fit_text h.2.1) (fit_c (fit_cnt h.2.2) fit_nil)))) (by simp)
  | drop x c => exact fit_tup (n := 5) (k := 0) (m := 812) (fit_c fit_s (fit_c (fit_path h.1) (fit_c (fit_cnt h.2.2) fit_nil))) (by simp)
  | see x c => exact fit_tup (n := 5) (k := 0) (m := 812) (fit_c fit_s (fit_c (fit_path h.1) (fit_c (fit_cnt h.2) fit_nil))) (by simp)
theorem big_lt {n m : Nat} (h : n ≤ m) (hm : m ≤ 10 ^ 50 := by decide) : n < big := Nat.lt_of_le_of_lt (Nat.le_trans h hm) (by decide)
theorem Pl.fits {ps : List Pl} (h : ∀ p ∈ ps, p.Ok) : ∀ d ∈ ps.map Pl.d, Fit d 1 4100 := by
  intro d hd
  obtain ⟨p, hp, rfl⟩ := List.mem_map.mp hd
  exact Pl.fit (h p hp)
theorem De.fit {e : De} (h : e.Ok) : Fit e.d 3 50000 := by
  cases e with
  | plain p => exact (Pl.fit h).mono
  | all ps =>
    refine fit_tup (n := 2) (k := 2) (m := 24640) (fit_c fit_s (fit_c (fit_tup (n := 6) (k := 1) (m := 4100) (Pl.fits h.2.2) ?_) fit_nil)) (by simp)
    rw [List.length_map]
    exact h.2.1
  | opn n => exact fit_tup (n := 2) (k := 0) (m := 812) (fit_c fit_s (fit_c (fit_int (big_lt h.2)) fit_nil)) (by simp)
  | close => exact fit_tup (n := 2) (k := 0) (m := 812) (fit_c fit_s fit_nil) (by simp)
  | bring => exact fit_tup (n := 2) (k := 0) (m := 812) (fit_c fit_s fit_nil) (by simp)
theorem En.fit {e : En} (h : e.Ok) : Fit e.d 4 210000 := by
  cases e with
  | ask w s d => exact fit_tup (n := 4) (k := 3) (m := 50000) (fit_c fit_s (fit_c ((fit_word h.1 (k := 3)).mono (Nat.le_refl _) (by decide)) (fit_c (fit_int h.2.2.1) (fit_c (De.fit h.2.2.2) fit_nil)))) (by simp)
  | fin w => exact fit_tup (n := 2) (k := 0) (m := 812) (fit_c fit_s (fit_c (fit_word h) fit_nil)) (by simp)
theorem plD_fit {p : Place} (h : PlaceOk p) {k : Nat} : Fit (plD p) (k + 1) 812 := fit_tup (n := 2) (k := 0) (m := 101) (fit_c (fit_int h.1) (fit_c (fit_int h.2) fit_nil)) (by simp) (by decide) (by omega)
theorem thD_fit {t : Thing} (h : t.Ok) : Fit (thD t) 5 430000 := fit_tup (n := 2) (k := 4) (m := 210000) (fit_c (plD_fit (k := 3) h.1).mono (fit_c (En.fit h.2) fit_nil)) (by simp)
theorem row_fit {ts : List Thing} (h : ∀ t ∈ ts, t.Ok) (h14 : ts.length ≤ 14) : Fit (.list (ts.map thD)) 6 6100000 := by
  refine fit_lst (n := 14) (k := 5) (m := 430000) (fun d hd => ?_) (by rw [List.length_map]; exact h14)
  obtain ⟨t, ht, rfl⟩ := List.mem_map.mp hd
  exact thD_fit (h t ht)
theorem Nd.fit {e : Nd} (h : e.Ok) : Fit e.d 1 4100 := fit_tup (n := 4) (k := 0) (m := 812) (fit_c (fit_text h.1) (fit_c (fit_int h.2.1) (fit_c (fit_int h.2.2.1) (fit_c (fit_own h.2.2.2) fit_nil)))) (by simp)
def nodeD (p : Str × Nd) : PyData := .tuple [.str p.1, p.2.d]
theorem nodeD_fit {p : Str × Nd} (h1 : PathOk p.1) (h2 : p.2.Ok) : Fit (nodeD p) 2 8300 := fit_tup (n := 2) (k := 1) (m := 4100) (fit_c ((fit_path h1).mono (Nat.le_refl _) (by decide)) (fit_c (Nd.fit h2) fit_nil)) (by simp)
theorem nodes_fit {ps : Nds} (h : ∀ p ∈ ps, PathOk p.1 ∧ p.2.Ok) (hl : ps.length ≤ 60) : Fit (.list (ps.map nodeD)) 3 600000 := by
  refine fit_lst (n := 60) (k := 2) (m := 8300) (fun d hd => ?_) (by rw [List.length_map]; exact hl)
  obtain ⟨p, hp, rfl⟩ := List.mem_map.mp hd
  exact nodeD_fit (h p hp).1 (h p hp).2
/-! ### equal data -/
mutual
theorem eqv_refl : ∀ d : PyData, d.canLay0 = true → PyData.eqv d d = true
  | .none, _ => by simp only [PyData.eqv]
  | .bool b, _ => by simp [PyData.eqv]
  | .int i, _ => by simp [PyData.eqv]
  | .str x, _ => by simp [PyData.eqv]
  | .list xs, h => by
    simp only [PyData.eqv]
    exact eqvAll_refl xs (by simpa only [PyData.canLay0] using h)
  | .tuple xs, h => by
    simp only [PyData.eqv]
    exact eqvAll_refl xs (by simpa only [PyData.canLay0] using h)
  | .dict _, h => by simp [PyData.canLay0] at h
theorem eqvAll_refl : ∀ ds : List PyData, PyData.canLayAll0 ds = true → PyData.eqvAll ds ds = true
  | [], _ => by simp only [PyData.eqvAll]
  | d :: ds, h => by
    have h' : d.canLay0 = true ∧ PyData.canLayAll0 ds = true := by simpa only [PyData.canLayAll0, Bool.and_eq_true] using h
    simp only [PyData.eqvAll, eqv_refl d h'.1, eqvAll_refl ds h'.2, Bool.and_self]
end
/-- data without truths: alike only where they are the same -/
theorem eqv_nd {a b : Nd} (h : PyData.eqv a.d b.d = true) : a = b := by
  obtain ⟨t1, c1, m1, o1⟩ := a
  obtain ⟨t2, c2, m2, o2⟩ := b
  have h : (t1 == t2 && (((c1 : Nat) : Int) == ((c2 : Nat) : Int) && (((m1 : Nat) : Int) == ((m2 : Nat) : Int) && (PyData.eqv (ownD o1) (ownD o2) && true)))) = true := by
    simpa only [Nd.d, PyData.eqv, PyData.eqvAll] using h
  simp only [Bool.and_eq_true, beq_iff_eq, Int.ofNat_inj] at h
  obtain ⟨e1, e2, e3, e4, _⟩ := h
  subst e1 e2 e3
  cases o1 with
  | none =>
    cases o2 with
    | none => rfl
    | some y => simp [ownD, PyData.eqv] at e4
  | some x =>
    cases o2 with
    | none => simp [ownD, PyData.eqv] at e4
    | some y =>
      have : x = y := by simpa [ownD, PyData.eqv] using e4
      rw [this]
end Wn

/-! What the deeds keep of the nodes and the sessions: plain Lean. -/
namespace Wn
open PySem PySem.Spec PyProof.Rows L2 TL
theorem join_snoc {y w s : Str} {ps : List Str} : Str.join y (ps ++ [w]) ++ s = Str.join y (ps ++ [w ++ s]) := by
  by_cases h : ps = []
  · subst h; rfl
  · rw [join_app h (by simp), join_app h (by simp)]
    show Str.join y ps ++ y ++ w ++ s = Str.join y ps ++ y ++ (w ++ s)
    rw [PySem.Str.append_assoc]
theorem pathT_snoc {w s : Str} {ps : List Str} : pathT (ps ++ [w]) ++ s = pathT (ps ++ [w ++ s]) := by
  unfold pathT
  rw [PySem.Str.append_assoc, join_snoc]
theorem pad6_figs {n : Nat} (h : n ≤ 999999) : (pad6 n).length = 6 ∧ FigsOk (pad6 n) := by
  have h6 : (num n).length ≤ 6 := num_len (by decide) (by omega)
  have e := pad_tl (num n) 6 48
  have el := len_tl (num n)
  unfold pad6
  constructor
  · rw [len_tl, e]
    split
    · omega
    · rw [List.length_append, List.length_replicate, ← len_tl]
      omega
  · intro c hc
    rw [e] at hc
    split at hc
    · exact num_signs n c hc
    · rcases List.mem_append.mp hc with hc | hc
      · have := (List.mem_replicate.mp hc).2
        omega
      · exact num_signs n c hc
theorem numT_ok {ps : List Str} {w : Str} {m : Nat} (ok : PartsOk (ps ++ [w])) (hw : WordOk w) (hm : m ≤ 999999) : PathOk (numT (pathT (ps ++ [w])) m) ∧ parentOf (numT (pathT (ps ++ [w])) m) = parentOf (pathT (ps ++ [w])) := by
  have e : numT (pathT (ps ++ [w])) m = pathT (ps ++ [w ++ "-" ++ pad6 m]) := by
    unfold numT
    rw [pathT_snoc, pathT_snoc]
  have h6 := pad6_figs hm
  have ok2 : PartsOk (ps ++ [w ++ "-" ++ pad6 m]) := by
    refine ⟨by have := ok.1; simp only [List.length_append, List.length_singleton] at this ⊢; exact this, fun p hp => ?_⟩
    rcases List.mem_append.mp hp with hp | hp
    · exact ok.2 p (List.mem_append.mpr (.inl hp))
    · rw [List.mem_singleton.mp hp]
      exact .inr ⟨w, pad6 m, rfl, hw, h6.1, h6.2⟩
  rw [e, parentOf_pathT ok2.2, parentOf_pathT ok.2, List.dropLast_concat, List.dropLast_concat]
  exact ⟨⟨_, ok2, rfl⟩, rfl⟩
/-- the path that a make gets -/
def newP (x : Str) (n : Bool) (e : Nd) : Str := if n = true then numT x e.made else x
theorem newP_ok {x t : Str} {o n : Bool} {e : Nd} (h : (Pl.make x t o n).Ok) (hm : n = true → e.made ≤ 999999) : PathOk (newP x n e) ∧ parentOf (newP x n e) = parentOf x := by
  unfold newP
  cases n with
  | false => exact ⟨h.1, rfl⟩
  | true =>
    obtain ⟨ps, w, rfl, h1, h2⟩ := h.2.2.2 rfl
    exact numT_ok h1 h2 (hm rfl)
theorem makeM_cases (W : Nds) (who x t : Str) (o n : Bool) : (makeM W who x t o n = (W, .no "parent") ∨ makeM W who x t o n = (W, .no "own") ∨ makeM W who x t o n = (W, .no "there") ∨ makeM W who x t o n = (W, .no "full")) ∨
    ∃ e, lkA W (parentOf x) = some e ∧ e.owner = none ∧ lkA W (newP x n e) = none ∧ W.length < 60 ∧ (n = true → e.made ≤ 999999) ∧ makeM W who x t o n = (putM W who x t o e (newP x n e), .ok (.str (newP x n e))) := by
  unfold makeM
  cases h1 : lkA W (parentOf x) with
  | none => exact .inl (.inl rfl)
  | some e =>
    simp only
    by_cases h2 : e.owner.isSome = true
    · rw [if_pos h2]
      exact .inl (.inr (.inl rfl))
    rw [if_neg h2]
    have en : (if n = true then numT x e.made else x) = newP x n e := rfl
    rw [en]
    by_cases h3 : (lkA W (newP x n e)).isSome = true
    · rw [if_pos h3]
      exact .inl (.inr (.inr (.inl rfl)))
    rw [if_neg h3]
    by_cases h4 : 60 ≤ W.length ∨ (n = true ∧ 999999 < e.made)
    · rw [if_pos h4]
      exact .inl (.inr (.inr (.inr rfl)))
    rw [if_neg h4]
    refine .inr ⟨e, rfl, ?_, ?_, by omega, fun hn => ?_, rfl⟩
    · cases h : e.owner with
      | none => rfl
      | some y => rw [h] at h2; exact absurd rfl h2
    · cases h : lkA W (newP x n e) with
      | none => rfl
      | some y => rw [h] at h3; exact absurd rfl h3
    · exact Nat.le_of_not_lt fun z => h4 (.inr ⟨hn, z⟩)
section
variable {B B' : Nat} {W : Nds}
theorem NdsOk.mono (h : NdsOk B W) (hb : B ≤ B') : NdsOk B' W := ⟨h.nd, h.path, h.size, fun p hp => ⟨Nat.le_trans (h.cnt p hp).1 hb, Nat.le_trans (h.cnt p hp).2 hb⟩⟩
theorem mem_key {x : Str} {e : Nd} (h : lkA W x = some e) : x ∈ W.map (·.1) := List.mem_map.mpr ⟨_, lkA_mem h, rfl⟩
theorem NdsOk.put (h : NdsOk B W) {x : Str} {e e' : Nd} (hk : lkA W x = some e) (hc : e'.count ≤ B') (hm : e'.made ≤ B') (hb : B ≤ B') : NdsOk B' (putA W x e') := by
  refine ⟨putA_nodup h.nd, fun p hp => ?_, ?_, fun p hp => ?_⟩
  · rcases putA_mem hp with rfl | ⟨hp, _⟩
    · exact h.path (x, e) (lkA_mem hk)
    · exact h.path _ hp
  · have := putA_keys_old (W := W) (k := x) (d := e') (mem_key hk)
    have z : (putA W x e').length = W.length := by
      have := congrArg List.length this
      rw [List.length_map, List.length_map] at this
      exact this
    rw [z]
    exact h.size
  · rcases putA_mem hp with rfl | ⟨hp, _⟩
    · exact ⟨hc, hm⟩
    · exact (h.mono hb).cnt _ hp
theorem NdsOk.sub (h : NdsOk B W) {W' : Nds} (s : W'.Sublist W) : NdsOk B W' :=
  ⟨List.Nodup.sublist (List.Sublist.map _ s) h.nd, fun p hp => h.path p (s.subset hp), Nat.le_trans s.length_le h.size, fun p hp => h.cnt p (s.subset hp)⟩
theorem NdsOk.putM (h : NdsOk B W) {who x t q : Str} {o : Bool} {e : Nd} (hk : lkA W (parentOf x) = some e) (hq : PathOk q) (hl : W.length < 60) : NdsOk (B + 1) (putM W who x t o e q) := by
  unfold Wn.putM
  have c := h.cnt _ (lkA_mem hk)
  have h1 : NdsOk (B + 1) (putA W (parentOf x) { e with made := e.made + 1 }) := h.put hk (Nat.le_succ_of_le c.1) (Nat.succ_le_succ c.2) (Nat.le_succ _)
  have hlen : (putA W (parentOf x) { e with made := e.made + 1 }).length = W.length := by
    have z := congrArg List.length (putA_keys_old (W := W) (k := parentOf x) (d := { e with made := e.made + 1 }) (mem_key hk))
    rw [List.length_map, List.length_map] at z
    exact z
  refine ⟨putA_nodup h1.nd, fun p hp => ?_, ?_, fun p hp => ?_⟩
  · rcases putA_mem hp with rfl | ⟨hp, _⟩
    · exact hq
    · exact h1.path _ hp
  · have := putA_length_le (putA W (parentOf x) { e with made := e.made + 1 }) q ⟨t, 0, 0, if o = true then some who else none⟩
    omega
  · rcases putA_mem hp with rfl | ⟨hp, _⟩
    · exact ⟨Nat.zero_le _, Nat.zero_le _⟩
    · exact h1.cnt _ hp
/-- what a plain deed does, by kinds -/
inductive Did (W : Nds) (who : Str) : Pl → Nds → Re → Prop
  | same {p : Pl} {w : Str} (hw : PyData.strOk w = true) (hl : w.length ≤ 80) : Did W who p W (.no w)
  | see {p : Pl} {x : Str} {e : Nd} (hk : lkA W x = some e) : Did W who p W (.ok (.int ((e.count : Nat) : Int)))
  | made {x t : Str} {o n : Bool} {e : Nd} (hk : lkA W (parentOf x) = some e) (ho : e.owner = none) (hq : lkA W (newP x n e) = none) (hl : W.length < 60) (hm : n = true → e.made ≤ 999999) : Did W who (.make x t o n) (putM W who x t o e (newP x n e)) (.ok (.str (newP x n e)))
  | put {x t : Str} {c : Option Nat} {e : Nd} (hk : lkA W x = some e) : Did W who (.put x t c) (putA W x { e with text := t, count := e.count + 1 }) (.ok (.int ((e.count + 1 : Nat) : Int)))
  | drop {x : Str} {c : Option Nat} (hk : hasKid W x = false) : Did W who (.drop x c) (delA W x) (.ok .none)
theorem did (W : Nds) (p : Pl) (who : Str) : Did W who p (plainM W p who).1 (plainM W p who).2 := by
  cases p with
  | make x t o n =>
    show Did W who _ (makeM W who x t o n).1 (makeM W who x t o n).2
    rcases makeM_cases W who x t o n with (h | h | h | h) | ⟨e, h1, h2, h3, h4, h5, h⟩
    · rw [h]; exact .same (by decide +kernel) (by decide +kernel)
    · rw [h]; exact .same (by decide +kernel) (by decide +kernel)
    · rw [h]; exact .same (by decide +kernel) (by decide +kernel)
    · rw [h]; exact .same (by decide +kernel) (by decide +kernel)
    · rw [h]; exact .made h1 h2 h3 h4 h5
  | put x t c =>
    cases h : lkA W x with
    | none =>
      have em : plainM W (.put x t c) who = (W, .no "lacks") := by unfold plainM; simp only [h]
      rw [em]; exact .same (by decide +kernel) (by decide +kernel)
    | some e =>
      by_cases cc : c.isSome = true ∧ c ≠ some e.count
      · have em : plainM W (.put x t c) who = (W, .no "count") := by unfold plainM; simp only [h]; rw [if_pos cc]
        rw [em]; exact .same (by decide +kernel) (by decide +kernel)
      · have em : plainM W (.put x t c) who = (putA W x { e with text := t, count := e.count + 1 }, .ok (.int ((e.count + 1 : Nat) : Int))) := by unfold plainM; simp only [h]; rw [if_neg cc]
        rw [em]; exact .put h
  | drop x c =>
    cases h : lkA W x with
    | none =>
      have em : plainM W (.drop x c) who = (W, .no "lacks") := by unfold plainM; simp only [h]
      rw [em]; exact .same (by decide +kernel) (by decide +kernel)
    | some e =>
      by_cases cc : c.isSome = true ∧ c ≠ some e.count
      · have em : plainM W (.drop x c) who = (W, .no "count") := by unfold plainM; simp only [h]; rw [if_pos cc]
        rw [em]; exact .same (by decide +kernel) (by decide +kernel)
      · by_cases c3 : hasKid W x = true
        · have em : plainM W (.drop x c) who = (W, .no "kids") := by unfold plainM; simp only [h]; rw [if_neg cc, if_pos c3]
          rw [em]; exact .same (by decide +kernel) (by decide +kernel)
        · have em : plainM W (.drop x c) who = (delA W x, .ok .none) := by unfold plainM; simp only [h]; rw [if_neg cc, if_neg c3]
          rw [em]
          refine .drop ?_
          cases hb : hasKid W x with
          | false => rfl
          | true => exact absurd hb c3
  | see x c =>
    cases h : lkA W x with
    | none =>
      have em : plainM W (.see x c) who = (W, .no "lacks") := by unfold plainM; simp only [h]
      rw [em]; exact .same (by decide +kernel) (by decide +kernel)
    | some e =>
      by_cases cc : c.isSome = true ∧ c ≠ some e.count
      · have em : plainM W (.see x c) who = (W, .no "count") := by unfold plainM; simp only [h]; rw [if_pos cc]
        rw [em]; exact .same (by decide +kernel) (by decide +kernel)
      · have em : plainM W (.see x c) who = (W, .ok (.int ((e.count : Nat) : Int))) := by unfold plainM; simp only [h]; rw [if_neg cc]
        rw [em]; exact .see h
theorem Did.ok {who : Str} {p : Pl} {W' : Nds} {r : Re} (d : Did W who p W' r) (h : NdsOk B W) (pk : p.Ok) : NdsOk (B + 1) W' := by
  cases d with
  | same => exact h.mono (Nat.le_succ _)
  | see => exact h.mono (Nat.le_succ _)
  | made hk ho hq hl hm => exact h.putM hk (newP_ok pk hm).1 hl
  | put hk => exact h.put hk (Nat.succ_le_succ (h.cnt _ (lkA_mem hk)).1) (Nat.le_succ_of_le (h.cnt _ (lkA_mem hk)).2) (Nat.le_succ _)
  | drop hk => exact (h.sub List.filter_sublist).mono (Nat.le_succ _)
theorem NdsOk.plain (h : NdsOk B W) {p : Pl} (pk : p.Ok) (who : Str) : NdsOk (B + 1) (plainM W p who).1 := (did W p who).ok h pk
theorem NdsOk.left (h : NdsOk B W) (who : Str) : NdsOk B (leftM W who) := h.sub List.filter_sublist
theorem NdsOk.all {W0 : Nds} {who : Str} : ∀ {ps : List Pl} {B : Nat} {W : Nds} {i : Nat} {vs : List PyData}, NdsOk B W → NdsOk (B + ps.length) W0 → (∀ p ∈ ps, p.Ok) → NdsOk (B + ps.length) (allM W0 who i W vs ps).1
  | [], B, W, i, vs, h, h0, _ => h
  | p :: ps, B, W, i, vs, h, h0, pk => by
    unfold allM
    cases e : (plainM W p who).2 with
    | no w => exact h0
    | ok v =>
      have h1 := h.plain (pk p List.mem_cons_self) who
      have z : B + (p :: ps).length = B + 1 + ps.length := by rw [List.length_cons]; omega
      rw [z] at h0 ⊢
      exact NdsOk.all h1 h0 fun q hq => pk q (List.mem_cons_of_mem _ hq)
theorem NdsOk.deed (h : NdsOk B W) {d : De} (dk : d.Ok) (lim : Option Nat) (who : Str) : NdsOk (B + 6) (deedM W lim d who).1 := by
  have h6 := h.mono (Nat.le_add_right B 6)
  cases d with
  | opn n => cases lim <;> exact h6
  | close =>
    cases lim with
    | none => exact h6
    | some m => exact h6.left who
  | bring => cases lim <;> exact h6
  | all ps =>
    cases lim with
    | none => exact h6
    | some m =>
      refine (NdsOk.all h (h.mono (Nat.le_add_right _ _)) dk.2.2).mono ?_
      have := dk.2.1
      omega
  | plain p =>
    cases lim with
    | none => exact h6
    | some m => exact (h.plain dk who).mono (by omega)
theorem NdsOk.done {S : Ses} (h : NdsOk B W) {e : En} (ek : e.Ok) (pl : Place) : NdsOk (B + 6) (doneM (W, S) e pl).1 := by
  have h6 := h.mono (Nat.le_add_right B 6)
  cases e with
  | fin who =>
    show NdsOk _ (match lkA S who with | none => (W, S) | some s => match s.limit with | none => (W, S) | some _ => (leftM W who, putA S who { s with limit := none })).1
    split
    · exact h6
    · split
      · exact h6
      · exact h6.left who
  | ask who st d =>
    show NdsOk _ (if st ≤ ((lkA S who).getD never).stamp then (W, S) else _).1
    split
    · exact h6
    · exact h.deed ek.2.2.2 _ who
end
/-! ### texts, owners, parents -/
structure Tr (W : Nds) : Prop where
  val : ∀ p ∈ W, TextOk p.2.text ∧ ∀ x, p.2.owner = some x → WordOk x
  root : ∃ e, lkA W "/" = some e ∧ e.owner = none
  up : ∀ p ∈ W, p.1 ≠ "/" → ∃ e, lkA W (parentOf p.1) = some e ∧ e.owner = none
section
variable {B : Nat} {W : Nds} {who : Str}
theorem Tr.did {p : Pl} {W' : Nds} {r : Re} (d : Did W who p W' r) (h : Tr W) (pk : p.Ok) (hw : WordOk who) : Tr W' := by
  cases d with
  | same => exact h
  | see => exact h
  | made hk ho hq hl hm =>
    rename_i x t o n e
    obtain ⟨hp, hpar⟩ := newP_ok pk hm
    have nq : ∀ k e2, lkA W k = some e2 → k ≠ newP x n e := fun k e2 h1 z => by rw [z, hq] at h1; cases h1
    have up : ∀ k, (∃ e2, lkA W k = some e2 ∧ e2.owner = none) → ∃ e2, lkA (putM W who x t o e (newP x n e)) k = some e2 ∧ e2.owner = none := by
      rintro k ⟨e2, h1, h2⟩
      unfold putM
      rw [putA_lk, if_neg (nq k e2 h1), putA_lk]
      split
      · exact ⟨_, rfl, ho⟩
      · exact ⟨e2, h1, h2⟩
    refine ⟨fun p hp => ?_, up _ h.root, fun p hp1 hr => up _ ?_⟩
    · unfold putM at hp
      rcases putA_mem hp with rfl | ⟨hp, _⟩
      · refine ⟨pk.2.2.1, fun y hy => ?_⟩
        have hy : (if o = true then some who else none) = some y := hy
        cases o with
        | false => cases hy
        | true => cases hy; exact hw
      · rcases putA_mem hp with rfl | ⟨hp, _⟩
        · exact h.val (parentOf x, e) (lkA_mem hk)
        · exact h.val _ hp
    · unfold putM at hp1
      rcases putA_mem hp1 with rfl | ⟨hp1, _⟩
      · show ∃ e2, lkA W (parentOf (newP x n e)) = some e2 ∧ e2.owner = none
        rw [hpar]
        exact ⟨e, hk, ho⟩
      · rcases putA_mem hp1 with rfl | ⟨hp1, _⟩
        · exact h.up (parentOf x, e) (lkA_mem hk) hr
        · exact h.up _ hp1 hr
  | put hk =>
    rename_i x t c e
    have up : ∀ k, (∃ e2, lkA W k = some e2 ∧ e2.owner = none) → ∃ e2, lkA (putA W x { e with text := t, count := e.count + 1 }) k = some e2 ∧ e2.owner = none := by
      rintro k ⟨e2, h1, h2⟩
      rw [putA_lk]
      split
      · rename_i z
        subst z
        rw [hk] at h1
        cases h1
        exact ⟨_, rfl, h2⟩
      · exact ⟨e2, h1, h2⟩
    refine ⟨fun p hp => ?_, up _ h.root, fun p hp hr => up _ ?_⟩
    · rcases putA_mem hp with rfl | ⟨hp, _⟩
      · exact ⟨pk.2.1, (h.val (x, e) (lkA_mem hk)).2⟩
      · exact h.val _ hp
    · rcases putA_mem hp with rfl | ⟨hp, _⟩
      · exact h.up (x, e) (lkA_mem hk) hr
      · exact h.up _ hp hr
  | drop hk =>
    rename_i x c
    refine ⟨fun p hp => h.val p (delA_mem.mp hp).1, ?_, fun p hp hr => ?_⟩
    · rw [delA_lk, if_neg fun z => pk.2.1 z.symm]
      exact h.root
    · have hp := (delA_mem.mp hp).1
      rw [delA_lk, if_neg ?_]
      · exact h.up p hp hr
      · intro z
        unfold hasKid at hk
        rw [List.any_eq_false] at hk
        exact hk p hp (by simp [hr, z])
theorem Tr.left (h : Tr W) (nd : (W.map (·.1)).Nodup) : Tr (leftM W who) := by
  have nd2 : ((leftM W who).map (·.1)).Nodup := List.Nodup.sublist (List.Sublist.map _ List.filter_sublist) nd
  have up : ∀ k, (∃ e, lkA W k = some e ∧ e.owner = none) → ∃ e, lkA (leftM W who) k = some e ∧ e.owner = none := by
    rintro k ⟨e, h1, h2⟩
    refine ⟨e, lkA_of_mem nd2 (List.mem_filter.mpr ⟨lkA_mem h1, ?_⟩), h2⟩
    simp [h2]
  exact ⟨fun p hp => h.val p (List.mem_filter.mp hp).1, up _ h.root, fun p hp hr => up _ (h.up p (List.mem_filter.mp hp).1 hr)⟩
theorem Tr.all {W0 : Nds} (h0 : Tr W0) (hw : WordOk who) : ∀ {ps : List Pl} {W : Nds} {i : Nat} {vs : List PyData}, Tr W → (∀ p ∈ ps, p.Ok) → Tr (allM W0 who i W vs ps).1
  | [], W, i, vs, h, _ => h
  | p :: ps, W, i, vs, h, pk => by
    unfold allM
    cases e : (plainM W p who).2 with
    | no w => exact h0
    | ok v => exact Tr.all h0 hw (Tr.did (Wn.did W p who) h (pk p List.mem_cons_self) hw) fun q hq => pk q (List.mem_cons_of_mem _ hq)
theorem Tr.deed (h : Tr W) (nd : (W.map (·.1)).Nodup) {d : De} (dk : d.Ok) (hw : WordOk who) (lim : Option Nat) : Tr (deedM W lim d who).1 := by
  cases d with
  | opn n => cases lim <;> exact h
  | close =>
    cases lim with
    | none => exact h
    | some m => exact h.left nd
  | bring => cases lim <;> exact h
  | all ps =>
    cases lim with
    | none => exact h
    | some m => exact Tr.all h hw h dk.2.2
  | plain p =>
    cases lim with
    | none => exact h
    | some m => exact Tr.did (Wn.did W p who) h dk hw
theorem Tr.done {S : Ses} (h : Tr W) (nd : (W.map (·.1)).Nodup) {e : En} (ek : e.Ok) (pl : Place) : Tr (doneM (W, S) e pl).1 := by
  cases e with
  | fin who =>
    show Tr (match lkA S who with | none => (W, S) | some s => match s.limit with | none => (W, S) | some _ => (leftM W who, putA S who { s with limit := none })).1
    split
    · exact h
    · split
      · exact h
      · exact h.left nd
  | ask who st d =>
    show Tr (if st ≤ ((lkA S who).getD never).stamp then (W, S) else _).1
    split
    · exact h
    · exact h.deed nd ek.2.2.2 ek.1 _
end
/-! ### answers -/
/-- data that can be compared -/
structure Sh (d : PyData) (k : Nat) : Prop where
  lay : d.canLay0 = true
  dep : d.depth ≤ k
theorem Fit.sh {d : PyData} {k m : Nat} (h : Fit d k m) : Sh d k := ⟨h.lay, h.dep⟩
theorem Sh.mono {d : PyData} {k k' : Nat} (h : Sh d k) (hk : k ≤ k' := by decide) : Sh d k' := ⟨h.lay, Nat.le_trans h.dep hk⟩
theorem Sh.shaped {d : PyData} {k : Nat} (h : Sh d k) (hk : k ≤ 64 := by decide) : SeqAt.shaped d = true := by
  unfold SeqAt.shaped
  rw [h.lay, Bool.true_and]
  exact decide_eq_true (Nat.le_trans h.dep hk)
theorem sh_str {x : Str} {k : Nat} (h : PyData.strOk x = true) : Sh (.str x) k := ⟨by simpa only [PyData.canLay0] using h, by simp only [PyData.depth]; exact Nat.zero_le _⟩
theorem sh_int {i : Int} {k : Nat} : Sh (.int i) k := ⟨by simp only [PyData.canLay0], by simp only [PyData.depth]; exact Nat.zero_le _⟩
theorem sh_none {k : Nat} : Sh .none k := ⟨by simp only [PyData.canLay0], by simp only [PyData.depth]; exact Nat.zero_le _⟩
theorem sh_all {k : Nat} : ∀ {ds : List PyData}, (∀ d ∈ ds, Sh d k) → PyData.canLayAll0 ds = true ∧ PyData.depthAll ds ≤ k
  | [], _ => ⟨by simp only [PyData.canLayAll0], by simp only [PyData.depthAll]; exact Nat.zero_le _⟩
  | d :: ds, h => by
    have h1 := h d List.mem_cons_self
    have h2 := sh_all (ds := ds) fun x hx => h x (List.mem_cons_of_mem _ hx)
    exact ⟨by simp only [PyData.canLayAll0, h1.lay, h2.1, Bool.and_self], by simp only [PyData.depthAll]; exact Nat.max_le.mpr ⟨h1.dep, h2.2⟩⟩
theorem sh_tup {ds : List PyData} {k k' : Nat} (h : ∀ d ∈ ds, Sh d k) (hk : k + 1 ≤ k' := by decide) : Sh (.tuple ds) k' := by
  have z := sh_all h
  refine ⟨by simp only [PyData.canLay0]; exact z.1, ?_⟩
  simp only [PyData.depth]
  have := z.2
  omega
theorem sh_c {d1 : PyData} {ds : List PyData} {k : Nat} (h1 : Sh d1 k) (h2 : ∀ d ∈ ds, Sh d k) : ∀ d ∈ d1 :: ds, Sh d k := by
  intro d hd
  rcases List.mem_cons.mp hd with rfl | hd
  · exact h1
  · exact h2 d hd
theorem sh_nil {k : Nat} : ∀ d ∈ ([] : List PyData), Sh d k := fun d hd => by cases hd
theorem sh_s {x : Str} {k : Nat} (h : PyData.strOk x = true := by decide +kernel) : Sh (.str x) k := sh_str h
def Re.Sh : Re → Prop
  | .ok v => Wn.Sh v 0
  | .no w => PyData.strOk w = true
theorem Did.sh {W W' : Nds} {who : Str} {p : Pl} {r : Re} (d : Did W who p W' r) (pk : p.Ok) : r.Sh := by
  cases d with
  | same hw => exact hw
  | see => exact sh_int
  | made hk ho hq hl hm => exact sh_str (newP_ok pk hm).1.strOk
  | put => exact sh_int
  | drop => exact sh_none
theorem Re.Sh.d {r : Re} (h : r.Sh) : Wn.Sh r.d 1 := by
  cases r with
  | ok v => exact sh_tup (sh_c sh_s (sh_c h sh_nil))
  | no w => exact sh_tup (k := 0) (sh_c sh_s (sh_c (sh_str h) sh_nil))
theorem allM_sh {W0 : Nds} {who : Str} : ∀ {ps : List Pl} {W : Nds} {i : Nat} {vs : List PyData}, (∀ p ∈ ps, p.Ok) → (∀ v ∈ vs, Sh v 0) → Sh (allM W0 who i W vs ps).2 2
  | [], W, i, vs, _, h => sh_tup (k := 1) (sh_c sh_s (sh_c (sh_tup (k := 0) h) sh_nil))
  | p :: ps, W, i, vs, pk, h => by
    have z := (did W p who).sh (pk p List.mem_cons_self)
    unfold allM
    cases e : (plainM W p who).2 with
    | no w =>
      rw [e] at z
      exact sh_tup (k := 0) (sh_c sh_s (sh_c (sh_str z) (sh_c sh_int sh_nil)))
    | ok v =>
      rw [e] at z
      refine allM_sh (fun q hq => pk q (List.mem_cons_of_mem _ hq)) fun u hu => ?_
      rcases List.mem_append.mp hu with hu | hu
      · exact h u hu
      · rw [List.mem_singleton.mp hu]
        exact z
theorem deedM_sh {W : Nds} {lim : Option Nat} {d : De} {who : Str} (dk : d.Ok) : Sh (deedM W lim d who).2.2 2 := by
  have ok0 : Sh (.tuple [.str "ok", .none]) 2 := sh_tup (k := 0) (sh_c sh_s (sh_c sh_none sh_nil))
  have cl0 : Sh (.tuple [.str "no", .str "closed"]) 2 := sh_tup (k := 0) (sh_c sh_s (sh_c sh_s sh_nil))
  have op0 : Sh (.tuple [.str "no", .str "open"]) 2 := sh_tup (k := 0) (sh_c sh_s (sh_c sh_s sh_nil))
  cases d with
  | opn n => cases lim; exact ok0; exact op0
  | close => cases lim; exact cl0; exact ok0
  | bring => cases lim; exact cl0; exact ok0
  | all ps => cases lim; exact cl0; exact allM_sh dk.2.2 sh_nil
  | plain p => cases lim; exact cl0; exact ((did W p who).sh dk).d.mono
structure SOk (n : Nat) (S : Ses) : Prop where
  nd : (S.map (·.1)).Nodup
  size : S.length ≤ n
  ans : ∀ p ∈ S, Sh p.2.answer 2 ∧ PyData.strOk p.1 = true
theorem SOk.put {n : Nat} {S : Ses} (h : SOk n S) {who : Str} {s : Se} (hs : Sh s.answer 2) (hw : PyData.strOk who = true) : SOk (n + 1) (putA S who s) := by
  refine ⟨putA_nodup h.nd, ?_, fun p hp => ?_⟩
  · have := putA_length_le S who s
    have := h.size
    omega
  · rcases putA_mem hp with rfl | ⟨hp, _⟩
    · exact ⟨hs, hw⟩
    · exact h.ans p hp
theorem SOk.mono {n n' : Nat} {S : Ses} (h : SOk n S) (hn : n ≤ n') : SOk n' S := ⟨h.nd, Nat.le_trans h.size hn, h.ans⟩
theorem SOk.done {n : Nat} {W : Nds} {S : Ses} (h : SOk n S) {e : En} (ek : e.Ok) (pl : Place) : SOk (n + 1) (doneM (W, S) e pl).2 := by
  have h1 := h.mono (Nat.le_succ n)
  cases e with
  | fin who =>
    show SOk _ (match lkA S who with | none => (W, S) | some s => match s.limit with | none => (W, S) | some _ => (leftM W who, putA S who { s with limit := none })).2
    split
    · exact h1
    · rename_i s hs
      split
      · exact h1
      · exact h.put (h.ans _ (lkA_mem hs)).1 (h.ans _ (lkA_mem hs)).2
  | ask who st d =>
    show SOk _ (if st ≤ ((lkA S who).getD never).stamp then (W, S) else _).2
    split
    · exact h1
    · exact h.put (deedM_sh ek.2.2.2) (WordOk.strOk ek.1)
theorem plD_sh {p : Place} {k : Nat} : Sh (plD p) (k + 1) := sh_tup (k := 0) (sh_c sh_int (sh_c sh_int sh_nil)) (by omega)
theorem cntD_sh {c : Option Nat} {k : Nat} : Sh (cntD c) k := by
  cases c with
  | none => exact sh_none
  | some n => exact sh_int
theorem Se.sh {s : Se} (h : Sh s.answer 2) : Sh s.d 3 := sh_tup (k := 2) (sh_c cntD_sh (sh_c sh_int (sh_c h (sh_c (plD_sh (k := 1)) sh_nil))))
/-! ### the states of a row -/
structure StOk (n : Nat) (st : State) : Prop where
  ok : NdsOk (6 * n) st.1
  tr : Tr st.1
  ses : SOk n st.2
theorem StOk.step {n : Nat} {st : State} (h : StOk n st) {t : Thing} (tk : t.Ok) : StOk (n + 1) (doneM st t.2 t.1) :=
  ⟨(h.ok.done tk.2 t.1).mono (by omega), h.tr.done h.ok.nd tk.2 t.1, h.ses.done tk.2 t.1⟩
theorem stOk0 : StOk 0 (root0, []) := by
  refine ⟨⟨by simp [root0], fun p hp => ?_, by decide, fun p hp => ?_⟩, ⟨fun p hp => ?_, ⟨_, by simp [root0, lkA]; rfl, rfl⟩, fun p hp hr => ?_⟩, ⟨List.nodup_nil, Nat.le_refl _, fun p hp => by cases hp⟩⟩ <;> rcases List.mem_singleton.mp hp with rfl
  · exact rootOk
  · exact ⟨Nat.zero_le _, Nat.zero_le _⟩
  · refine ⟨⟨by decide +kernel, fun c hc => ?_⟩, fun x hx => by cases hx⟩
    have : tl ("" : Str) = [] := by rw [em_str]; rfl
    rw [this] at hc
    cases hc
  · exact absurd rfl hr
theorem foldl_stOk : ∀ {ts : List Thing} {n : Nat} {st : State}, StOk n st → (∀ t ∈ ts, t.Ok) → StOk (n + ts.length) (ts.foldl (fun st t => doneM st t.2 t.1) st)
  | [], n, st, h, _ => h
  | t :: ts, n, st, h, k => by
    have z : n + (t :: ts).length = n + 1 + ts.length := by rw [List.length_cons]; omega
    rw [z, List.foldl_cons]
    exact foldl_stOk (h.step (k t List.mem_cons_self)) fun u hu => k u (List.mem_cons_of_mem _ hu)
theorem stateM_ok {ts : List Thing} (h : ∀ t ∈ ts, t.Ok) : StOk ts.length (stateM ts) := by
  have := foldl_stOk stOk0 h
  rw [Nat.zero_add] at this
  exact this
end Wn

/-! Unlike things are written unlike; places in a row. -/
namespace Wn
open PySem PySem.Spec PyProof.Rows L2 TL
theorem cut_bl {a a' x x' : Str} (h : 32 ∉ tl a) (h' : 32 ∉ tl a') (e : a ++ " " ++ x = a' ++ " " ++ x') : a = a' ∧ x = x' := by
  have e1 := partition_app tl_bl (a := a) (b := x) h
  have e2 := partition_app tl_bl (a := a') (b := x') h'
  rw [e, e2] at e1
  have e3 := (Prod.mk.inj e1)
  exact ⟨e3.1.symm, (Prod.mk.inj e3.2).2.symm⟩
theorem bj_cons {t : Str} {ts : List Str} (h : ts ≠ []) : bj (t :: ts) = t ++ " " ++ bj ts := join_cons h
theorem bj_one (t : Str) : bj [t] = t := rfl
theorem bj_inj {t t' : Str} {ts ts' : List Str} (n : ts ≠ []) (n' : ts' ≠ []) (h : 32 ∉ tl t) (h' : 32 ∉ tl t') (e : bj (t :: ts) = bj (t' :: ts')) : t = t' ∧ bj ts = bj ts' := by
  rw [bj_cons n, bj_cons n'] at e
  exact cut_bl h h' e
theorem num_nb (n : Nat) : 32 ∉ tl (num n) := fun m => by have := num_signs n 32 m; omega
theorem num_nd (n : Nat) : 46 ∉ tl (num n) := fun m => by have := num_signs n 46 m; omega
theorem path_nb {x : Str} (h : PathOk x) : 32 ∉ tl x := fun m => by have := h.signs 32 m; omega
theorem word_nb {x : Str} (h : WordOk x) : 32 ∉ tl x := fun m => by have := h.2.2 32 m; omega
theorem word_nd {x : Str} (h : WordOk x) : 46 ∉ tl x := fun m => by have := h.2.2 46 m; omega
theorem own_nb {c : Option Str} (h : ∀ x, c = some x → WordOk x) : 32 ∉ tl (ownT c) := by
  cases c with
  | none =>
    show 32 ∉ tl ("-" : Str)
    rw [tl_da]
    decide
  | some x => exact word_nb (h x rfl)
theorem cnt_nb (c : Option Nat) : 32 ∉ tl (cntT c) := by
  cases c with
  | none =>
    show 32 ∉ tl ("-" : Str)
    rw [tl_da]
    decide
  | some n => exact num_nb n
theorem word_ne_da {x : Str} (h : WordOk x) : x ≠ "-" := fun e => by
  have := h.2.2 45 (by rw [e, tl_da]; exact List.mem_singleton.mpr rfl)
  omega
theorem own_inj {c c' : Option Str} (h : ∀ x, c = some x → WordOk x) (h' : ∀ x, c' = some x → WordOk x) (e : ownT c = ownT c') : c = c' := by
  cases c with
  | none =>
    cases c' with
    | none => rfl
    | some y => exact absurd e.symm (word_ne_da (h' y rfl))
  | some x =>
    cases c' with
    | none => exact absurd e (word_ne_da (h x rfl))
    | some y => exact congrArg some e
theorem tokN_inj {x x' : Str} {a b : Nd} (hx : PathOk x) (hx' : PathOk x') (ha : a.Ok) (hb : b.Ok) (e : bj (tokN x a) = bj (tokN x' b)) : x = x' ∧ a = b := by
  obtain ⟨e1, e⟩ := bj_inj (by simp) (by simp) (path_nb hx) (path_nb hx') e
  obtain ⟨e2, e⟩ := bj_inj (by simp) (by simp) (num_nb _) (num_nb _) e
  obtain ⟨e3, e⟩ := bj_inj (by simp) (by simp) (num_nb _) (num_nb _) e
  obtain ⟨e4, e⟩ := bj_inj (by simp) (by simp) (own_nb ha.2.2.2) (own_nb hb.2.2.2) e
  obtain ⟨e5, e⟩ := bj_inj (by simp) (by simp) (num_nb _) (num_nb _) e
  have e : a.text = b.text := e
  have e2 := num_inj e2
  have e3 := num_inj e3
  have e4 := own_inj ha.2.2.2 hb.2.2.2 e4
  refine ⟨e1, ?_⟩
  cases a
  cases b
  subst e e2 e3 e4
  rfl
/-! ### rows of texts -/
def rowT (ts : List Thing) : Str := nj (ts.map fun t => bj (tokT t))
def nodesT (ps : Nds) : Str := nj (ps.map fun p => bj (tokN p.1 p.2))
theorem nj_split {l : List Str} (h : l ≠ []) (n : ∀ x ∈ l, 10 ∉ tl x) : Txt.split (nj l) "\n" = l := by
  unfold nj
  rw [← join_eq]
  exact split_join tl_nl (by decide +kernel) h n
theorem bj_nonl {ts : List Str} (h : ∀ t ∈ ts, 10 ∉ tl t) : 10 ∉ tl (bj ts) := fun m => by
  unfold bj at m
  rw [tl_join] at m
  rcases joinL_mem m with m | ⟨p, hp, m⟩
  · rw [tl_bl] at m
    simp at m
  · obtain ⟨t, ht, rfl⟩ := List.mem_map.mp hp
    exact h t ht m
theorem nl_c {t : Str} {ts : List Str} (h : 10 ∉ tl t) (h2 : ∀ t ∈ ts, 10 ∉ tl t) : ∀ u ∈ t :: ts, 10 ∉ tl u := by
  intro u hu
  rcases List.mem_cons.mp hu with rfl | hu
  · exact h
  · exact h2 u hu
theorem nl_nil : ∀ u ∈ ([] : List Str), 10 ∉ tl u := fun u hu => by cases hu
theorem nl_s {x : Str} (h : 10 ∉ tl x := by decide +kernel) : 10 ∉ tl x := h
theorem nl_num (n : Nat) : 10 ∉ tl (num n) := fun m => by have := num_signs n 10 m; omega
theorem nl_path {x : Str} (h : PathOk x) : 10 ∉ tl x := fun m => by have := h.signs 10 m; omega
theorem nl_word {x : Str} (h : WordOk x) : 10 ∉ tl x := fun m => by have := h.2.2 10 m; omega
theorem nl_text {x : Str} (h : TextOk x) : 10 ∉ tl x := fun m => by have := h.2 10 m; omega
theorem nl_tb (b : Bool) : 10 ∉ tl (tbT b) := by cases b <;> decide +kernel
theorem nl_cnt (c : Option Nat) : 10 ∉ tl (cntT c) := by
  cases c with
  | none => decide +kernel
  | some n => exact nl_num n
theorem nl_own {c : Option Str} (h : ∀ x, c = some x → WordOk x) : 10 ∉ tl (ownT c) := by
  cases c with
  | none => decide +kernel
  | some x => exact nl_word (h x rfl)
theorem nl_app {x y : Str} (h : 10 ∉ tl x) (h2 : 10 ∉ tl y) : 10 ∉ tl (x ++ y) := fun m => by
  rw [tl_append] at m
  rcases List.mem_append.mp m with m | m
  · exact h m
  · exact h2 m
theorem nl_tokP {p : Pl} (h : p.Ok) : ∀ u ∈ tokP p, 10 ∉ tl u := by
  cases p with
  | make x t o n => exact nl_c nl_s (nl_c (nl_path h.1) (nl_c (nl_tb o) (nl_c (nl_tb n) (nl_c (nl_num _) (nl_c (nl_text h.2.2.1) nl_nil)))))
  | put x t c => exact nl_c nl_s (nl_c (nl_path h.1) (nl_c (nl_cnt c) (nl_c (nl_num _) (nl_c (nl_text h.2.1) nl_nil))))
  | drop x c => exact nl_c nl_s (nl_c (nl_path h.1) (nl_c (nl_cnt c) nl_nil))
  | see x c => exact nl_c nl_s (nl_c (nl_path h.1) (nl_c (nl_cnt c) nl_nil))
theorem nl_tokD {d : De} (h : d.Ok) : ∀ u ∈ tokD d, 10 ∉ tl u := by
  cases d with
  | plain p => exact nl_tokP h
  | all ps =>
    refine nl_c nl_s (nl_c (nl_num _) fun u hu => ?_)
    obtain ⟨a, ha, hu⟩ := List.mem_flatten.mp hu
    obtain ⟨p, hp, rfl⟩ := List.mem_map.mp ha
    exact nl_tokP (h.2.2 p hp) u hu
  | opn n => exact nl_c nl_s (nl_c (nl_num _) nl_nil)
  | close => exact nl_c nl_s nl_nil
  | bring => exact nl_c nl_s nl_nil
theorem nl_tokE {e : En} (h : e.Ok) : ∀ u ∈ tokE e, 10 ∉ tl u := by
  cases e with
  | ask w s d => exact nl_c (nl_app (nl_app (nl_word h.1) nl_s) (nl_num _)) (nl_tokD h.2.2.2)
  | fin w => exact nl_c nl_s (nl_c (nl_word h) nl_nil)
theorem nl_tokT {t : Thing} (h : t.Ok) : ∀ u ∈ tokT t, 10 ∉ tl u := nl_c (nl_app (nl_app (nl_num _) nl_s) (nl_num _)) (nl_tokE h.2)
theorem nl_tokN {x : Str} {e : Nd} (hx : PathOk x) (h : e.Ok) : ∀ u ∈ tokN x e, 10 ∉ tl u :=
  nl_c (nl_path hx) (nl_c (nl_num _) (nl_c (nl_num _) (nl_c (nl_own h.2.2.2) (nl_c (nl_num _) (nl_c (nl_text h.1) nl_nil)))))
theorem map_inj_on {α β : Type} {f : α → β} : ∀ {l m : List α}, (∀ x ∈ l, ∀ y ∈ m, f x = f y → x = y) → l.map f = m.map f → l = m
  | [], [], _, _ => rfl
  | [], y :: m, _, e => by cases e
  | x :: l, [], _, e => by cases e
  | x :: l, y :: m, h, e => by
    rw [List.map_cons, List.map_cons] at e
    have e2 := List.cons.inj e
    rw [h x List.mem_cons_self y List.mem_cons_self e2.1, map_inj_on (fun a ha b hb => h a (List.mem_cons_of_mem _ ha) b (List.mem_cons_of_mem _ hb)) e2.2]
abbrev NOk (ps : Nds) : Prop := ∀ p ∈ ps, PathOk p.1 ∧ p.2.Ok
theorem nodesT_lines {ps : Nds} (h : NOk ps) (n : ps ≠ []) : Txt.split (nodesT ps) "\n" = ps.map fun p => bj (tokN p.1 p.2) := by
  refine nj_split (by simpa using n) fun x hx => ?_
  obtain ⟨p, hp, rfl⟩ := List.mem_map.mp hx
  exact bj_nonl (nl_tokN (h p hp).1 (h p hp).2)
theorem nodesT_inj {ps qs : Nds} (hp : NOk ps) (hq : NOk qs) (np : ps ≠ []) (nq : qs ≠ []) (e : nodesT ps = nodesT qs) : ps = qs := by
  have e1 := nodesT_lines hp np
  rw [e, nodesT_lines hq nq] at e1
  refine (map_inj_on (fun x hx y hy z => ?_) e1).symm
  obtain ⟨z1, z2⟩ := tokN_inj (hq x hx).1 (hp y hy).1 (hq x hx).2 (hp y hy).2 z
  exact Prod.ext z1 z2
theorem rowT_lines {ts : List Thing} (h : ∀ t ∈ ts, t.Ok) (n : ts ≠ []) : Txt.split (rowT ts) "\n" = ts.map fun t => bj (tokT t) := by
  refine nj_split (by simpa using n) fun x hx => ?_
  obtain ⟨t, ht, rfl⟩ := List.mem_map.mp hx
  exact bj_nonl (nl_tokT (h t ht))
theorem plT_inj {p q : Place} (e : plT p = plT q) : p = q := by
  unfold plT at e
  have e1 := partition_app tl_dot (a := num p.1) (b := num p.2) (num_nd _)
  have e2 := partition_app tl_dot (a := num q.1) (b := num q.2) (num_nd _)
  rw [e, e2] at e1
  have e3 := Prod.mk.inj e1
  exact Prod.ext (num_inj e3.1.symm) (num_inj (Prod.mk.inj e3.2).2.symm)
theorem pl_nb (p : Place) : 32 ∉ tl (plT p) := fun m => by
  unfold plT at m
  rw [tl_append, tl_append, tl_dot] at m
  rcases List.mem_append.mp m with m | m
  · rcases List.mem_append.mp m with m | m
    · exact num_nb _ m
    · simp at m
  · exact num_nb _ m
theorem tokT_pl {t u : Thing} (e : bj (tokT t) = bj (tokT u)) : t.1 = u.1 := plT_inj (bj_inj (tokE_ne _) (tokE_ne _) (pl_nb _) (pl_nb _) e).1
/-! ### places -/
/-- may stand right behind -/
def follows (a p : Place) : Bool := if p.1 = a.1 ∧ a ≠ (0, 0) then decide (p.2 = a.2 + 1) else decide (a.1 < p.1) && decide (p.2 = 1)
def chain : Place → List Thing → Prop
  | _, [] => True
  | a, t :: ts => follows a t.1 = true ∧ chain t.1 ts
def RowOk (ts : List Thing) : Prop := (∀ t ∈ ts, t.Ok) ∧ chain (0, 0) ts ∧ ts.length ≤ 100
def lexLt (a p : Place) : Prop := a.1 < p.1 ∨ (a.1 = p.1 ∧ a.2 < p.2)
theorem follows_lt {a p : Place} (h : follows a p = true) : lexLt a p := by
  unfold follows at h
  split at h
  · rename_i z
    have := of_decide_eq_true h
    exact .inr ⟨z.1.symm, by omega⟩
  · rw [Bool.and_eq_true] at h
    exact .inl (of_decide_eq_true h.1)
theorem lexLt.trans {a b c : Place} (h : lexLt a b) (g : lexLt b c) : lexLt a c := by
  unfold lexLt at *
  omega
theorem chain_lt : ∀ {a : Place} {ts : List Thing}, chain a ts → (∀ t ∈ ts, lexLt a t.1) ∧ (ts.map (·.1)).Pairwise lexLt
  | a, [], _ => ⟨fun t ht => (nomatch ht), .nil⟩
  | a, t :: ts, h => by
    obtain ⟨h1, h2⟩ := chain_lt h.2
    have h0 := follows_lt h.1
    refine ⟨fun u hu => ?_, ?_⟩
    · rcases List.mem_cons.mp hu with rfl | hu
      · exact h0
      · exact h0.trans (h1 u hu)
    · rw [List.map_cons]
      refine .cons (fun p hp => ?_) h2
      obtain ⟨u, hu, rfl⟩ := List.mem_map.mp hp
      exact h1 u hu
theorem chain_nodup {ts : List Thing} (h : chain (0, 0) ts) : (ts.map (·.1)).Nodup :=
  List.Pairwise.imp (fun {a b} z e => by subst e; unfold lexLt at z; omega) (chain_lt h).2
theorem nodup_of_map {α β : Type} {f : α → β} : ∀ {l : List α}, (l.map f).Nodup → l.Nodup
  | [], _ => List.nodup_nil
  | x :: l, h => by
    rw [List.map_cons, List.nodup_cons] at h
    exact List.nodup_cons.mpr ⟨fun m => h.1 (List.mem_map.mpr ⟨x, m, rfl⟩), nodup_of_map h.2⟩
theorem rowT_nodup {ts : List Thing} (h : RowOk ts) : (ts.map fun t => bj (tokT t)).Nodup := by
  have n := chain_nodup h.2.1
  have n2 : ts.Pairwise fun t u => t.1 ≠ u.1 := List.pairwise_map.mp n
  exact List.pairwise_map.mpr (n2.imp fun {a b} z e => z (tokT_pl e))
theorem chain_take : ∀ {a : Place} {ts : List Thing} (k : Nat), chain a ts → chain a (ts.take k)
  | a, ts, 0, _ => trivial
  | a, [], k + 1, _ => trivial
  | a, t :: ts, k + 1, h => ⟨h.1, chain_take k h.2⟩
theorem RowOk.take {ts : List Thing} (h : RowOk ts) (k : Nat) : RowOk (ts.take k) :=
  ⟨fun t ht => h.1 t (List.mem_of_mem_take ht), chain_take k h.2.1, by rw [List.length_take]; have := h.2.2; omega⟩
/-- the last place of a row -/
def lastP (a : Place) : List Thing → Place
  | [] => a
  | t :: ts => lastP t.1 ts
theorem chain_snoc : ∀ {a : Place} {ts : List Thing} {t : Thing}, chain a ts → follows (lastP a ts) t.1 = true → chain a (ts ++ [t])
  | a, [], t, _, f => ⟨f, trivial⟩
  | a, u :: ts, t, h, f => ⟨h.1, chain_snoc h.2 f⟩
theorem lastP_snoc : ∀ {a : Place} {ts : List Thing} {t : Thing}, lastP a (ts ++ [t]) = t.1
  | a, [], t => rfl
  | a, u :: ts, t => lastP_snoc (ts := ts)
/-! ### the nodes by their paths -/
def Byp (W ps : Nds) : Prop := ps.Perm W ∧ (ps.map (·.1)).Pairwise fun x y => x.cps.toList < y.cps.toList
/-- what read_nodes asks -/
def Tree (ps : Nds) : Prop := ("/" : Str) ∈ ps.map (·.1) ∧ ∀ p ∈ ps, p.1 = "/" ∨ parentOf p.1 ∈ ps.map (·.1)
theorem Tr.tree {W ps : Nds} (h : Tr W) (hp : ps.Perm W) : Tree ps := by
  have mk : ∀ k, k ∈ W.map (·.1) → k ∈ ps.map (·.1) := fun k hk => (hp.map (·.1)).mem_iff.mpr hk
  refine ⟨mk _ ?_, fun p hm => ?_⟩
  · obtain ⟨e, he, _⟩ := h.root
    exact mem_key he
  · by_cases c : p.1 = "/"
    · exact .inl c
    · obtain ⟨e, he, _⟩ := h.up p (hp.mem_iff.mp hm) c
      exact .inr (mk _ (mem_key he))
theorem ltL_irrefl (l : List Nat) : ¬ l < l := List.lt_irrefl l
theorem byp_uniq : ∀ {ps qs : Nds}, ps.Perm qs → (ps.map (·.1)).Pairwise (fun x y => x.cps.toList < y.cps.toList) → (qs.map (·.1)).Pairwise (fun x y => x.cps.toList < y.cps.toList) → ps = qs
  | [], qs, h, _, _ => by rw [h.symm.eq_nil]
  | p :: ps, [], h, _, _ => by cases h.eq_nil
  | p :: ps, q :: qs, h, hp, hq => by
    rw [List.map_cons, List.pairwise_cons] at hp hq
    have e : p = q := by
      have h1 : p ∈ q :: qs := h.mem_iff.mp List.mem_cons_self
      have h2 : q ∈ p :: ps := h.mem_iff.mpr List.mem_cons_self
      rcases List.mem_cons.mp h1 with h1 | h1
      · exact h1
      rcases List.mem_cons.mp h2 with h2 | h2
      · exact h2.symm
      have l1 := hq.1 p.1 (List.mem_map.mpr ⟨p, h1, rfl⟩)
      have l2 := hp.1 q.1 (List.mem_map.mpr ⟨q, h2, rfl⟩)
      exact absurd (List.lt_trans l1 l2) (ltL_irrefl _)
    subst e
    rw [byp_uniq (List.Perm.cons_inv h) hp.2 hq.2]
theorem StOk.nok {n : Nat} {st : State} (h : StOk n st) (hn : 6 * n < big) {ps : Nds} (hp : ps.Perm st.1) : NOk ps := fun p hm => by
  have m := hp.mem_iff.mp hm
  have c := h.ok.cnt p m
  exact ⟨h.ok.path p m, (h.tr.val p m).1, Nat.lt_of_le_of_lt c.1 hn, Nat.lt_of_le_of_lt c.2 hn, (h.tr.val p m).2⟩
end Wn

/-! Steps of the readings of C, D, E. -/
namespace Wn
open PySem PySem.Spec PyProof.Rows L2 TL
section
variable {K : PySem.W.Frag} {H H' : Hp} {p l : Addr} {v : V} {ds : List PyData} {Q : VK}
theorem eqEmp (h : Dt K H v (.tuple ds)) (hs : SeqAt.shaped (.tuple ds) = true) (n : ds ≠ []) (h2 : H p = some (.tup [])) (q : Q (.bl false) H) : rEqD K v (.ref p) H Q := by
  refine ⟨_, .tuple [], h.dp, .tup (TpK.sq (.inl h2)) .nil, hs, by decide, ?_⟩
  have e : PyData.eqv (.tuple ds) (.tuple []) = false := by
    cases ds with
    | nil => exact absurd rfl n
    | cons d ds => rfl
  rw [e]
  exact q
theorem eqv_pl {a b : Place} : PyData.eqv (plD a) (plD b) = decide (a = b) := by
  obtain ⟨a1, a2⟩ := a
  obtain ⟨b1, b2⟩ := b
  have e : PyData.eqv (plD (a1, a2)) (plD (b1, b2)) = ((((a1 : Nat) : Int) == ((b1 : Nat) : Int)) && ((((a2 : Nat) : Int) == ((b2 : Nat) : Int)) && true)) := by
    simp only [plD, PyData.eqv, PyData.eqvAll]
  rw [e, Bool.eq_iff_iff]
  simp only [Bool.and_eq_true, beq_iff_eq, Int.ofNat_inj, decide_eq_true_eq, Prod.mk.injEq, and_true]
theorem nePl {u : V} {a b : Place} (h : Dt K H v (plD a)) (h2 : Dt K H u (plD b)) (q : Q (.bl (!decide (a = b))) H) : rNeD K v u H Q := by
  refine ⟨_, _, h.dp, h2.dp, (plD_sh (k := 0)).shaped, (plD_sh (k := 0)).shaped, ?_⟩
  rw [eqv_pl]
  exact q
theorem dtPl {a b : Nat} {i j : Int} (h : TpK K H l [.int i, .int j]) (hi : i = (a : Int)) (hj : j = (b : Int)) : Dt K H (.ref l) (plD (a, b)) := by
  subst hi hj
  exact .tup h (.cons (.int _) (.cons (.int _) .nil))
/-- the i-th of a list of data -/
theorem DtA.at {xs : List V} {x : V} {i : Nat} (h : DtA K H xs ds) (e : xs[i]? = some x) : ∃ d, ds[i]? = some d ∧ Dt K H x d := by
  have hl := h.length
  obtain ⟨hi, _⟩ := List.getElem?_eq_some_iff.mp e
  have e2 : ds[i]? = some ds[i] := List.getElem?_eq_getElem (by omega)
  obtain ⟨v, h1, h2⟩ := h.get (i := 0) i e2
  rw [e] at h1
  cases h1
  exact ⟨_, e2, h2⟩
theorem DtA.atM {α : Type} {f : α → PyData} {ts : List α} {xs : List V} {x : V} {i : Nat} (h : DtA K H xs (ts.map f)) (e : xs[i]? = some x) : ∃ t, ts[i]? = some t ∧ Dt K H x (f t) := by
  obtain ⟨d, h1, h2⟩ := h.at e
  rw [List.getElem?_map] at h1
  obtain ⟨t, h3, rfl⟩ := Option.map_eq_some_iff.mp h1
  exact ⟨t, h3, h2⟩
theorem DtA.lenM {α : Type} {f : α → PyData} {ts : List α} {xs : List V} (h : DtA K H xs (ts.map f)) : xs.length = ts.length := by rw [h.length, List.length_map]
theorem th_inv {t : Thing} (h : Dt K H v (thD t)) : ∃ l x1 x2, v = .ref l ∧ TpK K H l [x1, x2] ∧ Dt K H x1 (plD t.1) ∧ Dt K H x2 t.2.d := dt2 h
end
section
variable {K : PySem.W.Frag} {H : Hp} {v : V}
/-- a plain deed's first thing -/
theorem pl_head {p : Pl} (h : Dt K H v p.d) : ∃ (l : Addr) (x : Str) (xs : List V), v = .ref l ∧ TpK K H l (.str x :: xs) ∧ ¬ V.str x = V.str "open" ∧ ¬ V.str x = V.str "close" ∧ ¬ V.str x = V.str "bring" ∧ ¬ V.str x = V.str "all" := by
  have key : ∀ (x : Str) (ds : List PyData), Dt K H v (.tuple (.str x :: ds)) → (¬ V.str x = V.str "open" ∧ ¬ V.str x = V.str "close" ∧ ¬ V.str x = V.str "bring" ∧ ¬ V.str x = V.str "all") →
      ∃ (l : Addr) (x : Str) (xs : List V), v = .ref l ∧ TpK K H l (.str x :: xs) ∧ ¬ V.str x = V.str "open" ∧ ¬ V.str x = V.str "close" ∧ ¬ V.str x = V.str "bring" ∧ ¬ V.str x = V.str "all" := by
    intro x ds h n
    obtain ⟨l, xs, rfl, ht, g⟩ := h.inv
    obtain ⟨x1, ys, rfl, e1, g⟩ := g.c1
    obtain rfl := e1.s
    exact ⟨l, x, ys, rfl, ht, n⟩
  cases p with
  | make x t o n => exact key _ _ h (by decide +kernel)
  | put x t c => exact key _ _ h (by decide +kernel)
  | drop x c => exact key _ _ h (by decide +kernel)
  | see x c => exact key _ _ h (by decide +kernel)
theorem se_inv {e : Se} (h : Dt K H v e.d) : ∃ l an pl, v = .ref l ∧ TpK K H l [cntV e.limit, .int e.stamp, an, pl] ∧ Dt K H an e.answer ∧ Dt K H pl (plD e.place) := by
  obtain ⟨l, x1, x2, an, pl, rfl, ht, e1, e2, e3, e4⟩ := dt4 h
  obtain rfl := cnt_inv e1
  obtain rfl := e2.i
  exact ⟨l, an, pl, rfl, ht, e3, e4⟩
variable {kvs : List (Key × V)} {S : Ses} {x : Str} {e : Se}
theorem Ents.getS (g : Ents K H kvs (sesD S)) (h : lkA S x = some e) : ∃ v, valV kvs (Sum.inr x : Key) = some v ∧ Dt K H v e.d := by
  rcases g.get x with ⟨_, z⟩ | ⟨v, d, h1, h2, h3⟩
  · unfold sesD at z
    rw [lkA_map, h] at z
    cases z
  · unfold sesD at h2
    rw [lkA_map, h] at h2
    cases h2
    exact ⟨v, h1, h3⟩
theorem Ents.getS0 (g : Ents K H kvs (sesD S)) (h : lkA S x = none) : valV kvs (Sum.inr x : Key) = none := by
  rcases g.get x with ⟨z, _⟩ | ⟨v, d, h1, h2, h3⟩
  · exact z
  · unfold sesD at h2
    rw [lkA_map, h] at h2
    cases h2
theorem Ents.lenS (g : Ents K H kvs (sesD S)) : kvs.length = S.length := by rw [g.length]; unfold sesD mapA; rw [List.length_map]
theorem Ents.putS (hv : Dt K H v e.d) (g : Ents K H kvs (sesD S)) : Ents K H (putK kvs (Sum.inr x) v) (sesD (putA S x e)) := by
  have z := Ents.put hv g (k := x)
  unfold sesD at z ⊢
  rw [putA_map]
  exact z
theorem se_mk {l : Addr} {c : Option Nat} {n : Nat} {ni : Int} {an pl : V} {d : PyData} {p : Place} (h : TpK K H l [cntV c, .int ni, an, pl]) (hn : ni = (n : Int)) (h1 : Dt K H an d) (h2 : Dt K H pl (plD p)) : Dt K H (.ref l) (Se.d ⟨c, n, d, p⟩) := by
  subst hn
  refine .tup h (.cons ?_ (.cons (.int _) (.cons h1 (.cons h2 .nil))))
  cases c with
  | none => exact .non
  | some k => exact .int _
end
theorem filter_one {α : Type} {f : α → Bool} {y : α} : [y].filter f = if f y = true then [y] else [] := by simp [List.filter_cons]
theorem drop_at {α : Type} {l : List α} {i : Nat} {x : α} (h : l[i]? = some x) : l.drop i = x :: l.drop (i + 1) := by
  obtain ⟨hi, e⟩ := List.getElem?_eq_some_iff.mp h
  rw [List.drop_eq_getElem_cons hi, e]
theorem take_at {α : Type} {l : List α} {i : Nat} {x : α} (h : l[i]? = some x) : l.take (i + 1) = l.take i ++ [x] := by
  rw [List.take_succ, h]
  rfl
end Wn

/-! How long what is written is; formatted fields. -/
namespace Wn
open PySem PySem.Spec PyProof.Rows L2 TL
theorem bj_le (ts : List Str) : (bj ts).length ≤ (ts.map (·.length)).sum + ts.length := by
  have := PySem.StrLaws.join_length_le " " ts
  rw [len_bl, Nat.mul_one] at this
  exact this
theorem len_tb (b : Bool) : (tbT b).length ≤ 3 := by cases b <;> decide +kernel
theorem len_cnt {c : Option Nat} (h : CntOk c) : (cntT c).length ≤ 100 := by
  cases c with
  | none => decide +kernel
  | some n => exact num_le0 h
theorem len_own {c : Option Str} (h : ∀ x, c = some x → WordOk x) : (ownT c).length ≤ 8 := by
  cases c with
  | none => decide +kernel
  | some x => exact (h x rfl).2.1
theorem len_s {x : Str} (n : Nat) (h : x.length ≤ n := by decide +kernel) : x.length ≤ n := h
theorem small_big {n m : Nat} (h : n ≤ m) (hm : m ≤ 1000000 := by decide) : n < big := big_lt h (Nat.le_trans hm (by decide))
theorem len_tokP {p : Pl} (h : p.Ok) : (bj (tokP p)).length ≤ 400 := by
  refine Nat.le_trans (bj_le _) ?_
  cases p with
  | make x t o n =>
    have h1 := h.1.len
    have h2 := h.2.2.1.1
    have h3 := num_le0 (small_big h2)
    have h4 := len_tb o
    have h5 := len_tb n
    have h6 := len_s (x := "make") 4
    simp only [tokP, List.map_cons, List.map_nil, List.sum_cons, List.sum_nil, List.length_cons, List.length_nil]
    omega
  | put x t c =>
    have h1 := h.1.len
    have h2 := h.2.1.1
    have h3 := num_le0 (small_big h2)
    have h4 := len_cnt h.2.2
    have h6 := len_s (x := "put") 4
    simp only [tokP, List.map_cons, List.map_nil, List.sum_cons, List.sum_nil, List.length_cons, List.length_nil]
    omega
  | drop x c =>
    have h1 := h.1.len
    have h4 := len_cnt h.2.2
    have h6 := len_s (x := "drop") 4
    simp only [tokP, List.map_cons, List.map_nil, List.sum_cons, List.sum_nil, List.length_cons, List.length_nil]
    omega
  | see x c =>
    have h1 := h.1.len
    have h4 := len_cnt h.2
    have h6 := len_s (x := "see") 4
    simp only [tokP, List.map_cons, List.map_nil, List.sum_cons, List.sum_nil, List.length_cons, List.length_nil]
    omega
theorem bj_all {ps : List Pl} : bj (tokD (.all ps)) = bj ("all" :: num ps.length :: ps.map fun p => bj (tokP p)) := by
  show bj ("all" :: num ps.length :: (ps.map tokP).flatten) = _
  by_cases h : ps = []
  · subst h; rfl
  · have e : Str.join " " (ps.map fun p => bj (tokP p)) = Str.join " " (ps.map tokP).flatten := by
      have z := join_flat (y := " ") (l := ps.map tokP) fun a ha => by
        obtain ⟨p, _, rfl⟩ := List.mem_map.mp ha
        exact tokP_ne p
      rw [List.map_map] at z
      exact z
    have n1 : (ps.map tokP).flatten ≠ [] := by
      cases ps with
      | nil => exact absurd rfl h
      | cons p ps => exact fun z => tokP_ne p (List.append_eq_nil_iff.mp z).1
    have n2 : (ps.map fun p => bj (tokP p)) ≠ [] := by simpa using h
    rw [bj_cons (by simp), bj_cons n1, bj_cons (by simp), bj_cons n2]
    show _ ++ (_ ++ Str.join " " _) = _ ++ (_ ++ Str.join " " _)
    rw [e]
theorem len_tokD {d : De} (h : d.Ok) : (bj (tokD d)).length ≤ 3000 := by
  cases d with
  | plain p => exact Nat.le_trans (len_tokP h) (by decide)
  | all ps =>
    rw [bj_all]
    refine Nat.le_trans (bj_le _) ?_
    have h1 := num_le0 (small_big h.2.1)
    have h2 := sum_le (f := fun x : Str => x.length) (m := 400) (l := ps.map fun p => bj (tokP p)) fun x hx => by
      obtain ⟨p, hp, rfl⟩ := List.mem_map.mp hx
      exact len_tokP (h.2.2 p hp)
    have h3 := h.2.1
    have h6 := len_s (x := "all") 4
    simp only [List.map_cons, List.sum_cons, List.length_cons, List.length_map] at h2 ⊢
    omega
  | opn n =>
    refine Nat.le_trans (bj_le _) ?_
    have h1 := num_le0 (small_big h.2)
    have h6 := len_s (x := "open") 4
    simp only [tokD, List.map_cons, List.map_nil, List.sum_cons, List.sum_nil, List.length_cons, List.length_nil]
    omega
  | close => decide +kernel
  | bring => decide +kernel
theorem len_dot : (".": Str).length = 1 := by decide +kernel
theorem len_da : ("-": Str).length = 1 := by decide +kernel
theorem len_tokE {e : En} (h : e.Ok) : (bj (tokE e)).length ≤ 3200 := by
  cases e with
  | ask w s d =>
    show (bj ((w ++ "." ++ num s) :: tokD d)).length ≤ 3200
    rw [bj_cons (tokD_ne d)]
    have h1 := len_tokD h.2.2.2
    have h2 := h.1.2.1
    have h3 := num_le0 h.2.2.1
    simp only [PySem.Str.length_append, len_bl, len_dot]
    omega
  | fin w =>
    refine Nat.le_trans (bj_le _) ?_
    have h2 := h.2.1
    have h6 := len_s (x := "end") 4
    simp only [tokE, List.map_cons, List.map_nil, List.sum_cons, List.sum_nil, List.length_cons, List.length_nil]
    omega
theorem len_plT {p : Place} (h : PlaceOk p) : (plT p).length ≤ 201 := by
  have h1 := num_le0 h.1
  have h2 := num_le0 h.2
  unfold plT
  simp only [PySem.Str.length_append, len_dot]
  omega
theorem len_tokT {t : Thing} (h : t.Ok) : (bj (tokT t)).length ≤ 3500 := by
  show (bj (plT t.1 :: tokE t.2)).length ≤ 3500
  rw [bj_cons (tokE_ne _)]
  have h1 := len_tokE h.2
  have h2 := len_plT h.1
  simp only [PySem.Str.length_append, len_bl]
  omega
theorem len_tokN {x : Str} {e : Nd} (hx : PathOk x) (h : e.Ok) : (bj (tokN x e)).length ≤ 600 := by
  refine Nat.le_trans (bj_le _) ?_
  have h1 := hx.len
  have h2 := h.1.1
  have h3 := num_le0 (small_big h2)
  have h4 := num_le0 h.2.1
  have h5 := num_le0 h.2.2.1
  have h6 := len_own h.2.2.2
  simp only [tokN, List.map_cons, List.map_nil, List.sum_cons, List.sum_nil, List.length_cons, List.length_nil]
  omega
theorem nj_le (l : List Str) {m : Nat} (h : ∀ x ∈ l, x.length ≤ m) : (nj l).length ≤ l.length * (m + 1) := join_le (Nat.le_of_eq len_nl) h
theorem len_rowT {ts : List Thing} (h : ∀ t ∈ ts, t.Ok) : (rowT ts).length ≤ ts.length * 3501 := by
  have := nj_le (ts.map fun t => bj (tokT t)) (m := 3500) fun x hx => by
    obtain ⟨t, ht, rfl⟩ := List.mem_map.mp hx
    exact len_tokT (h t ht)
  rw [List.length_map] at this
  exact this
theorem len_nodesT {ps : Nds} (h : NOk ps) : (nodesT ps).length ≤ ps.length * 601 := by
  have := nj_le (ps.map fun p => bj (tokN p.1 p.2)) (m := 600) fun x hx => by
    obtain ⟨t, ht, rfl⟩ := List.mem_map.mp hx
    exact len_tokN (h t ht).1 (h t ht).2
  rw [List.length_map] at this
  exact this
theorem num_first (n : Nat) : ∃ c l, (num n).cps.toList = c :: l ∧ (V.str ⟨#[c]⟩ = V.str "0" ↔ n = 0) := by
  cases e : tl (num n) with
  | nil => exact absurd (by rw [← tl_numS]; exact e) (numL_ne n)
  | cons c l =>
    refine ⟨c, l, e, fun h => ?_, fun h => ?_⟩
    · have h2 := congrArg tl (V.str.inj h)
      have h3 : c = 48 := by
        have : [c] = [48] := h2.trans (by decide +kernel)
        exact (List.cons.inj this).1
      refine numL_head0 n ?_
      rw [← tl_numS, e, h3]
      rfl
    · subst h
      have h2 : tl (num 0) = [48] := by decide +kernel
      rw [h2] at e
      cases e
      decide +kernel
/-! the nodes by their paths -/
theorem Ents.perm {K : PySem.W.Frag} {H : Hp} {ks : List (Str × V)} {W : Nds} (g : Ents K H (ks.map fun p => (Sum.inr p.1, p.2)) (ndsD W)) : ∀ {zs : List (Str × V)}, zs.Perm ks → ∃ Ws : Nds, Ws.Perm W ∧ Ents K H (zs.map fun p => (Sum.inr p.1, p.2)) (ndsD Ws) := by
  intro zs hp
  have key : ∀ {ks zs : List (Str × V)}, ks.Perm zs → ∀ {W : Nds}, Ents K H (ks.map fun p => (Sum.inr p.1, p.2)) (ndsD W) → ∃ Ws : Nds, Ws.Perm W ∧ Ents K H (zs.map fun p => (Sum.inr p.1, p.2)) (ndsD Ws) := by
    intro ks zs hp
    induction hp with
    | nil => exact fun g => ⟨_, .refl _, g⟩
    | cons x h ih =>
      intro W g
      cases W with
      | nil => cases g
      | cons y W =>
        obtain ⟨y1, y2⟩ := y
        obtain ⟨x1, x2⟩ := x
        cases g with | cons g1 g2 =>
        obtain ⟨Ws, h1, h2⟩ := ih g2
        exact ⟨_ :: Ws, h1.cons _, .cons g1 h2⟩
    | swap x y l =>
      intro W g
      cases W with
      | nil => cases g
      | cons a W =>
        obtain ⟨a1, a2⟩ := a
        obtain ⟨x1, x2⟩ := x
        obtain ⟨y1, y2⟩ := y
        cases g with | cons g1 g2 =>
        cases W with
        | nil => cases g2
        | cons b W =>
          obtain ⟨b1, b2⟩ := b
          cases g2 with | cons g3 g4 =>
          exact ⟨_ :: _ :: W, .swap _ _ _, .cons g3 (.cons g1 g4)⟩
    | trans h1 h2 ih1 ih2 =>
      intro W g
      obtain ⟨W1, p1, g1⟩ := ih1 g
      obtain ⟨W2, p2, g2⟩ := ih2 g1
      exact ⟨W2, p2.trans p1, g2⟩
  exact key hp.symm g
theorem byp_of {K : PySem.W.Frag} {H : Hp} {kvs : List (Key × V)} {ks : List (Str × V)} {W : Nds} {ps : List (Addr × Str × V)} (he : Ents K H kvs (ndsD W)) (hks : kvs = ks.map fun p => (Sum.inr p.1, p.2))
    (hp : (ps.map fun x => x.2).Perm ks) (hs : (ps.map fun x => x.2.1).Pairwise fun x y => x.cps.toList < y.cps.toList) :
    ∃ Ws : Nds, Byp W Ws ∧ ps.length = Ws.length ∧ Ents K H ((ps.map fun x => x.2).map fun p => (Sum.inr p.1, p.2)) (ndsD Ws) := by
  subst hks
  obtain ⟨Ws, h1, h2⟩ := Ents.perm he hp
  have hk := h2.keysN
  rw [List.map_map, List.map_map] at hk
  have hk2 : (ps.map fun x => x.2.1) = Ws.map (·.1) := by
    have : (ps.map fun x => x.2.1).map (Sum.inr : Str → Key) = (Ws.map (·.1)).map Sum.inr := by
      rw [← hk, List.map_map]
      rfl
    exact (List.map_inj_right fun a b e => Sum.inr.inj e).mp this
  refine ⟨Ws, ⟨h1, hk2 ▸ hs⟩, ?_, h2⟩
  have := congrArg List.length hk2
  rw [List.length_map, List.length_map] at this
  exact this
theorem nb_app {x y : Str} (h : 32 ∉ tl x) (h2 : 32 ∉ tl y) : 32 ∉ tl (x ++ y) := fun m => by
  rw [tl_append] at m
  rcases List.mem_append.mp m with m | m
  · exact h m
  · exact h2 m
theorem dtCnt {K : PySem.W.Frag} {H : Hp} {c : Option Nat} : Dt K H (cntV c) (cntD c) := by
  cases c with
  | none => exact .non
  | some n => exact .int _
theorem dtOwn {K : PySem.W.Frag} {H : Hp} {c : Option Str} : Dt K H (ownV c) (ownD c) := by
  cases c with
  | none => exact .non
  | some n => exact .str _
theorem tokP_head (p : Pl) : ∃ x as, tokP p = x :: as ∧ 32 ∉ tl x ∧ (if false = true then !inV (V.str x) [V.str "close", V.str "bring"] else inV (V.str x) [V.str "close", V.str "bring"]) = false ∧ (¬ V.str x = V.str "open" ∧ ¬ V.str x = V.str "all") := by
  cases p with
  | make x t o n => exact ⟨_, _, rfl, by decide +kernel⟩
  | put x t c => exact ⟨_, _, rfl, by decide +kernel⟩
  | drop x c => exact ⟨_, _, rfl, by decide +kernel⟩
  | see x c => exact ⟨_, _, rfl, by decide +kernel⟩
theorem butUP {H H1 : Hp} {i D : Addr} {o : HO} (n : H D = none) (b : But i H H1) : But i H (upd H1 D o) := fun q o' ne e => by
  rw [upd_ne (ne_of_none e n)]
  exact b q o' ne e
theorem kpUP {H H1 : Hp} {D : Addr} {o : HO} (n : H D = none) (k : Kp H H1) : Kp H (upd H1 D o) := ⟨fun q xs e => by rw [upd_ne (ne_of_none e n)]; exact k.t _ _ e, fun q xs e => by rw [upd_ne (ne_of_none e n)]; exact k.d _ _ e⟩
theorem tokT_ne2 (t : Thing) : bj (tokT t) ≠ "" := fun e => by
  have z : 46 ∈ tl (bj (tokT t)) := by
    show 46 ∈ tl (bj (plT t.1 :: tokE t.2))
    rw [bj_cons (tokE_ne _), tl_append, tl_append]
    unfold plT
    rw [tl_append, tl_append, tl_dot]
    simp
  rw [e, em_str, tl_em] at z
  cases z
theorem tokN_ne2 {x : Str} {nd : Nd} (h : PathOk x) : bj (tokN x nd) ≠ "" := fun e => by
  have z : 47 ∈ tl (bj (tokN x nd)) := by
    obtain ⟨ps, _, rfl⟩ := h
    show 47 ∈ tl (bj (pathT ps :: [num nd.count, num nd.made, ownT nd.owner, num nd.text.length, nd.text]))
    rw [bj_cons (by simp), tl_append, tl_append, tl_pathT]
    simp
  rw [e, em_str, tl_em] at z
  cases z
/-! words of a row, read -/
theorem cutS_to {x r : Str} : cutS (x ++ r) none (some (x.length : Int)) = x := by
  refine ext_tl ?_
  unfold cutS
  rw [tl_mk, HT.sIx_none, HT.sIx_nat, List.drop_zero, Nat.sub_zero, PySem.Str.length_append, Nat.min_eq_left (by omega)]
  show (tl (x ++ r)).take x.length = tl x
  rw [tl_append, len_tl, List.take_left']
  rfl
theorem cutS_behind {x r : Str} : cutS (x ++ r) (some (x.length : Int)) none = r := by
  refine ext_tl ?_
  unfold cutS
  rw [tl_mk, HT.sIx_none, HT.sIx_nat, PySem.Str.length_append, Nat.min_eq_left (by omega)]
  show ((tl (x ++ r)).drop x.length).take (x.length + r.length - x.length) = tl r
  rw [tl_append, List.drop_left' (by rw [len_tl]), List.take_of_length_le (by rw [← len_tl]; omega)]
/-- the tokens that are left -/
def WdAt (K : PySem.W.Frag) (H : Hp) (i dx : Addr) (ts : List Str) : Prop := H i = some (.ins (He.ga K "Words") dx [("rest", .str (bj ts)), ("more", .bl (!ts.isEmpty))]) ∧ (bj ts).length ≤ 100000
theorem wdI {K : PySem.W.Frag} {H : Hp} {i dx : Addr} {ts : List Str} (h : WdAt K H i dx ts) : H i = some (.ins (He.ga K "Words") dx [("rest", .str (bj ts)), ("more", .bl (!ts.isEmpty))]) := h.1
theorem wdS {K : PySem.W.Frag} {H H' : Hp} {i dx : Addr} {ts : List Str} (s : L2.Same H H') (h : WdAt K H i dx ts) : WdAt K H' i dx ts := ⟨s _ _ h.1, h.2⟩
theorem wdB {K : PySem.W.Frag} {H H' : Hp} {i p dx : Addr} {ts : List Str} (b : But p H H') (n : i ≠ p) (h : WdAt K H i dx ts) : WdAt K H' i dx ts := ⟨b _ _ n h.1, h.2⟩
theorem putF0 {u v : V} : putF "more" v (putF "rest" u []) = ([("rest", u), ("more", v)] : List (Str × V)) := by
  show (if ("rest" : Str) = "more" then _ else _) = _
  rw [if_neg (by decide +kernel)]
  rfl
theorem putF1 {u a b : V} : putF "rest" u ([("rest", a), ("more", b)] : List (Str × V)) = ([("rest", u), ("more", b)] : List (Str × V)) := by
  show (if ("rest" : Str) = "rest" then _ else _) = _
  rw [if_pos rfl]
theorem putF2 {v a b : V} : putF "more" v ([("rest", a), ("more", b)] : List (Str × V)) = ([("rest", a), ("more", v)] : List (Str × V)) := by
  have n : ¬ ("rest" : Str) = "more" := by decide +kernel
  simp only [putF, if_neg n, if_true]
theorem em_dec : decide (V.str Str.empty = V.str "") = true := by decide +kernel
theorem bl_dec : decide (V.str " " = V.str "") = false := by decide +kernel
/-! formatted fields -/
section
variable {X : Cx} {e : Expr} {te : TE} {pos : Pos}
def tFmtS (te : TE) : TE := fun σ H Q => te σ H fun x H1 => ∃ y : Str, x = .str y ∧ y.length ≤ sizeLine ∧ Q (.str y) H1
theorem pe_fmtS (he : PE X e te) : PE X (.FormattedValue e (-1) none pos) (tFmtS te) := pe_wk (pe_fmtN (pe_up he)) fun σ H Q q => ⟨_, q, fun x H1 q1 => .inl q1⟩
def tFmtI (te : TE) : TE := fun σ H Q => te σ H fun x H1 => ∃ n : Nat, x = .int n ∧ n < big ∧ Q (.str (num n)) H1
theorem pe_fmtI (he : PE X e te) : PE X (.FormattedValue e (-1) none pos) (tFmtI te) := pe_wk (pe_fmtN (pe_up he)) fun σ H Q q => ⟨_, q, fun x H1 q1 => .inr q1⟩
end
end Wn

/-! Sorted texts, sets, dicts of pairs. -/
namespace Wn
open PySem PySem.Spec PyProof.Rows L2 TL
def ltS (x y : Str) : Prop := x.cps.toList < y.cps.toList
theorem ltS_of {x y : Str} (h : ¬ y.cps.toList < x.cps.toList) (n : x ≠ y) : x.cps.toList < y.cps.toList := by
  rcases List.le_iff_lt_or_eq.mp (List.not_lt.mp h) with z | z
  · exact z
  · exact absurd (ext_tl z) n
theorem sorted_lt : ∀ {ys : List Str}, ys.Nodup → sortedS ys = true → ys.Pairwise fun x y => x.cps.toList < y.cps.toList
  | [], _, _ => .nil
  | [x], _, _ => .cons (fun y hy => by cases hy) .nil
  | x :: y :: ys, nd, h => by
    have h : (!ltCps y.cps.toList x.cps.toList && risingS y ys) = true := h
    rw [Bool.and_eq_true, ltCps_eq] at h
    have h1 : ¬ y.cps.toList < x.cps.toList := by simpa using h.1
    rw [List.nodup_cons] at nd
    have ih := sorted_lt (ys := y :: ys) nd.2 h.2
    have l1 := ltS_of h1 fun e => nd.1 (by rw [e]; exact List.mem_cons_self)
    refine .cons (fun z hz => ?_) ih
    rcases List.mem_cons.mp hz with rfl | hz
    · exact l1
    · exact List.lt_trans l1 ((List.pairwise_cons.mp ih).1 z hz)
theorem pw_nodup {xs : List Str} (h : xs.Pairwise fun x y => x.cps.toList < y.cps.toList) : xs.Nodup := List.Pairwise.imp (fun {a b} z e => by subst e; exact ltL_irrefl _ z) h
theorem pw_uniq : ∀ {xs ys : List Str}, ys.Perm xs → (xs.Pairwise fun x y => x.cps.toList < y.cps.toList) → (ys.Pairwise fun x y => x.cps.toList < y.cps.toList) → ys = xs
  | xs, [], h, _, _ => by rw [h.symm.eq_nil]
  | [], q :: ys, h, _, _ => by cases h.eq_nil
  | p :: ps, q :: qs, h, hp, hq => by
    rw [List.pairwise_cons] at hp hq
    have e : q = p := by
      have h1 : p ∈ q :: qs := h.mem_iff.mpr List.mem_cons_self
      have h2 : q ∈ p :: ps := h.mem_iff.mp List.mem_cons_self
      rcases List.mem_cons.mp h1 with h1 | h1
      · exact h1.symm
      rcases List.mem_cons.mp h2 with h2 | h2
      · exact h2
      exact absurd (List.lt_trans (hq.1 p h1) (hp.1 q h2)) (ltL_irrefl _)
    subst e
    rw [pw_uniq (List.Perm.cons_inv h) hp.2 hq.2]
theorem sorted_uniq {xs ys : List Str} (h : ys.Perm xs) (hp : xs.Pairwise fun x y => x.cps.toList < y.cps.toList) (hs : sortedS ys = true) : ys = xs :=
  pw_uniq h hp (sorted_lt (h.nodup_iff.mpr (pw_nodup hp)) hs)
theorem inV_mem {x : Str} {l : List Str} (h : x ∈ l) : inV (V.str x) (l.map V.str) = true := by
  unfold inV
  rw [List.any_eq_true]
  exact ⟨V.str x, List.mem_map.mpr ⟨x, h, rfl⟩, by simp [eqV]⟩
theorem flat_str (l : List Str) : (l.map V.str).all flatV = true := by
  rw [List.all_eq_true]
  intro v hv
  obtain ⟨x, _, rfl⟩ := List.mem_map.mp hv
  rfl
theorem eqvAll_str : ∀ ys : List Str, PyData.eqvAll (ys.map PyData.str) (ys.map PyData.str) = true
  | [] => by simp [PyData.eqvAll]
  | y :: ys => by simp [PyData.eqvAll, PyData.eqv, eqvAll_str ys]
section
variable {K : PySem.W.Frag} {H : Hp} {l p : Addr} {Q : VK}
theorem neLs {ys : List Str} (ok : ∀ y ∈ ys, PyData.strOk y = true) (h1 : H l = some (.lst (ys.map V.str))) (h2 : H p = some (.lst (ys.map V.str))) (q : Q (.bl false) H) : rNeD K (.ref l) (.ref p) H Q := by
  refine ⟨_, _, .lst (SqL.of h1) (strDp ys), .lst (SqL.of h2) (strDp ys), strSh ok, strSh ok, ?_⟩
  have e : PyData.eqv (.list (ys.map PyData.str)) (.list (ys.map PyData.str)) = true := by
    simp only [PyData.eqv]
    exact eqvAll_str ys
  rw [e]
  exact q
end
/-! a dict of pairs -/
theorem putK_new {kvs : List (Key × V)} {k : Key} {v : V} (h : k ∉ kvs.map (·.1)) : putK kvs k v = kvs ++ [(k, v)] := by
  unfold putK
  rw [if_neg]
  intro z
  obtain ⟨q, m, e⟩ := List.any_eq_true.mp z
  exact h (List.mem_map.mpr ⟨q, m, of_decide_eq_true e⟩)
theorem mergeK_new : ∀ {more kvs : List (Key × V)}, ((kvs ++ more).map (·.1)).Nodup → mergeK kvs more = kvs ++ more
  | [], kvs, _ => by rw [List.append_nil]; rfl
  | m :: more, kvs, h => by
    have n : m.1 ∉ kvs.map (·.1) := fun z => by
      rw [List.map_append, List.nodup_append] at h
      exact h.2.2 _ z m.1 (by simp) rfl
    show mergeK (putK kvs m.1 m.2) more = _
    rw [putK_new n, mergeK_new (by rw [List.append_assoc]; exact h), List.append_assoc]
    rfl
theorem pairs_of {K : PySem.W.Frag} {H : Hp} : ∀ {ps : Nds} {xs : List V}, DtA K H xs (ps.map nodeD) → ∃ (as : List Addr) (kvs : List (Key × V)), xs = as.map V.ref ∧ Paired (fun a kv => SqT K H a [kV kv.1, kv.2]) as kvs ∧ Ents K H kvs (ndsD ps)
  | [], xs, h => by
    obtain rfl := h.c0
    exact ⟨[], [], rfl, .nil, .nil⟩
  | p :: ps, xs, h => by
    obtain ⟨x, ys, rfl, h1, h2⟩ := DtA.c1 h
    obtain ⟨as, kvs, e, hp, he⟩ := pairs_of h2
    obtain ⟨l, x1, x2, rfl, ht, e1, e2⟩ := dt2 h1
    obtain rfl := e1.s
    refine ⟨l :: as, (Sum.inr p.1, x2) :: kvs, by rw [e]; rfl, .cons (TpK.sq ht) hp, ?_⟩
    exact .cons e2 he
/-! the law's pool -/
/-- the pool of a draw -/
def Pool (H : Hp) (p : Addr) : Prop := ∃ a b : Int, H p = some (.lst [.int a, .int b]) ∧ 0 ≤ a ∧ 0 ≤ b ∧ b < 2147483647
theorem poolS {H H' : Hp} {p : Addr} (s : L2.Same H H') (h : Pool H p) : Pool H' p := by
  obtain ⟨a, b, e, r⟩ := h
  exact ⟨a, b, s _ _ e, r⟩
theorem poolB {H H' : Hp} {p q : Addr} (b : But q H H') (n : p ≠ q) (h : Pool H p) : Pool H' p := by
  obtain ⟨x, y, e, r⟩ := h
  exact ⟨x, y, b _ _ n e, r⟩
theorem cutV_at {xs : List V} {k : Nat} : cutV xs (some (k : Int)) (some ((k : Int) + 1)) = (xs.drop k).take 1 := by
  unfold cutV
  rw [show ((k : Int) + 1) = ((k + 1 : Nat) : Int) by omega, HT.sIx_nat, HT.sIx_nat]
  by_cases h : k < xs.length
  · rw [Nat.min_eq_left (by omega), Nat.min_eq_left (by omega), show k + 1 - k = 1 by omega]
  · rw [Nat.min_eq_right (by omega), Nat.min_eq_right (by omega), Nat.sub_self, List.take_zero, List.drop_of_length_le (by omega)]
    rfl
theorem cell_at (ns : List Int) (k : Nat) : ∃ (ys : List V) (c : Int), cutV (ns.map V.int) (some (k : Int)) (some ((k : Int) + 1)) = ys ∧ atI (ys ++ [V.int 0]) 0 = some (V.int c) ∧ ys.length ≤ 1 := by
  refine ⟨_, (ns.drop k).headD 0, cutV_at, atI_at (k := 0) ?_, by rw [List.length_take]; omega⟩
  rw [← List.map_drop]
  cases ns.drop k with
  | nil => rfl
  | cons c l => rfl
theorem joinL_em : ∀ ps : List (List Nat), joinL [] ps = ps.flatten
  | [] => rfl
  | [p] => by simp [joinL]
  | p :: q :: r => by
    show p ++ ([] ++ joinL [] (q :: r)) = _
    rw [joinL_em (q :: r)]
    simp
theorem wordA : WordOk "abcdefgh" := ⟨by decide +kernel, by decide +kernel, fun c hc => by
  have e : tl ("abcdefgh" : Str) = [97, 98, 99, 100, 101, 102, 103, 104] := by decide +kernel
  rw [e] at hc
  simp only [List.mem_cons, List.not_mem_nil, or_false] at hc
  omega⟩
theorem wordXa : WordOk "xa" := ⟨by decide +kernel, by decide +kernel, fun c hc => by
  have e : tl ("xa" : Str) = [120, 97] := by decide +kernel
  rw [e] at hc
  simp only [List.mem_cons, List.not_mem_nil, or_false] at hc
  omega⟩
theorem wordEnd : WordOk "end" := ⟨by decide +kernel, by decide +kernel, fun c hc => by
  have e : tl ("end" : Str) = [101, 110, 100] := by decide +kernel
  rw [e] at hc
  simp only [List.mem_cons, List.not_mem_nil, or_false] at hc
  omega⟩
theorem wordZz : WordOk "zz" := ⟨by decide +kernel, by decide +kernel, fun c hc => by
  have e : tl ("zz" : Str) = [122, 122] := by decide +kernel
  rw [e] at hc
  simp only [List.mem_cons, List.not_mem_nil, or_false] at hc
  omega⟩
/-- single signs -/
def Sgs (lo hi : Nat) (cs : List Nat) : List V := cs.map fun c => V.str ⟨#[c]⟩
theorem tl_signs (cs : List Nat) : tl (Str.join "" (cs.map fun c => (⟨#[c]⟩ : Str))) = cs := by
  rw [tl_join, em_str, tl_em, joinL_em, List.map_map]
  induction cs with
  | nil => rfl
  | cons c cs ih => rw [List.map_cons, List.flatten_cons, ih]; rfl
theorem sum_signs : ∀ cs : List Nat, ((cs.map fun c => (⟨#[c]⟩ : Str)).map (fun x : Str => x.length)).sum = cs.length
  | [] => rfl
  | c :: cs => by
    have h := sum_signs cs
    have e : (⟨#[c]⟩ : Str).length = 1 := rfl
    simp only [List.map_cons, List.sum_cons, List.length_cons, e] at h ⊢
    omega
theorem abcz_at {r : Int} (h0 : 0 ≤ r) (h : r < 4) : ∃ c, atI ("abcz" : Str).cps.toList r = some c ∧ 97 ≤ c ∧ c ≤ 122 := by
  have e : ("abcz" : Str).cps.toList = [97, 98, 99, 122] := by decide +kernel
  rw [e]
  have : r = 0 ∨ r = 1 ∨ r = 2 ∨ r = 3 := by omega
  rcases this with rfl | rfl | rfl | rfl
  · exact ⟨97, rfl, by decide⟩
  · exact ⟨98, rfl, by decide⟩
  · exact ⟨99, rfl, by decide⟩
  · exact ⟨122, rfl, by decide⟩
theorem line_at {r : Int} (h0 : 0 ≤ r) (h : r < 8) : ∃ c, atI ("ab 09!~ " : Str).cps.toList r = some c ∧ 32 ≤ c ∧ c ≤ 126 := by
  have e : ("ab 09!~ " : Str).cps.toList = [97, 98, 32, 48, 57, 33, 126, 32] := by decide +kernel
  rw [e]
  have : r = 0 ∨ r = 1 ∨ r = 2 ∨ r = 3 ∨ r = 4 ∨ r = 5 ∨ r = 6 ∨ r = 7 := by omega
  rcases this with rfl | rfl | rfl | rfl | rfl | rfl | rfl | rfl
  · exact ⟨97, rfl, by decide⟩
  · exact ⟨98, rfl, by decide⟩
  · exact ⟨32, rfl, by decide⟩
  · exact ⟨48, rfl, by decide⟩
  · exact ⟨57, rfl, by decide⟩
  · exact ⟨33, rfl, by decide⟩
  · exact ⟨126, rfl, by decide⟩
  · exact ⟨32, rfl, by decide⟩
/-- what is drawn -/
def TkRes (H : Hp) (p : Addr) (n : Int) (Q : VK) : Prop := ∀ (r : Int) (H' : Hp), But p H H' → Kp H H' → Pool H' p → 0 ≤ r → r < n → Q (.int r) H'
theorem count_lt {ps : List Str} (ok : PartsOk ps) (h : (Txt.count (pathT ps) "/" : Int) < 5) : ps.length ≤ 4 := by
  by_cases n : ps = []
  · subst n; exact Nat.zero_le _
  · have e : ("/" : Str) = ⟨#[47]⟩ := by decide +kernel
    have h1 := split_len (pathT ps) 47
    have h2 := count_cnt (pathT ps) 47
    rw [← e] at h1 h2
    rw [pathT_split n ok.2, ← h2, List.length_cons] at h1
    push_cast at h1
    omega
theorem pathT_more {ps : List Str} {x : Str} (n : ps ≠ []) : pathT ps ++ "/" ++ x = pathT (ps ++ [x]) := by
  unfold pathT
  rw [join_app n (by simp), PySem.Str.append_assoc, PySem.Str.append_assoc, PySem.Str.append_assoc]
  rfl
theorem partsOk_snoc {ps : List Str} {x : Str} (h : PartsOk ps) (h4 : ps.length ≤ 4) (hx : PartOk x) : PartsOk (ps ++ [x]) := by
  refine ⟨by rw [List.length_append, List.length_singleton]; omega, fun y hy => ?_⟩
  rcases List.mem_append.mp hy with hy | hy
  · exact h.2 y hy
  · rw [List.mem_singleton.mp hy]; exact hx
theorem last6 (m : Nat) : ∃ f : Str, cutS ("00000" ++ num m) (some (-6)) none = f ∧ f.length = 6 ∧ FigsOk f := by
  have e5 : tl ("00000" : Str) = [48, 48, 48, 48, 48] := by decide +kernel
  have l5 : ("00000" : Str).length = 5 := by decide +kernel
  have h1 : 1 ≤ (num m).length := by
    rw [len_tl, tl_numS]
    exact List.length_pos_iff.mpr (numL_ne m)
  have hs : HT.sIx (("00000" : Str) ++ num m).length 0 (some (-6)) = ("00000" ++ num m).length - 6 := by
    show (if (-6 : Int) < 0 then (-6 + ((("00000" : Str) ++ num m).length : Int)).toNat else min (-6 : Int).toNat (("00000" : Str) ++ num m).length) = _
    rw [if_pos (by decide)]
    omega
  have hl : (("00000" : Str) ++ num m).length = 5 + (num m).length := by rw [PySem.Str.length_append, l5]
  have ht : tl (cutS ("00000" ++ num m) (some (-6)) none) = (tl ("00000" ++ num m)).drop (("00000" ++ num m).length - 6) := by
    unfold cutS
    rw [tl_mk, hs, HT.sIx_none]
    refine List.take_of_length_le ?_
    rw [List.length_drop]
    exact Nat.le_of_eq rfl
  refine ⟨_, rfl, ?_, fun c hc => ?_⟩
  · rw [len_tl, ht, List.length_drop, ← len_tl]
    omega
  · rw [ht] at hc
    have hc := List.mem_of_mem_drop hc
    rw [tl_append, e5] at hc
    rcases List.mem_append.mp hc with hc | hc
    · simp only [List.mem_cons, List.not_mem_nil, or_false] at hc
      omega
    · exact num_signs m c hc
theorem numbered_ok {ps : List Str} {w f : Str} (ok : PartsOk (ps ++ [w])) (hw : WordOk w) (h6 : f.length = 6) (hf : FigsOk f) : PathOk (pathT (ps ++ [w]) ++ "-" ++ f) := by
  refine ⟨ps ++ [w ++ "-" ++ f], ⟨by have := ok.1; simp only [List.length_append, List.length_singleton] at this ⊢; exact this, fun p hp => ?_⟩, by rw [pathT_snoc, pathT_snoc]⟩
  rcases List.mem_append.mp hp with hp | hp
  · exact ok.2 p (List.mem_append.mpr (.inl hp))
  · rw [List.mem_singleton.mp hp]
    exact .inr ⟨w, f, rfl, hw, h6, hf⟩
/-! with an abstract heap -/
section
variable {X : Cx}
def rSetXA (K : PySem.W.Frag) (w : World) : List V → Hp → VK → Prop := fun vs H Q => ∃ (l : Addr) (xs : List Str), vs = [.ref l] ∧ H l = some (.lst (xs.map V.str)) ∧ xs.length < 64 ∧ xs.Nodup ∧ ∀ (p : Addr) (H' : Hp), L2.Same H H' → H p = none → H' p = some (SetXO w p xs.reverse) → Q (.ref p) H'
theorem cr_setXA (hc : X.calm = true) : CallR X (.type "set") (rSetXA X.K X.w) := by
  intro pins s σ H vs us Q I r h
  obtain ⟨l, xs, e1, e2, e3, e4, q⟩ := h
  exact cr_setX hc pins s σ H vs us Q I r ⟨l, xs, e1, SqL.of e2, e3, e4, fun p n => q p _ (sameUpd n) n upd_same⟩
def rSortedXA (w : World) : List V → Hp → VK → Prop := fun vs H Q => ∃ (a : Addr) (ks : List Str), vs = [.ref a] ∧ H a = some (SetXO w a ks) ∧ ks.length < 64 ∧
  ∀ (ys : List Str) (p : Addr) (H' : Hp), ys.Perm ks → sortedS ys = true → L2.Same H H' → H p = none → H' p = some (.lst (ys.map V.str)) → Q (.ref p) H'
theorem cr_sortedXA (hc : X.calm = true) : CallR X (.builtin "sorted") (rSortedXA X.w) := by
  intro pins s σ H vs us Q I r h
  obtain ⟨a, ks, e1, e2, e3, q⟩ := h
  exact cr_sortedX hc pins s σ H vs us Q I r ⟨a, ks, e1, e2, e3, fun ys p h1 h2 n => q ys p _ h1 h2 (sameUpd n) n upd_same⟩
def rDictPA (K : PySem.W.Frag) : List V → Hp → VK → Prop := fun vs H Q => ∃ (a : Addr) (xs : List V) (ps : Nds), vs = [.ref a] ∧ H a = some (.lst xs) ∧ DtA K H xs (ps.map nodeD) ∧ (ps.map (·.1)).Nodup ∧ ∀ (p : Addr) (H' : Hp), L2.Same H H' → H p = none → Web K H' p (ndsD ps) → Q (.ref p) H'
theorem call_dictPA (hc : X.calm = true) : CallR X (.type "dict") (rDictPA X.K) := by
  intro pins s σ H vs us Q I r h
  obtain ⟨a, xs, ps, e1, e2, e3, nd, q⟩ := h
  obtain ⟨as, kvs, rfl, hp, he⟩ := pairs_of e3
  refine call_dictP hc pins s σ H vs us Q I r ⟨a, as, kvs, e1, SqL.of e2, hp, fun p n => q p _ (sameUpd n) n ?_⟩
  have hm : mergeK [] kvs = kvs := by
    have hk := he.keysN
    have := mergeK_new (kvs := []) (more := kvs) (by
      rw [List.nil_append, hk]
      exact List.pairwise_map.mpr (nd.imp fun {a b} z e => z (Sum.inr.inj e)))
    rw [List.nil_append] at this
    exact this
  rw [hm]
  exact ⟨kvs, upd_same, he.ts (kpSame (sameUpd n)).t⟩
def rIntB : List V → Hp → VK → Prop := fun xs H Q => ∃ k : Bool, xs = [.bl k] ∧ Q (.int (if k then 1 else 0)) H
theorem call_intB : CallR X (.type "int") rIntB := fun pins s σ H xs us Q I r h => call_int1 pins s σ H xs us Q I r (.inr h)
end
end Wn

/-! Plain facts for the law: dicts of nodes alike, the written dict. -/
namespace Wn
open PySem PySem.Spec PyProof.Rows L2 TL
def kd (W : List (Str × PyData)) : List (Key × PyData) := W.map fun p => ((Sum.inr p.1 : Key), p.2)
theorem Ents.dk {K : PySem.W.Frag} {H : Hp} : ∀ {kvs : List (Key × V)} {W : List (Str × PyData)}, Ents K H kvs W → (∀ p ∈ W, SeqAt.shaped p.2 = true) → DK K H kvs (kd W)
  | _, _, .nil, _ => .nil
  | _, _, .cons (k := k) (d := d) h g, hs => .cons ⟨rfl, h.dp, hs (k, d) List.mem_cons_self⟩ (Ents.dk g fun p hp => hs p (List.mem_cons_of_mem _ hp))
theorem lk_kd (k : Str) (W : List (Str × PyData)) : lk (kd W) (Sum.inr k) = lkA W k := by
  unfold lk kd lkA
  rw [List.find?_map, Option.map_map]
  have e : ((fun p : Key × PyData => decide (p.1 = Sum.inr k)) ∘ fun p : Str × PyData => ((Sum.inr p.1 : Key), p.2)) = fun p => decide (p.1 = k) := by
    funext p
    simp
  rw [e]
  rfl
theorem eqK_of {W W' : List (Str × PyData)} (nd : (W'.map (·.1)).Nodup) (hl : W.length = W'.length) (hs : ∀ p ∈ W, p ∈ W') (hc : ∀ p ∈ W, p.2.canLay0 = true) : eqK (kd W) (kd W') = true := by
  unfold eqK
  rw [Bool.and_eq_true, beq_iff_eq, List.all_eq_true]
  refine ⟨by unfold kd; rw [List.length_map, List.length_map]; exact hl, fun q hq => ?_⟩
  obtain ⟨p, hp, rfl⟩ := List.mem_map.mp hq
  show (match lk (kd W') (Sum.inr p.1) with | some u => PyData.eqv p.2 u | none => false) = true
  rw [lk_kd, lkA_of_mem nd (hs p hp)]
  exact eqv_refl _ (hc p hp)
theorem eqK_self {W : List (Str × PyData)} (nd : (W.map (·.1)).Nodup) (hc : ∀ p ∈ W, p.2.canLay0 = true) : eqK (kd W) (kd W) = true := eqK_of nd rfl (fun _ h => h) hc
theorem perm_sub {α : Type} : ∀ {l m : List α}, l.Nodup → (∀ x ∈ l, x ∈ m) → m.length ≤ l.length → l.Perm m
  | [], m, _, _, h => by rw [List.eq_nil_of_length_eq_zero (Nat.le_zero.mp h)]
  | x :: l, m, nd, s, h => by
    obtain ⟨a, b, rfl⟩ := List.append_of_mem (s x List.mem_cons_self)
    rw [List.nodup_cons] at nd
    have h2 : l.Perm (a ++ b) := by
      refine perm_sub nd.2 (fun y hy => ?_) ?_
      · have := s y (List.mem_cons_of_mem _ hy)
        rcases List.mem_append.mp this with z | z
        · exact List.mem_append_left _ z
        · rcases List.mem_cons.mp z with z | z
          · subst z; exact absurd hy nd.1
          · exact List.mem_append_right _ z
      · simp only [List.length_append, List.length_cons] at h ⊢
        omega
    exact (h2.cons x).trans List.perm_middle.symm
/-- nodes with their text's order -/
structure Gd (W ps : Nds) : Prop where
  nd : (W.map (·.1)).Nodup
  by_ : Byp W ps
  ok : NOk ps
  ne : ps ≠ []
  sz : W.length ≤ 60
theorem Gd.okW {W ps : Nds} (g : Gd W ps) : ∀ p ∈ W, PathOk p.1 ∧ p.2.Ok := fun p hp => g.ok p (g.by_.1.mem_iff.mpr hp)
theorem Gd.lay {W ps : Nds} (g : Gd W ps) : ∀ p ∈ ndsD W, SeqAt.shaped p.2 = true ∧ p.2.canLay0 = true := by
  intro p hp
  unfold ndsD mapA at hp
  obtain ⟨q, hq, rfl⟩ := List.mem_map.mp hp
  have f := Nd.fit (g.okW q hq).2
  exact ⟨f.shaped, f.lay⟩
theorem ndsD_keys (W : Nds) : (ndsD W).map (·.1) = W.map (·.1) := keys_map Nd.d W
theorem Gd.alike {W ps W' ps' : Nds} (g : Gd W ps) (g' : Gd W' ps') : eqK (kd (ndsD W)) (kd (ndsD W')) = decide (nodesT ps = nodesT ps') := by
  have nd1 := g.nd
  have nd2 := g'.nd
  by_cases c : nodesT ps = nodesT ps'
  · rw [decide_eq_true c]
    have e := nodesT_inj g.ok g'.ok g.ne g'.ne c
    subst e
    have hp : W.Perm W' := g.by_.1.symm.trans g'.by_.1
    refine eqK_of (by rw [ndsD_keys]; exact nd2) ?_ (fun p hm => ?_) fun p hm => (g.lay p hm).2
    · unfold ndsD mapA
      rw [List.length_map, List.length_map]
      exact hp.length_eq
    · exact (hp.map _).mem_iff.mp hm
  · rw [decide_eq_false c]
    refine Bool.eq_false_iff.mpr fun h => c ?_
    unfold eqK at h
    rw [Bool.and_eq_true, beq_iff_eq, List.all_eq_true] at h
    have hl : W.length = W'.length := by
      have := h.1
      unfold kd ndsD mapA at this
      simpa only [List.length_map] using this
    have hs : ∀ p ∈ W, p ∈ W' := fun p hp => by
      have z := h.2 ((Sum.inr p.1 : Key), p.2.d) (by
        unfold kd ndsD mapA
        rw [List.map_map]
        exact List.mem_map.mpr ⟨p, hp, rfl⟩)
      have z : (match lk (kd (ndsD W')) (Sum.inr p.1) with | some u => PyData.eqv p.2.d u | none => false) = true := z
      rw [lk_kd] at z
      unfold ndsD at z
      rw [lkA_map] at z
      cases e : lkA W' p.1 with
      | none => rw [e] at z; exact absurd z (by simp)
      | some u =>
        rw [e] at z
        have z : PyData.eqv p.2.d u.d = true := z
        have e2 := eqv_nd z
        have := lkA_mem e
        rw [← e2] at this
        exact this
    have hp : W.Perm W' := perm_sub (nodup_of_map nd1) hs (Nat.le_of_eq hl.symm)
    have : ps = ps' := byp_uniq ((g.by_.1.trans hp).trans g'.by_.1.symm) g.by_.2 g'.by_.2
    rw [this]
theorem StOk.gd {n : Nat} {st : State} (h : StOk n st) (hn : 6 * n < big) {ps : Nds} (hp : Byp st.1 ps) : Gd st.1 ps := by
  refine ⟨h.ok.nd, hp, h.nok hn hp.1, fun z => ?_, h.ok.size⟩
  obtain ⟨e, he, _⟩ := h.tr.root
  have := hp.1.mem_iff.mpr (lkA_mem he)
  rw [z] at this
  exact nomatch this
theorem StOk.okW {n : Nat} {st : State} (h : StOk n st) (hn : 6 * n < big) : ∀ p ∈ st.1, PathOk p.1 ∧ p.2.Ok := h.nok hn (List.Perm.refl _)
theorem Gd.self {W ps : Nds} (g : Gd W ps) : Gd ps ps := ⟨by
    have := (g.by_.1.map (·.1)).nodup_iff.mpr g.nd
    exact this, ⟨List.Perm.refl _, g.by_.2⟩, g.ok, g.ne, by rw [g.by_.1.length_eq]; exact g.sz⟩
theorem Gd.split {W ps : Nds} (g : Gd W ps) : Txt.split (nodesT ps) "\n" = ps.map fun p => bj (tokN p.1 p.2) := nodesT_lines g.ok g.ne
theorem SOk.lay {n : Nat} {S : Ses} (h : SOk n S) : (∀ p ∈ sesD S, SeqAt.shaped p.2 = true ∧ p.2.canLay0 = true) ∧ ((sesD S).map (·.1)).Nodup := by
  refine ⟨fun p hp => ?_, ?_⟩
  · unfold sesD mapA at hp
    obtain ⟨q, hq, rfl⟩ := List.mem_map.mp hp
    have f := Se.sh (h.ans q hq).1
    exact ⟨f.shaped, f.lay⟩
  · unfold sesD
    rw [keys_map]
    exact h.nd
/-- what the law has written: texts and their nodes -/
def Wrt (K : PySem.W.Frag) (H : Hp) (pw : Addr) (ks : List (Str × V)) : Prop := (ks.map (·.1)).Nodup ∧ ∀ p ∈ ks, ∃ (a : Addr) (W ps : Nds), a ≠ pw ∧ p.2 = .ref a ∧ p.1 = nodesT ps ∧ Web K H a (ndsD W) ∧ Gd W ps
theorem Wrt.same {K : PySem.W.Frag} {H H' : Hp} {pw : Addr} {ks : List (Str × V)} (s : L2.Same H H') (h : Wrt K H pw ks) : Wrt K H' pw ks := by
  refine ⟨h.1, fun p hp => ?_⟩
  obtain ⟨a, W, ps, n, e1, e2, hw, g⟩ := h.2 p hp
  exact ⟨a, W, ps, n, e1, e2, hw.kp (kpSame s), g⟩
theorem Wrt.but {K : PySem.W.Frag} {H H' : Hp} {pw : Addr} {ks : List (Str × V)} (b : But pw H H') (t : Ts H H') (h : Wrt K H pw ks) : Wrt K H' pw ks := by
  refine ⟨h.1, fun p hp => ?_⟩
  obtain ⟨a, W, ps, n, e1, e2, hw, g⟩ := h.2 p hp
  exact ⟨a, W, ps, n, e1, e2, webB b t n hw, g⟩
theorem Wrt.put {K : PySem.W.Frag} {H : Hp} {pw : Addr} {ks : List (Str × V)} (h : Wrt K H pw ks) {a : Addr} {W ps : Nds} (n : a ≠ pw) (hw : Web K H a (ndsD W)) (g : Gd W ps) : Wrt K H pw (putA ks (nodesT ps) (.ref a)) := by
  refine ⟨putA_nodup h.1, fun p hp => ?_⟩
  rcases putA_mem hp with rfl | ⟨hp, _⟩
  · exact ⟨a, W, ps, n, rfl, rfl, hw, g⟩
  · exact h.2 p hp
theorem text_blank {ps : Nds} (h : ps ≠ []) : 32 ∈ tl (nodesT ps) := by
  cases ps with
  | nil => exact absurd rfl h
  | cons p ps =>
    have h1 : 32 ∈ tl (bj (tokN p.1 p.2)) := by
      unfold tokN
      rw [bj_cons (by simp), tl_append, tl_append]
      exact List.mem_append_left _ (List.mem_append_right _ (by decide +kernel))
    unfold nodesT
    by_cases c : ps = []
    · subst c
      exact h1
    · rw [List.map_cons]
      unfold nj
      rw [join_cons (by simpa using c), tl_append, tl_append]
      exact List.mem_append_left _ (List.mem_append_left _ h1)
/-- the written dict is no web -/
theorem Wrt.ne {K : PySem.W.Frag} {H : Hp} {pw a : Addr} {ks : List (Str × V)} (h : Wrt K H pw ks) (hp : H pw = some (.dK (ks.map fun p => (Sum.inr p.1, p.2)))) {W ps : Nds} (hw : Web K H a (ndsD W)) (g : Gd W ps) : a ≠ pw := by
  rintro rfl
  obtain ⟨kvs, hd, he⟩ := hw
  rw [hp] at hd
  cases hd
  have hk := he.keys
  rw [ndsD_keys, List.map_map, List.map_map] at hk
  have hn : W ≠ [] := fun z => g.ne (by subst z; exact g.by_.1.eq_nil)
  cases W with
  | nil => exact hn rfl
  | cons q W =>
    cases ks with
    | nil => exact absurd hk (by simp)
    | cons p ks =>
      rw [List.map_cons, List.map_cons] at hk
      have e := Sum.inr.inj (List.cons.inj hk).1
      have e : p.1 = q.1 := e
      obtain ⟨_, _, ps2, _, _, e2, _, g2⟩ := h.2 p List.mem_cons_self
      have hb := text_blank g2.ne
      rw [← e2, e] at hb
      exact path_nb (g.okW q List.mem_cons_self).1 hb
/-- sorted(e.items()), as data -/
theorem items_dt {K : PySem.W.Frag} {H : Hp} : ∀ {zs : List (Addr × Str × V)} {ps : Nds}, Ents K H ((zs.map fun x => x.2).map fun p => (Sum.inr p.1, p.2)) (ndsD ps) → (∀ z ∈ zs, H z.1 = some (.tup [.str z.2.1, z.2.2])) → DtA K H (zs.map fun z => V.ref z.1) (ps.map nodeD)
  | [], [], _, _ => .nil
  | [], p :: ps, h, _ => by cases h
  | z :: zs, [], h, _ => by cases h
  | z :: zs, p :: ps, h, ht => by
    unfold ndsD mapA at h
    rw [List.map_cons, List.map_cons, List.map_cons] at h
    obtain ⟨za, zx, zv⟩ := z
    obtain ⟨px, pn⟩ := p
    cases h with
    | cons hd he => exact .cons (Dt.tup (TpK.of (ht _ List.mem_cons_self)) (.cons (.str _) (.cons hd .nil))) (items_dt he fun z hz => ht z (List.mem_cons_of_mem _ hz))
theorem sort_dp {K : PySem.W.Frag} {H H' : Hp} {kvs : List (Key × V)} {ks : List (Str × V)} {W ps : Nds} {zs : List (Addr × Str × V)} {l : Addr} (he : Ents K H kvs (ndsD W)) (hks : kvs = ks.map fun p => (Sum.inr p.1, p.2)) (g : Gd W ps) (s : L2.Same H H')
    (hp : (zs.map fun x => x.2).Perm ks) (hs : (zs.map fun x => x.2.1).Pairwise fun x y => x.cps.toList < y.cps.toList) (hl : H' l = some (.lst (zs.map fun z => V.ref z.1))) (ht : ∀ z ∈ zs, H' z.1 = some (.tup [.str z.2.1, z.2.2])) : Dp K H' (.ref l) (.list (ps.map nodeD)) := by
  obtain ⟨Ws, hb, _, hE⟩ := byp_of he hks hp hs
  have e : Ws = ps := byp_uniq (hb.1.trans g.by_.1.symm) hb.2 g.by_.2
  subst e
  exact Dp.lst (.inl (.inl hl)) (DtA.dp (items_dt (hE.ts (kpSame s).t) ht))
theorem Gd.fit {W ps : Nds} (g : Gd W ps) : Fit (.list (ps.map nodeD)) 3 600000 := nodes_fit g.ok (by rw [g.by_.1.length_eq]; exact g.sz)
theorem Ents.ks {K : PySem.W.Frag} {H : Hp} {kvs : List (Key × V)} {W ps : Nds} (he : Ents K H kvs (ndsD W)) (g : Gd W ps) : ∃ ks : List (Str × V), kvs = ks.map (fun p => (Sum.inr p.1, p.2)) ∧ ks.length < 64 := by
  obtain ⟨ks, e, hk⟩ := he.cut
  refine ⟨ks, e, ?_⟩
  have := congrArg List.length hk
  have h60 := g.sz
  unfold ndsD mapA at this
  rw [List.length_map, List.length_map, List.length_map] at this
  omega
theorem Gd.len {W ps : Nds} (g : Gd W ps) : (nodesT ps).length + 2 ≤ sizeLine := by
  have := nj_le (ps.map fun p => bj (tokN p.1 p.2)) (m := 600) fun x hx => by
    obtain ⟨t, ht, rfl⟩ := List.mem_map.mp hx
    exact len_tokN (g.ok t ht).1 (g.ok t ht).2
  have h60 := g.sz
  rw [List.length_map, g.by_.1.length_eq] at this
  have h5 : W.length * 601 ≤ 60 * 601 := Nat.mul_le_mul_right _ h60
  exact Nat.le_trans (m := 40000) (by unfold nodesT; omega) (by decide)
theorem cutV_take {xs : List V} (i : Nat) : cutV xs none (some ((0 : Int) + (i : Int))) = xs.take i := by
  rw [Int.zero_add]
  exact cutV_to _ i
/-! ### signs of what is written -/
def LO (x : Str) : Prop := ∀ c ∈ tl x, c ≤ 126
theorem LO.strOk {x : Str} (h : LO x) : PyData.strOk x = true := strOk_of h
theorem lo_join {y : Str} {ts : List Str} (hy : LO y) (h : ∀ t ∈ ts, LO t) : LO (Str.join y ts) := fun c m => by
  rw [tl_join] at m
  rcases joinL_mem m with m | ⟨p, hp, m⟩
  · exact hy c m
  · obtain ⟨t, ht, rfl⟩ := List.mem_map.mp hp
    exact h t ht c m
theorem lo_s {x : Str} (h : ∀ c ∈ tl x, c ≤ 126 := by decide +kernel) : LO x := h
theorem lo_bj {ts : List Str} (h : ∀ t ∈ ts, LO t) : LO (bj ts) := lo_join lo_s h
theorem lo_nj {ts : List Str} (h : ∀ t ∈ ts, LO t) : LO (nj ts) := lo_join lo_s h
theorem lo_c {t : Str} {ts : List Str} (h : LO t) (h2 : ∀ t ∈ ts, LO t) : ∀ u ∈ t :: ts, LO u := by
  intro u hu
  rcases List.mem_cons.mp hu with rfl | hu
  · exact h
  · exact h2 u hu
theorem lo_nil : ∀ u ∈ ([] : List Str), LO u := fun u hu => by cases hu
theorem lo_num (n : Nat) : LO (num n) := fun c m => by have := num_signs n c m; omega
theorem lo_path {x : Str} (h : PathOk x) : LO x := fun c m => by have := h.signs c m; omega
theorem lo_word {x : Str} (h : WordOk x) : LO x := fun c m => by have := h.2.2 c m; omega
theorem lo_text {x : Str} (h : TextOk x) : LO x := fun c m => (h.2 c m).2
theorem lo_tb (b : Bool) : LO (tbT b) := by cases b <;> exact lo_s
theorem lo_cnt (c : Option Nat) : LO (cntT c) := by
  cases c with
  | none => exact lo_s
  | some n => exact lo_num n
theorem lo_own {c : Option Str} (h : ∀ x, c = some x → WordOk x) : LO (ownT c) := by
  cases c with
  | none => exact lo_s
  | some x => exact lo_word (h x rfl)
theorem lo_app {x y : Str} (h : LO x) (h2 : LO y) : LO (x ++ y) := fun c m => by
  rw [tl_append] at m
  rcases List.mem_append.mp m with m | m
  · exact h c m
  · exact h2 c m
theorem lo_tokP {p : Pl} (h : p.Ok) : ∀ u ∈ tokP p, LO u := by
  cases p with
  | make x t o n => exact lo_c lo_s (lo_c (lo_path h.1) (lo_c (lo_tb o) (lo_c (lo_tb n) (lo_c (lo_num _) (lo_c (lo_text h.2.2.1) lo_nil)))))
  | put x t c => exact lo_c lo_s (lo_c (lo_path h.1) (lo_c (lo_cnt c) (lo_c (lo_num _) (lo_c (lo_text h.2.1) lo_nil))))
  | drop x c => exact lo_c lo_s (lo_c (lo_path h.1) (lo_c (lo_cnt c) lo_nil))
  | see x c => exact lo_c lo_s (lo_c (lo_path h.1) (lo_c (lo_cnt c) lo_nil))
theorem lo_tokD {d : De} (h : d.Ok) : ∀ u ∈ tokD d, LO u := by
  cases d with
  | plain p => exact lo_tokP h
  | all ps =>
    refine lo_c lo_s (lo_c (lo_num _) fun u hu => ?_)
    obtain ⟨a, ha, hu⟩ := List.mem_flatten.mp hu
    obtain ⟨p, hp, rfl⟩ := List.mem_map.mp ha
    exact lo_tokP (h.2.2 p hp) u hu
  | opn n => exact lo_c lo_s (lo_c (lo_num _) lo_nil)
  | close => exact lo_c lo_s lo_nil
  | bring => exact lo_c lo_s lo_nil
theorem lo_tokE {e : En} (h : e.Ok) : ∀ u ∈ tokE e, LO u := by
  cases e with
  | ask w s d => exact lo_c (lo_app (lo_app (lo_word h.1) lo_s) (lo_num _)) (lo_tokD h.2.2.2)
  | fin w => exact lo_c lo_s (lo_c (lo_word h) lo_nil)
theorem lo_tokT {t : Thing} (h : t.Ok) : ∀ u ∈ tokT t, LO u := lo_c (lo_app (lo_app (lo_num _) lo_s) (lo_num _)) (lo_tokE h.2)
theorem lo_tokN {x : Str} {e : Nd} (hx : PathOk x) (h : e.Ok) : ∀ u ∈ tokN x e, LO u :=
  lo_c (lo_path hx) (lo_c (lo_num _) (lo_c (lo_num _) (lo_c (lo_own h.2.2.2) (lo_c (lo_num _) (lo_c (lo_text h.1) lo_nil)))))
theorem Gd.lo {W ps : Nds} (g : Gd W ps) : LO (nodesT ps) := lo_nj fun t ht => by
  obtain ⟨p, hp, rfl⟩ := List.mem_map.mp ht
  exact lo_bj (lo_tokN (g.ok p hp).1 (g.ok p hp).2)
/-- texts as data -/
theorem sh_lst {ds : List PyData} {k k' : Nat} (h : ∀ d ∈ ds, Sh d k) (hk : k + 1 ≤ k' := by decide) : Sh (.list ds) k' := by
  have z := sh_all h
  refine ⟨by simp only [PyData.canLay0]; exact z.1, ?_⟩
  simp only [PyData.depth]
  have := z.2
  omega
theorem sh_strs {ys : List Str} (h : ∀ y ∈ ys, LO y) {k : Nat} : Sh (.list (ys.map PyData.str)) (k + 1) := sh_lst (k := k) (fun d hd => by
  obtain ⟨y, hy, rfl⟩ := List.mem_map.mp hd
  exact sh_str (h y hy).strOk) (by omega)
theorem dt_strs {K : PySem.W.Frag} {H : Hp} : ∀ ys : List Str, DtA K H (ys.map V.str) (ys.map PyData.str)
  | [] => .nil
  | y :: ys => .cons (.str y) (dt_strs ys)
theorem dp_strs {K : PySem.W.Frag} {H : Hp} {a : Addr} {ys : List Str} (h : H a = some (.lst (ys.map V.str))) : Dp K H (.ref a) (.list (ys.map PyData.str)) := Dp.lst (.inl (.inl h)) (DtA.dp (dt_strs ys))
theorem eqv_strs {ys : List Str} (h : ∀ y ∈ ys, LO y) : PyData.eqv (.list (ys.map PyData.str)) (.list (ys.map PyData.str)) = true := eqv_refl _ (sh_strs h (k := 0)).lay
theorem alike_in {t : Str} (ht : LO t) {al : List Str} (h : al = [] ∨ al = [t]) : ([PyData.list (([] : List Str).map PyData.str), PyData.list ([t].map PyData.str)].any fun z => PyData.eqv z (.list (al.map PyData.str))) = true := by
  rw [List.any_cons, List.any_cons, List.any_nil]
  rcases h with rfl | rfl
  · rw [eqv_strs lo_nil]; rfl
  · rw [eqv_strs (lo_c ht lo_nil), Bool.true_or, Bool.or_true]
/-- two states of the same row are alike -/
theorem neP_states {K : PySem.W.Frag} {H : Hp} {Q : VK} {t1 t2 w1 s1 w2 s2 : Addr} {n : Nat} {st : State} (k : StOk n st) (hb : 6 * n < big) (h1 : H t1 = some (.tup [.ref w1, .ref s1])) (h2 : H t2 = some (.tup [.ref w2, .ref s2])) (a1 : Web K H w1 (ndsD st.1)) (b1 : Web K H s1 (sesD st.2))
    (a2 : Web K H w2 (ndsD st.1)) (b2 : Web K H s2 (sesD st.2)) (q : Q (.bl false) H) : rNeP K (.ref t1) (.ref t2) H Q := by
  obtain ⟨k1, d1, e1⟩ := a1
  obtain ⟨k2, d2, e2⟩ := b1
  obtain ⟨k3, d3, e3⟩ := a2
  obtain ⟨k4, d4, e4⟩ := b2
  have hW : ∀ p ∈ ndsD st.1, SeqAt.shaped p.2 = true ∧ p.2.canLay0 = true := fun p hp => by
    unfold ndsD mapA at hp
    obtain ⟨q, hq, rfl⟩ := List.mem_map.mp hp
    have f := Nd.fit (k.okW hb q hq).2
    exact ⟨f.shaped, f.lay⟩
  have hS := k.ses.lay
  exact ⟨t1, t2, w1, s1, w2, s2, k1, k2, k3, k4, _, _, _, _, rfl, rfl, (TpK.of h1).sq, (TpK.of h2).sq, .inl d1, .inl d2, .inl d3, .inl d4, e1.dk fun p hp => (hW p hp).1, e2.dk fun p hp => (hS.1 p hp).1, e3.dk fun p hp => (hW p hp).1, e4.dk fun p hp => (hS.1 p hp).1,
    eqK_self (by rw [ndsD_keys]; exact k.ok.nd) fun p hp => (hW p hp).2, eqK_self hS.2 fun p hp => (hS.1 p hp).2, q⟩
theorem en_ref {K : PySem.W.Frag} {H : Hp} {v : V} {e : En} (h : Dt K H v e.d) : ∃ a, v = .ref a := by
  cases e with
  | ask w s d =>
    obtain ⟨l, _, e, _⟩ := Dt.inv h
    exact ⟨l, e⟩
  | fin w =>
    obtain ⟨l, _, e, _⟩ := Dt.inv h
    exact ⟨l, e⟩
/-- at most one is alike -/
theorem alike_one (t : Str) : ∀ {ks : List Str}, ks.Nodup → (ks.filter fun k => decide (k = t)) = [] ∨ (ks.filter fun k => decide (k = t)) = [t]
  | [], _ => .inl rfl
  | k :: ks, nd => by
    rw [List.nodup_cons] at nd
    by_cases c : k = t
    · subst c
      right
      rw [List.filter_cons_of_pos (by simp)]
      congr 1
      refine List.filter_eq_nil_iff.mpr fun x hx => ?_
      intro z
      exact nd.1 (of_decide_eq_true z ▸ hx)
    · rw [List.filter_cons_of_neg (by simpa using c)]
      exact alike_one t nd.2
end Wn

namespace Wn
open PySem PySem.Spec PyProof.Rows L2 TL
set_option tactic.hygienic false
local macro_rules
  | `(tactic| fail "z") => `(tactic| first
      | with_reducible assumption
      | ((refine Nat.le_trans (m := 16000000) ?_ (by decide)); (try simp only [List.length_cons, List.length_nil, PySem.Str.length_append, len_bl, len_dot, len_nl, len_da, len_sl]); omega))
  | `(tactic| fail "sl") => `(tactic| first
      | ((with_reducible apply slN); (· exact rfl); (· fail "sl"))
      | ((with_reducible apply slE); (· fail "ln"))
      | exact rfl)
  | `(tactic| fail "ln") => `(tactic| first
      | ((with_reducible apply lnS); (fail "ln"))
      | exact rfl)
  | `(tactic| fail "i") => `(tactic| first | exact rfl | omega | (simp only []; omega) | (simp; done) | (simp; omega))
  | `(tactic| fail "t1") => `(tactic| first
      | with_reducible exact rfl
      | with_reducible assumption
      | ((with_reducible apply notT); fail "f1")
      | ((with_reducible apply decide_eq_true); (with_reducible first | exact rfl | assumption)))
  | `(tactic| fail "f1") => `(tactic| first
      | with_reducible exact rfl
      | with_reducible assumption
      | ((with_reducible apply notF); fail "t1")
      | ((with_reducible apply decide_eq_false); (with_reducible assumption)))
local macro_rules
  | `(tactic| fail "t2") => `(tactic| first
      | ((with_reducible apply notT); fail "f2")
      | decide +kernel
      | ((with_reducible apply decide_eq_true); omega))
  | `(tactic| fail "f2") => `(tactic| first
      | ((with_reducible apply notF); fail "t2")
      | decide +kernel
      | ((with_reducible apply decide_eq_false); omega))
  | `(tactic| fail "t3") => `(tactic| first
      | ((with_reducible apply notT); fail "f3")
      | exact rfl
      | ((with_reducible apply decide_eq_true); (first | exact rfl | assumption))
      | assumption)
  | `(tactic| fail "f3") => `(tactic| first
      | ((with_reducible apply notF); fail "t3")
      | exact rfl
      | ((with_reducible apply decide_eq_false); assumption)
      | assumption)
  | `(tactic| fail "t") => `(tactic| first | fail "t1" | fail "t2" | fail "t3")
  | `(tactic| fail "f") => `(tactic| first | fail "f1" | fail "f2" | fail "f3")
  | `(tactic| fail "e") => `(tactic| (
      fail_if_success (with_reducible change @Exists (Nat → _) _)
      fail_if_success (with_reducible change @Exists PyData _)
      with_reducible apply Exists.intro))
  | `(tactic| fail "s") => `(tactic| repeat (fail "q"))
  | `(tactic| fail "r") => `(tactic| repeat (first
      | fail "q"
      | ((with_reducible unfold Res); intro)
      | ((with_reducible unfold ResL); intro)
      | ((with_reducible unfold LRes); intro)
      | ((with_reducible unfold TkRes); intro)
      | ((with_reducible unfold WdRes); intro)
      | ((with_reducible unfold CtRes); intro)
      | ((with_reducible unfold DtRes); intro)
      | (intro)))
  | `(tactic| fail "b0a") => `(tactic| first
          | with_reducible assumption
          | ((with_reducible apply getS); (· with_reducible assumption); (· fail "c"))
          | ((with_reducible apply getT); (· with_reducible assumption); (· fail "c"))
          | ((with_reducible apply getKT); (· with_reducible assumption); (· fail "c"))
          | ((with_reducible apply getKD); (· with_reducible assumption); (· fail "c"))
          | ((with_reducible apply getB); (· with_reducible assumption); (· fail "c"); (· fail "c"))
          | ((with_reducible apply wdI); (fail "c"))
          | with_reducible exact upd_same)
  | `(tactic| fail "b1a") => `(tactic| first
          | with_reducible assumption
          | with_reducible exact Dt.int _
          | with_reducible exact Dt.str _
          | with_reducible exact Dt.bl _
          | with_reducible exact Dt.non
          | ((with_reducible apply dtInt); fail "i")
          | ((with_reducible apply dtS); (· with_reducible assumption); (· fail "c"))
          | ((with_reducible apply dtK); (· with_reducible assumption); (· fail "c"))
          | ((with_reducible apply dtT); (· with_reducible assumption); (· fail "c"))
          | ((with_reducible apply Dt.tup); (· fail "c"); (· fail "c")))
  | `(tactic| fail "b2a") => `(tactic| first | with_reducible assumption | ((with_reducible apply TpK.sq); fail "c"))
  | `(tactic| fail "b3a") => `(tactic| first
          | with_reducible assumption
          | ((with_reducible apply SqL.of); (with_reducible assumption))
          | ((with_reducible apply sqS); (· with_reducible assumption); (· fail "c"))
          | ((with_reducible apply SqL.of); fail "c"))
  | `(tactic| fail "b4a") => `(tactic| first
          | with_reducible assumption
          | ((with_reducible apply TpK.of); (with_reducible assumption))
          | ((with_reducible apply tpS); (· with_reducible assumption); (· fail "c"))
          | ((with_reducible apply tpKk); (· with_reducible assumption); (· fail "c"))
          | ((with_reducible apply tpT); (· with_reducible assumption); (· fail "c"))
          | ((with_reducible apply TpK.of); fail "c"))
  | `(tactic| fail "b5a") => `(tactic| first
          | with_reducible assumption
          | with_reducible exact L2.Same.refl _
          | ((with_reducible apply sameTr); (· with_reducible assumption); (· fail "c"))
          | ((with_reducible apply sameUP); (· with_reducible assumption); (· fail "c"))
          | ((with_reducible apply sameBut); (· with_reducible assumption); (· fail "c"); (· fail "c")))
  | `(tactic| fail "b6a") => `(tactic| first
          | with_reducible assumption
          | ((with_reducible apply webS); (· with_reducible assumption); (· fail "c"))
          | ((with_reducible apply Web.kp); (· with_reducible assumption); (· fail "c"))
          | ((with_reducible apply webB); (· with_reducible assumption); (· with_reducible assumption); (· fail "c"); (· fail "c"))
          | ((with_reducible apply Web.mk); (· fail "c"); (· fail "c")))
local macro_rules
  | `(tactic| fail "b7a") => `(tactic| first
          | with_reducible assumption
          | ((with_reducible apply wdS); (· with_reducible assumption); (· fail "c"))
          | ((with_reducible apply wdB); (· with_reducible assumption); (· fail "c"); (· fail "c")))
  | `(tactic| fail "b8a") => `(tactic| first
          | with_reducible assumption
          | ((with_reducible apply poolS); (· with_reducible assumption); (· fail "c"))
          | ((with_reducible apply poolB); (· with_reducible assumption); (· fail "c"); (· fail "c")))
  | `(tactic| fail "b9a") => `(tactic| first
          | exact Or.inl ⟨by simp only []; omega, by simp only []; omega⟩
          | exact Or.inr ⟨by simp only []; omega, by simp only []; omega⟩
          | exact Or.inl ⟨by omega, by omega⟩
          | exact Or.inr ⟨by omega, by omega⟩)
  | `(tactic| fail "b10a") => `(tactic| first | with_reducible assumption | omega | (simp only []; omega))
  | `(tactic| fail "b11a") => `(tactic| first | with_reducible assumption | omega | (simp only []; omega))
  | `(tactic| fail "b12a") => `(tactic| ((with_reducible apply dgS); (· fail "c"); (· with_reducible assumption)))
  | `(tactic| fail "b13a") => `(tactic| first
          | ((with_reducible apply Or.inl); fail "c")
          | ((with_reducible apply Or.inr); fail "c"))
  | `(tactic| fail "b14a") => `(tactic| first
          | with_reducible assumption
          | with_reducible exact DtA.nil
          | ((with_reducible apply daS); (· with_reducible assumption); (· fail "c"))
          | ((with_reducible apply daK); (· with_reducible assumption); (· fail "c"))
          | ((with_reducible apply daT); (· with_reducible assumption); (· fail "c"))
          | ((with_reducible apply DtA.cons); (· fail "c"); (· fail "c")))
  | `(tactic| fail "b15a") => `(tactic| first
          | with_reducible assumption
          | ((with_reducible apply enS); (· with_reducible assumption); (· fail "c"))
          | ((with_reducible apply enK); (· with_reducible assumption); (· fail "c"))
          | ((with_reducible apply enT); (· with_reducible assumption); (· fail "c")))
  | `(tactic| fail "b16a") => `(tactic| first
          | with_reducible assumption
          | with_reducible exact But.refl _ _
          | ((with_reducible apply butS); (· with_reducible assumption); (· fail "c"))
          | ((with_reducible apply butB); (· with_reducible assumption); (· fail "c")))
  | `(tactic| fail "b17a") => `(tactic| first | with_reducible assumption | ((with_reducible apply freeN); (· with_reducible assumption); (· fail "c")))
  | `(tactic| fail "b18a") => `(tactic| first
          | with_reducible assumption
          | with_reducible exact Kp.refl _
          | ((with_reducible apply kpTr); (· first | with_reducible assumption | ((with_reducible apply kpSame); with_reducible assumption)); (· fail "c")))
  | `(tactic| fail "b19a") => `(tactic| first | with_reducible assumption | with_reducible exact Nat.le_of_ble_eq_true rfl)
  | `(tactic| fail "b21a") => `(tactic| ((simp only [List.map_cons, List.map_nil, List.sum_cons, List.sum_nil, List.length_cons, List.length_nil, PySem.Str.length_append, len_bl, len_dot, len_nl, len_da, len_sl]); omega))
  | `(tactic| fail "b22a") => `(tactic| first | with_reducible assumption | exact Nat.le_of_ble_eq_true rfl)
  | `(tactic| fail "b23a") => `(tactic| ((with_reducible apply rdS); fail "c"))
local macro_rules
  | `(tactic| fail "b24a") => `(tactic| ((with_reducible apply isD_of); fail "c"))
  | `(tactic| fail "b25a") => `(tactic| first
          | with_reducible exact .base (.int _)
          | with_reducible exact .base (.str _)
          | with_reducible exact .base (.bl _)
          | with_reducible exact .base .non
          | ((with_reducible apply tyD); fail "c")
          | ((with_reducible apply tyLs); fail "c"))
  | `(tactic| fail "b26a") => `(tactic| (with_reducible exact ClsV.ty _))
  | `(tactic| fail "b27a") => `(tactic| ((with_reducible apply tyL); fail "c"))
  | `(tactic| fail "b30a") => `(tactic| first
          | exact ne_nilV
          | with_reducible exact List.cons_ne_nil _ _
          | with_reducible assumption
          | ((with_reducible apply Ne.symm); (with_reducible assumption))
          | ((with_reducible apply neF); (· with_reducible assumption); (· fail "c"))
          | ((with_reducible apply Ne.symm); (with_reducible apply neF); (· with_reducible assumption); (· fail "c")))
  | `(tactic| fail "q0a") => `(tactic| (fail "sl"))
  | `(tactic| fail "q1a") => `(tactic| (with_reducible apply And.intro))
  | `(tactic| fail "q2a") => `(tactic| first
          | with_reducible assumption
          | ((with_reducible apply AllP.step); (· with_reducible assumption); (· with_reducible assumption); (· fail "c"); (· fail "t"))
          | fail "e")
  | `(tactic| fail "q4a") => `(tactic| first | exact rfl | with_reducible assumption)
  | `(tactic| fail "q5a") => `(tactic| first | exact rfl | with_reducible assumption)
  | `(tactic| fail "b0") => `(tactic| ((with_reducible change @Eq (Option HO) _ (some _)); fail "b0a"))
  | `(tactic| fail "b1") => `(tactic| ((with_reducible change Dt _ _ _ _); fail "b1a"))
  | `(tactic| fail "b2") => `(tactic| ((with_reducible change SqT _ _ _ _); fail "b2a"))
  | `(tactic| fail "b3") => `(tactic| ((with_reducible change SqL _ _ _ _); fail "b3a"))
  | `(tactic| fail "b4") => `(tactic| ((with_reducible change TpK _ _ _ _); fail "b4a"))
  | `(tactic| fail "b5") => `(tactic| ((with_reducible change L2.Same _ _); fail "b5a"))
local macro_rules
  | `(tactic| fail "b6") => `(tactic| ((with_reducible change Web _ _ _ _); fail "b6a"))
  | `(tactic| fail "b7") => `(tactic| ((with_reducible change WdAt _ _ _ _ _); fail "b7a"))
  | `(tactic| fail "b8") => `(tactic| ((with_reducible change Pool _ _); fail "b8a"))
  | `(tactic| fail "b9") => `(tactic| ((with_reducible change CMul _ _); fail "b9a"))
  | `(tactic| fail "b10") => `(tactic| ((with_reducible change @LE.le Int _ _ _); fail "b10a"))
  | `(tactic| fail "b11") => `(tactic| ((with_reducible change @LT.lt Int _ _ _); fail "b11a"))
  | `(tactic| fail "b12") => `(tactic| ((with_reducible change DGet _ _ _ _); fail "b12a"))
  | `(tactic| fail "b13") => `(tactic| ((with_reducible change Or _ _); fail "b13a"))
  | `(tactic| fail "b14") => `(tactic| ((with_reducible change DtA _ _ _ _); fail "b14a"))
  | `(tactic| fail "b15") => `(tactic| ((with_reducible change Ents _ _ _ _); fail "b15a"))
  | `(tactic| fail "b16") => `(tactic| ((with_reducible change But _ _ _); fail "b16a"))
  | `(tactic| fail "b17") => `(tactic| ((with_reducible change @Eq (Option HO) _ none); fail "b17a"))
  | `(tactic| fail "b18") => `(tactic| ((with_reducible change Kp _ _); fail "b18a"))
  | `(tactic| fail "b19") => `(tactic| ((with_reducible change _ ≤ _); fail "b19a"))
  | `(tactic| fail "b21") => `(tactic| ((with_reducible change _ ≤ 16777216); fail "b21a"))
  | `(tactic| fail "b22") => `(tactic| ((with_reducible change List.length _ < _); fail "b22a"))
local macro_rules
  | `(tactic| fail "b23") => `(tactic| ((with_reducible change Rd _ _ _); fail "b23a"))
  | `(tactic| fail "b24") => `(tactic| ((with_reducible change IsD _ _); fail "b24a"))
  | `(tactic| fail "b25") => `(tactic| ((with_reducible change TyX _ _ _ _); fail "b25a"))
  | `(tactic| fail "b26") => `(tactic| ((with_reducible change ClsV _ _); fail "b26a"))
  | `(tactic| fail "b27") => `(tactic| ((with_reducible change tyV _ "list" _ _); fail "b27a"))
  | `(tactic| fail "b30") => `(tactic| ((with_reducible change _ ≠ _); fail "b30a"))
  | `(tactic| fail "q0") => `(tactic| ((with_reducible change @Eq (Option (Option V)) _ _); fail "q0a"))
  | `(tactic| fail "q1") => `(tactic| ((with_reducible change And _ _); fail "q1a"))
  | `(tactic| fail "q2") => `(tactic| ((with_reducible change Exists _); fail "q2a"))
  | `(tactic| fail "q4") => `(tactic| ((with_reducible change @Eq V _ _); fail "q4a"))
  | `(tactic| fail "q5") => `(tactic| ((with_reducible change @Eq (List V) _ _); fail "q5a"))
  | `(tactic| fail "c") => `(tactic| first | fail "b" | fail "d")
  | `(tactic| fail "d") => `(tactic| first
      | with_reducible exact rfl
      | with_reducible assumption
      | exact rfl
      | exact kit_ty (by decide +kernel)
      | assumption)
  | `(tactic| fail "b") => `(tactic| first
      | fail "b0"
      | fail "b1"
      | fail "b2"
      | fail "b3"
      | fail "b4"
      | fail "b5"
      | fail "b6"
      | fail "b7"
      | fail "b8"
      | fail "b9"
      | fail "b10"
      | fail "b11"
      | fail "b12"
      | fail "b13"
      | fail "b14"
      | fail "b15"
      | fail "b16"
      | fail "b17"
      | fail "b18"
      | fail "b19"
      | ((with_reducible change _ ≤ sizeLine); fail "z")
      | fail "b21"
      | fail "b22"
      | fail "b23"
      | fail "b24"
      | fail "b25"
      | fail "b26"
      | fail "b27"
      | ((with_reducible change tyV _ "str" _ _); exact rfl)
      | ((with_reducible change Nm _ _); with_reducible assumption)
      | fail "b30")
  | `(tactic| fail "ite") => `(tactic| first
      | ((with_reducible apply iteTc); (· fail "t1"))
      | ((with_reducible apply iteFc); (· fail "f1"))
      | ((with_reducible apply iteTc); (· fail "t2"))
      | ((with_reducible apply iteFc); (· fail "f2"))
      | ((with_reducible apply iteTc); (· fail "t3"))
      | ((with_reducible apply iteFc); (· fail "f3")))
  | `(tactic| fail "q") => `(tactic| first
      | fail "q0"
      | fail "q1"
      | fail "q2"
      | ((with_reducible change ¬ _); with_reducible assumption)
      | fail "q4"
      | fail "q5"
      | ((with_reducible change ite _ _ _); fail "ite")
      | fail "b30"
      | (with_reducible intro)
      | fail "b"
      | with_reducible assumption
      | (change Exists _; fail "e")
      | fail "d"
      | (change And _ _; with_reducible apply And.intro)
      | (unfold tDNewA; intro)
      | (unfold tDisp1; intro))

section
variable {P : Program} {w : World} {K : PySem.W.Frag} {mg : Str → Option Value} {base : Heap}
def sp_is_whole (K : PySem.W.Frag) : Sp := sp1 fun v H Q => ∃ i : Int, v = .int i ∧ Q (.bl true) H
theorem sc_is_whole : FnScope ["thing"] ["thing"] (defScope s_is_whole) := ⟨rfl, rfl, rfl, by decide +kernel, rfl, by decide +kernel, by decide +kernel⟩
theorem k_is_whole (B : Bag w K mg base) : Kept P w K mg base "is_whole" 1 ["thing"] (sp_is_whole K) := by
  obtain ⟨fd, F⟩ := B.c.def_ 0 (d := d_is_whole) rfl
  have n_bool := He.free_ok B.X B.G (B.c.fact 79 (f := .free "bool") rfl)
  have n_int := He.free_ok B.X B.G (B.c.fact 78 (f := .free "int") rfl)
  have n_isinstance := He.free_ok B.X B.G (B.c.fact 77 (f := .free "isinstance") rfl)
  have g0 := He.glo_ok B.X B.G (B.c.fact 0 (f := .glo "is_whole") rfl)
  refine ⟨_, fd, g0, F.kp, F.bindsN (fun _ _ _ _ _ _ us hl => match us, hl with | [_], _ => rfl), ?_⟩
  refine F.ok sc_is_whole (fun vs H Q E h => len1 h) (fun cdv A outer s H vs Q E hr h => ?_)
  have nd := sc_is_whole.nd
  have hu := hu_of hr
  refine' ⟨_, PSs.nox ?hT, ?hR⟩
  case hT => exact (pss_one (ps_ret (pe_and (pe_callB call_isi rfl n_isinstance (by decide +kernel) (pa_cons (pv 0) (pa_cons (pe_bltn (v := .ty "int") rfl n_int boot_int rfl) pa_nil))) (pe_one (pe_not (pe_callB call_isi rfl n_isinstance (by decide +kernel) (pa_cons (pv 0) (pa_cons (pe_bltn (v := .ty "bool") rfl n_bool boot_bool rfl) pa_nil))))))))
  clear hr hu nd g0 F fd n_bool n_int n_isinstance
  try dsimp only [cxOf, Cx.nox, Cx.wish]
  obtain ⟨_, rfl, i, rfl, q⟩ := h
  fail "r"
def sp_is_word (K : PySem.W.Frag) : Sp := sp1 fun v H Q => ∃ x : Str, v = .str x ∧ WordOk x ∧ ∀ H', L2.Same H H' → Q (.bl true) H'
theorem sc_is_word : FnScope ["thing", "sign"] ["thing"] (defScope s_is_word) := ⟨rfl, rfl, rfl, by decide +kernel, rfl, by decide +kernel, by decide +kernel⟩
theorem k_is_word (B : Bag w K mg base) : Kept P w K mg base "is_word" 1 ["thing"] (sp_is_word K) := by
  obtain ⟨fd, F⟩ := B.c.def_ 1 (d := d_is_word) rfl
  have n_all := He.free_ok B.X B.G (B.c.fact 82 (f := .free "all") rfl)
  have n_isinstance := He.free_ok B.X B.G (B.c.fact 77 (f := .free "isinstance") rfl)
  have n_len := He.free_ok B.X B.G (B.c.fact 81 (f := .free "len") rfl)
  have n_str := He.free_ok B.X B.G (B.c.fact 80 (f := .free "str") rfl)
  obtain ⟨t_LONGEST, c_LONGEST⟩ := He.int_ok B.X B.G (B.c.fact 98 (f := .int "LONGEST" 8) rfl)
  obtain ⟨t_LETTERS, c_LETTERS⟩ := He.str_ok B.X B.G (B.c.fact 94 (f := .str "LETTERS" "abcdefghijklmnopqrstuvwxyz") rfl)
  have g0 := He.glo_ok B.X B.G (B.c.fact 1 (f := .glo "is_word") rfl)
  refine ⟨_, fd, g0, F.kp, F.bindsN (fun _ _ _ _ _ _ us hl => match us, hl with | [_], _ => rfl), ?_⟩
  refine F.ok sc_is_word (fun vs H Q E h => len1 h) (fun cdv A outer s H vs Q E hr h => ?_)
  have nd := sc_is_word.nd
  have hu := hu_of hr
  refine' ⟨_, PSs.nox ?hT, ?hR⟩
  case hT => exact (pss_one (ps_ret (pe_and (pe_callB call_isi rfl n_isinstance (by decide +kernel) (pa_cons (pv 0) (pa_cons (pe_bltn (v := .ty "str") rfl n_str boot_str rfl) pa_nil))) (pe_and (pe_chain op_le op_le (pe_int) (pe_callB call_len_str rfl n_len (by decide +kernel) (pa_cons (pv 0) pa_nil)) (pe_glob (v := .int 8) rfl c_LONGEST ⟨_, rfl⟩)) (pe_one (pe_callB (cr_all rfl) rfl n_all (by decide +kernel) (pa_cons (pe_lc (own := [("sign", 1)]) (g := gName 1) (tt := tYes) rfl nd (pi_str (pv 0)) (blkOk_by (N := ["thing", "sign"]) (sc := defScope s_is_word) (by decide +kernel)) (fun _ _ _ _ _ => (pg_name (i := 1) nd rfl (Or.inl rfl))) (fun _ _ _ _ _ => pts_nil) (fun _ _ _ _ _ => (pe_cmpR op_in_sign (pv 1) (pe_glob (v := .str "abcdefghijklmnopqrstuvwxyz") rfl c_LETTERS ⟨_, rfl⟩) rfl))) pa_nil)))))))
  clear hr hu nd g0 F fd n_all n_isinstance n_len n_str c_LONGEST t_LONGEST c_LETTERS t_LETTERS
  try dsimp only [cxOf, Cx.nox, Cx.wish]
  obtain ⟨_, rfl, x, rfl, ok, q⟩ := h
  have z1 := ok.1
  have z2 := ok.2.1
  have z4 : x.length = x.cps.size := rfl
  have z3 : x.length ≤ sizeLine := Nat.le_trans z2 (by decide)
  fail "r"
  refine lc_it walk_str (AllP H D) (AllP.start (by assumption)) (fun _ _ _ _ => trivial) (fun i y H2 H3 hi p z => ?_) (fun H2 p => p.fin q)
  obtain ⟨rfl, c, hc, rfl⟩ := z
  have hi2 : i < 100000 := by omega
  have hm : c ∈ tl x := List.mem_of_getElem? (i := i) (by rw [← hc]; simp)
  have hl := decide_eq_true (mem_letters.mpr (ok.2.2 c hm))
  fail "r"
def sp_is_part (K : PySem.W.Frag) : Sp := sp1 fun v H Q => ∃ x : Str, v = .str x ∧ PartOk x ∧ ∀ H', L2.Same H H' → Q (.bl true) H'
theorem sc_is_part : FnScope ["thing", "word", "sign", "figures", "one"] ["thing"] (defScope s_is_part) := ⟨rfl, rfl, rfl, by decide +kernel, rfl, by decide +kernel, by decide +kernel⟩
theorem k_is_part (B : Bag w K mg base) : Kept P w K mg base "is_part" 2 ["thing"] (sp_is_part K) := by
  obtain ⟨fd, F⟩ := B.c.def_ 2 (d := d_is_part) rfl
  obtain ⟨f_is_word, fd_is_word, g_is_word, kp_is_word, b_is_word, o_is_word⟩ := k_is_word (P := P) B
  have n_all := He.free_ok B.X B.G (B.c.fact 82 (f := .free "all") rfl)
  have n_isinstance := He.free_ok B.X B.G (B.c.fact 77 (f := .free "isinstance") rfl)
  have n_len := He.free_ok B.X B.G (B.c.fact 81 (f := .free "len") rfl)
  have n_str := He.free_ok B.X B.G (B.c.fact 80 (f := .free "str") rfl)
  obtain ⟨t_MANY_FIGURES, c_MANY_FIGURES⟩ := He.int_ok B.X B.G (B.c.fact 100 (f := .int "MANY_FIGURES" 6) rfl)
  obtain ⟨t_FIGURES, c_FIGURES⟩ := He.str_ok B.X B.G (B.c.fact 95 (f := .str "FIGURES" "0123456789") rfl)
  have g0 := He.glo_ok B.X B.G (B.c.fact 2 (f := .glo "is_part") rfl)
  refine ⟨_, fd, g0, F.kp, F.bindsN (fun _ _ _ _ _ _ us hl => match us, hl with | [_], _ => rfl), ?_⟩
  refine F.ok sc_is_part (fun vs H Q E h => len1 h) (fun cdv A outer s H vs Q E hr h => ?_)
  have nd := sc_is_part.nd
  have hu := hu_of hr
  refine' ⟨_, PSs.nox ?hT, ?hR⟩
  case hT => exact (pss_cons (ps_if (pt_not (pt_val (pe_callB call_isi rfl n_isinstance (by decide +kernel) (pa_cons (pv 0) (pa_cons (pe_bltn (v := .ty "str") rfl n_str boot_str rfl) pa_nil))))) (pss_one (ps_ret (pe_bl))) pss_nil)
      (pss_cons (ps_asg (pe_bm PySem.F.plainAttrs_str PySem.F.slot_str_partition PySem.F.type_str_partition mt_partA (pv 0) (pa_cons (pe_str) pa_nil)) (pg_tup rfl (pgs_cons (pg_name (i := 1) nd rfl (Or.inl rfl)) (pgs_cons (pg_name (i := 2) nd rfl (Or.inl rfl)) (pgs_cons (pg_name (i := 3) nd rfl (Or.inl rfl)) pgs_nil)))))
      (pss_cons (ps_if (pt_cmpR op_eq (pv 2) (pe_str) (nomark _)) (pss_one (ps_ret (pe_call o_is_word hr rfl g_is_word kp_is_word b_is_word .nil pass0 (pa_cons (pv 1) pa_nil)))) pss_nil)
      (pss_one (ps_ret (pe_and (pe_call o_is_word hr rfl g_is_word kp_is_word b_is_word .nil pass0 (pa_cons (pv 1) pa_nil)) (pe_and (pe_cmpR op_eq (pe_callB call_len_str rfl n_len (by decide +kernel) (pa_cons (pv 3) pa_nil)) (pe_glob (v := .int 6) rfl c_MANY_FIGURES ⟨_, rfl⟩) (nomark _)) (pe_one (pe_callB (cr_all rfl) rfl n_all (by decide +kernel) (pa_cons (pe_lc (own := [("one", 4)]) (g := gName 4) (tt := tYes) rfl nd (pi_str (pv 3)) (blkOk_by (N := ["thing", "word", "sign", "figures", "one"]) (sc := defScope s_is_part) (by decide +kernel)) (fun _ _ _ _ _ => (pg_name (i := 4) nd rfl (Or.inl rfl))) (fun _ _ _ _ _ => pts_nil) (fun _ _ _ _ _ => (pe_cmpR op_in_sign (pv 4) (pe_glob (v := .str "0123456789") rfl c_FIGURES ⟨_, rfl⟩) rfl))) pa_nil))))))))))
  clear hr hu nd g0 F fd o_is_word b_is_word kp_is_word g_is_word fd_is_word n_all n_isinstance n_len n_str c_MANY_FIGURES t_MANY_FIGURES c_FIGURES t_FIGURES
  try dsimp only [cxOf, Cx.nox, Cx.wish]
  obtain ⟨_, rfl, x, rfl, ok, q⟩ := h
  have z3 : x.length ≤ sizeLine := Nat.le_trans ok.len.2 (by decide)
  rcases ok with ok | ⟨w, f, rfl, hw, h6, hf⟩
  · have e := Nm.mk (partition_none tl_da (a := x) (by intro m; have := ok.2.2 45 m; omega))
    fail "r"
    exact q _ (by fail "c")
  · have e := Nm.mk (partition_app tl_da (a := w) (b := f) (by intro m; have := hw.2.2 45 m; omega))
    have z4 : f.length ≤ sizeLine := by rw [h6]; decide
    have z5 : (V.int (f.length : Int) = V.int 6) := by rw [h6]; rfl
    fail "r"
    refine lc_it walk_str (AllP H'_1 D) (AllP.start (by assumption)) (fun _ _ _ _ => trivial) (fun i y H2 H3 hi p' z => ?_) (fun H2 p' => p'.fin fun H4 s' => q H4 (by fail "c"))
    obtain ⟨rfl, c, hc, rfl⟩ := z
    have hi2 : i < 100000 := by have : f.length = f.cps.size := rfl; omega
    have hm : c ∈ tl f := List.mem_of_getElem? (i := i) (by rw [← hc]; simp)
    have hl := decide_eq_true (mem_figures.mpr (hf c hm))
    fail "r"
def sp_parts_of (K : PySem.W.Frag) : Sp := sp1 fun v H Q => ∃ ps : List Str, v = .str (pathT ps) ∧ PartsOk ps ∧ ∀ p H', L2.Same H H' → H p = none → H' p = some (.lst (ps.map V.str)) → Q (.ref p) H'
theorem sc_parts_of : FnScope ["path"] ["path"] (defScope s_parts_of) := ⟨rfl, rfl, rfl, by decide +kernel, rfl, by decide +kernel, by decide +kernel⟩
theorem k_parts_of (B : Bag w K mg base) : Kept P w K mg base "parts_of" 1 ["path"] (sp_parts_of K) := by
  obtain ⟨fd, F⟩ := B.c.def_ 3 (d := d_parts_of) rfl
  obtain ⟨t_ROOT, c_ROOT⟩ := He.str_ok B.X B.G (B.c.fact 96 (f := .str "ROOT" "/") rfl)
  have g0 := He.glo_ok B.X B.G (B.c.fact 3 (f := .glo "parts_of") rfl)
  refine ⟨_, fd, g0, F.kp, F.bindsN (fun _ _ _ _ _ _ us hl => match us, hl with | [_], _ => rfl), ?_⟩
  refine F.ok sc_parts_of (fun vs H Q E h => len1 h) (fun cdv A outer s H vs Q E hr h => ?_)
  have nd := sc_parts_of.nd
  have hu := hu_of hr
  refine' ⟨_, PSs.nox ?hT, ?hR⟩
  case hT => exact (pss_one (ps_ret (pe_ifExp (pt_cmpR op_eq (pv 0) (pe_glob (v := .str "/") rfl c_ROOT ⟨_, rfl⟩) (nomark _)) (pe_lstA pa_nil) (pe_slice sl_listA (pe_bm PySem.F.plainAttrs_str PySem.F.slot_str_split PySem.F.type_str_split mt_splitA (pv 0) (pa_cons (pe_str) pa_nil)) (po_some (pe_int)) po_none))))
  clear hr hu nd g0 F fd c_ROOT t_ROOT
  try dsimp only [cxOf, Cx.nox, Cx.wish]
  obtain ⟨_, rfl, ps, rfl, ok, q⟩ := h
  have z3 : (pathT ps).length + 2 ≤ sizeLine := Nat.le_trans (Nat.add_le_add_right (PathOk.len ⟨ps, ok, rfl⟩) 2) (by decide)
  by_cases e : ps = []
  · subst e
    have e2 : V.str (pathT []) = V.str "/" := by rw [pathT_nil]
    fail "r"
    exact q _ _ (by fail "c") (by fail "c") (by fail "c")
  · have e2 : ¬ V.str (pathT ps) = V.str "/" := fun z => e ((pathT_root ok.2).mp (V.str.inj z))
    have e3 := Nm.mk (pathT_split e ok.2)
    have e4 : Nm (cutV ((Str.empty :: ps).map V.str) (some 1) none) (ps.map V.str) := ⟨cutV_one _⟩
    fail "r"
    exact q _ _ (by fail "c") (by fail "c") (by fail "c")
def sp_is_path (K : PySem.W.Frag) : Sp := sp1 fun v H Q => ∃ x : Str, v = .str x ∧ PathOk x ∧ ∀ H', L2.Same H H' → Q (.bl true) H'
theorem sc_is_path : FnScope ["thing", "one"] ["thing"] (defScope s_is_path) := ⟨rfl, rfl, rfl, by decide +kernel, rfl, by decide +kernel, by decide +kernel⟩
theorem k_is_path (B : Bag w K mg base) : Kept P w K mg base "is_path" 3 ["thing"] (sp_is_path K) := by
  obtain ⟨fd, F⟩ := B.c.def_ 4 (d := d_is_path) rfl
  obtain ⟨f_parts_of, fd_parts_of, g_parts_of, kp_parts_of, b_parts_of, o_parts_of⟩ := k_parts_of (P := P) B
  obtain ⟨f_is_part, fd_is_part, g_is_part, kp_is_part, b_is_part, o_is_part⟩ := k_is_part (P := P) B
  have n_all := He.free_ok B.X B.G (B.c.fact 82 (f := .free "all") rfl)
  have n_isinstance := He.free_ok B.X B.G (B.c.fact 77 (f := .free "isinstance") rfl)
  have n_len := He.free_ok B.X B.G (B.c.fact 81 (f := .free "len") rfl)
  have n_str := He.free_ok B.X B.G (B.c.fact 80 (f := .free "str") rfl)
  obtain ⟨t_MOST_PARTS, c_MOST_PARTS⟩ := He.int_ok B.X B.G (B.c.fact 99 (f := .int "MOST_PARTS" 5) rfl)
  have g0 := He.glo_ok B.X B.G (B.c.fact 4 (f := .glo "is_path") rfl)
  refine ⟨_, fd, g0, F.kp, F.bindsN (fun _ _ _ _ _ _ us hl => match us, hl with | [_], _ => rfl), ?_⟩
  refine F.ok sc_is_path (fun vs H Q E h => len1 h) (fun cdv A outer s H vs Q E hr h => ?_)
  have nd := sc_is_path.nd
  have hu := hu_of hr
  refine' ⟨_, PSs.nox ?hT, ?hR⟩
  case hT => exact (pss_cons (ps_if (PW.pt (pw_or (pt_not (pt_val (pe_callB call_isi rfl n_isinstance (by decide +kernel) (pa_cons (pv 0) (pa_cons (pe_bltn (v := .ty "str") rfl n_str boot_str rfl) pa_nil))))) (pw_or1 (pt_not (pt_val (pe_bm PySem.F.plainAttrs_str PySem.F.slot_str_startswith PySem.F.type_str_startswith mt_startswith (pv 0) (pa_cons (pe_str) pa_nil))))))) (pss_one (ps_ret (pe_bl))) pss_nil)
      (pss_one (ps_ret (pe_and (pe_cmpR op_le (pe_callB call_len_seq rfl n_len (by decide +kernel) (pa_cons (pe_call o_parts_of (hr.mono (by decide)) rfl g_parts_of kp_parts_of b_parts_of .nil pass0 (pa_cons (pv 0) pa_nil)) pa_nil)) (pe_glob (v := .int 5) rfl c_MOST_PARTS ⟨_, rfl⟩) (nomark _)) (pe_one (pe_callB (cr_all rfl) rfl n_all (by decide +kernel) (pa_cons (pe_lc (own := [("one", 1)]) (g := gName 1) (tt := tYes) rfl nd (pi_list (pe_call o_parts_of (hr.mono (by decide)) rfl g_parts_of kp_parts_of b_parts_of .nil pass0 (pa_cons (pv 0) pa_nil))) (blkOk_by (N := ["thing", "one"]) (sc := defScope s_is_path) (by decide +kernel)) (fun _ _ _ _ _ => (pg_name (i := 1) nd rfl (Or.inl rfl))) (fun _ _ _ _ _ => pts_nil) (fun _ _ _ _ _ => (pe_call o_is_part hr rfl g_is_part kp_is_part b_is_part .nil pass0 (pa_cons (pv 1) pa_nil)))) pa_nil)))))))
  clear hr hu nd g0 F fd o_parts_of b_parts_of kp_parts_of g_parts_of fd_parts_of o_is_part b_is_part kp_is_part g_is_part fd_is_part n_all n_isinstance n_len n_str c_MOST_PARTS t_MOST_PARTS
  try dsimp only [cxOf, Cx.nox, Cx.wish]
  obtain ⟨_, rfl, x, rfl, ⟨ps, ok, rfl⟩, q⟩ := h
  have e : Txt.startswith (pathT ps) "/" = true := starts_app _ _
  have h5 : (ps.map V.str).length ≤ 5 := by rw [List.length_map]; exact ok.1
  fail "r"
  refine lc_it (walk_list (xs := ps.map V.str)) (AllP H'_1 D) (AllP.start (by assumption)) (fun _ _ _ h => by have := h.1; fail "c") (fun i y H2 H3 hi p' z => ?_) (fun H2 p' => p'.fin fun H4 s' => q H4 (by fail "c"))
  obtain ⟨rfl, z⟩ := z
  have hi2 : i < 100000 := by omega
  rw [List.getElem?_map] at z
  obtain ⟨x, hx, rfl⟩ := Option.map_eq_some_iff.mp z
  have okx := ok.2 x (List.mem_of_getElem? hx)
  fail "r"
def sp_is_place (K : PySem.W.Frag) : Sp := sp1 fun v H Q => ∃ p : Place, Dt K H v (plD p) ∧ ∀ H', L2.Same H H' → Q (.bl true) H'
theorem sc_is_place : FnScope ["thing", "one"] ["thing"] (defScope s_is_place) := ⟨rfl, rfl, rfl, by decide +kernel, rfl, by decide +kernel, by decide +kernel⟩
theorem k_is_place (B : Bag w K mg base) : Kept P w K mg base "is_place" 2 ["thing"] (sp_is_place K) := by
  obtain ⟨fd, F⟩ := B.c.def_ 5 (d := d_is_place) rfl
  obtain ⟨f_is_whole, fd_is_whole, g_is_whole, kp_is_whole, b_is_whole, o_is_whole⟩ := k_is_whole (P := P) B
  have n_all := He.free_ok B.X B.G (B.c.fact 82 (f := .free "all") rfl)
  have n_isinstance := He.free_ok B.X B.G (B.c.fact 77 (f := .free "isinstance") rfl)
  have n_len := He.free_ok B.X B.G (B.c.fact 81 (f := .free "len") rfl)
  have n_tuple := He.free_ok B.X B.G (B.c.fact 83 (f := .free "tuple") rfl)
  have g0 := He.glo_ok B.X B.G (B.c.fact 5 (f := .glo "is_place") rfl)
  refine ⟨_, fd, g0, F.kp, F.bindsN (fun _ _ _ _ _ _ us hl => match us, hl with | [_], _ => rfl), ?_⟩
  refine F.ok sc_is_place (fun vs H Q E h => len1 h) (fun cdv A outer s H vs Q E hr h => ?_)
  have nd := sc_is_place.nd
  have hu := hu_of hr
  refine' ⟨_, PSs.nox ?hT, ?hR⟩
  case hT => exact (pss_one (ps_ret (pe_and (pe_callB call_isi rfl n_isinstance (by decide +kernel) (pa_cons (pv 0) (pa_cons (pe_bltn (v := .ty "tuple") rfl n_tuple boot_tuple rfl) pa_nil))) (pe_and (pe_cmpR op_eq (pe_callB call_len_seq rfl n_len (by decide +kernel) (pa_cons (pv 0) pa_nil)) (pe_int) (nomark _)) (pe_one (pe_callB (cr_all rfl) rfl n_all (by decide +kernel) (pa_cons (pe_lc (own := [("one", 1)]) (g := gName 1) (tt := tYes) rfl nd (pi_tup (pv 0)) (blkOk_by (N := ["thing", "one"]) (sc := defScope s_is_place) (by decide +kernel)) (fun _ _ _ _ _ => (pg_name (i := 1) nd rfl (Or.inl rfl))) (fun _ _ _ _ _ => pts_nil) (fun _ _ _ _ _ => (pe_and (pe_call o_is_whole hr rfl g_is_whole kp_is_whole b_is_whole .nil pass0 (pa_cons (pv 1) pa_nil)) (pe_one (pe_cmpR op_ge (pv 1) (pe_int) (nomark _)))))) pa_nil)))))))
  clear hr hu nd g0 F fd o_is_whole b_is_whole kp_is_whole g_is_whole fd_is_whole n_all n_isinstance n_len n_tuple
  try dsimp only [cxOf, Cx.nox, Cx.wish]
  obtain ⟨v, rfl, p, d, q⟩ := h
  obtain ⟨l, rfl, hd⟩ := plD_inv d
  fail "r"
  refine lc_it (walk_tup (xs := [.int p.1, .int p.2])) (AllP H D) (AllP.start (by assumption)) (fun _ _ _ h => by have := h.1; fail "c") (fun i y H2 H3 hi p' z => ?_) (fun H2 p' => p'.fin q)
  obtain ⟨rfl, z⟩ := z
  have : ∃ n : Nat, y = .int n := by
    match i, z with
    | 0, z => exact ⟨_, (Option.some.inj z).symm⟩
    | 1, z => exact ⟨_, (Option.some.inj z).symm⟩
  obtain ⟨n, rfl⟩ := this
  have hi2 : i < 100000 := Nat.lt_trans hi (Nat.le_of_ble_eq_true rfl)
  fail "r"
def sp_path_of (K : PySem.W.Frag) : Sp := sp1 fun v H Q => ∃ l ps, v = .ref l ∧ SqL K H l (ps.map V.str) ∧ PartsOk ps ∧ ∀ H', L2.Same H H' → Q (.str (pathT ps)) H'
theorem sc_path_of : FnScope ["parts"] ["parts"] (defScope s_path_of) := ⟨rfl, rfl, rfl, by decide +kernel, rfl, by decide +kernel, by decide +kernel⟩
theorem k_path_of (B : Bag w K mg base) : Kept P w K mg base "path_of" 1 ["parts"] (sp_path_of K) := by
  obtain ⟨fd, F⟩ := B.c.def_ 6 (d := d_path_of) rfl
  obtain ⟨t_ROOT, c_ROOT⟩ := He.str_ok B.X B.G (B.c.fact 96 (f := .str "ROOT" "/") rfl)
  have g0 := He.glo_ok B.X B.G (B.c.fact 6 (f := .glo "path_of") rfl)
  refine ⟨_, fd, g0, F.kp, F.bindsN (fun _ _ _ _ _ _ us hl => match us, hl with | [_], _ => rfl), ?_⟩
  refine F.ok sc_path_of (fun vs H Q E h => len1 h) (fun cdv A outer s H vs Q E hr h => ?_)
  have nd := sc_path_of.nd
  have hu := hu_of hr
  refine' ⟨_, PSs.nox ?hT, ?hR⟩
  case hT => exact (pss_one (ps_ret (pe_op op_add_str (pe_glob (v := .str "/") rfl c_ROOT ⟨_, rfl⟩) (pe_bm PySem.F.plainAttrs_str PySem.F.slot_str_join PySem.F.type_str_join mt_joinA (pe_str) (pa_cons (pv 0) pa_nil)))))
  clear hr hu nd g0 F fd c_ROOT t_ROOT
  try dsimp only [cxOf, Cx.nox, Cx.wish]
  obtain ⟨v, rfl, l, ps, rfl, hl, ok, q⟩ := h
  have e : (ps.map fun x : Str => x.length).sum + ps.length * ("/" : Str).length ≤ 16777216 := Nat.le_trans (join_sum (m := 15) (Nat.le_of_eq len_sl) fun x hx => (ok.2 x hx).len.2) (Nat.le_trans (Nat.mul_le_mul_right _ ok.1) (by decide))
  have e2 : ("/" : Str).length + (Str.join "/" ps).length ≤ sizeLine := by
    rw [len_sl]
    have z := Nat.le_trans (join_le (y := "/") (m := 15) (Nat.le_of_eq len_sl) fun x hx => (ok.2 x hx).len.2) (Nat.mul_le_mul_right _ ok.1)
    exact Nat.le_trans (Nat.add_le_add_left z 1) (by decide)
  have e3 : Nm (Str.join "/" ps) (Str.join "/" ps) := ⟨rfl⟩
  fail "r"
  exact q _ (by fail "c")
def sp_parent_of (K : PySem.W.Frag) : Sp := sp1 fun v H Q => ∃ x : Str, v = .str x ∧ PathOk x ∧ ∀ H', L2.Same H H' → Q (.str (parentOf x)) H'
theorem sc_parent_of : FnScope ["path"] ["path"] (defScope s_parent_of) := ⟨rfl, rfl, rfl, by decide +kernel, rfl, by decide +kernel, by decide +kernel⟩
theorem k_parent_of (B : Bag w K mg base) : Kept P w K mg base "parent_of" 2 ["path"] (sp_parent_of K) := by
  obtain ⟨fd, F⟩ := B.c.def_ 7 (d := d_parent_of) rfl
  obtain ⟨f_path_of, fd_path_of, g_path_of, kp_path_of, b_path_of, o_path_of⟩ := k_path_of (P := P) B
  obtain ⟨f_parts_of, fd_parts_of, g_parts_of, kp_parts_of, b_parts_of, o_parts_of⟩ := k_parts_of (P := P) B
  have g0 := He.glo_ok B.X B.G (B.c.fact 7 (f := .glo "parent_of") rfl)
  refine ⟨_, fd, g0, F.kp, F.bindsN (fun _ _ _ _ _ _ us hl => match us, hl with | [_], _ => rfl), ?_⟩
  refine F.ok sc_parent_of (fun vs H Q E h => len1 h) (fun cdv A outer s H vs Q E hr h => ?_)
  have nd := sc_parent_of.nd
  have hu := hu_of hr
  refine' ⟨_, PSs.nox ?hT, ?hR⟩
  case hT => exact (pss_one (ps_ret (pe_call o_path_of hr rfl g_path_of kp_path_of b_path_of .nil pass0 (pa_cons (pe_slice sl_listA (pe_call o_parts_of hr rfl g_parts_of kp_parts_of b_parts_of .nil pass0 (pa_cons (pv 0) pa_nil)) po_none (po_some (pe_un un_neg (pe_int)))) pa_nil))))
  clear hr hu nd g0 F fd o_path_of b_path_of kp_path_of g_path_of fd_path_of o_parts_of b_parts_of kp_parts_of g_parts_of fd_parts_of
  try dsimp only [cxOf, Cx.nox, Cx.wish]
  obtain ⟨v, rfl, x, rfl, ⟨ps, ok, rfl⟩, q⟩ := h
  have e4 : Nm (cutV (ps.map V.str) none (some (-1))) (ps.dropLast.map V.str) := ⟨by rw [cutV_init, List.map_dropLast]⟩
  have ok2 : PartsOk ps.dropLast := ⟨by rw [List.length_dropLast]; have := ok.1; omega, fun p hp => ok.2 p (List.dropLast_subset _ hp)⟩
  fail "r"
  rw [parentOf_pathT ok.2] at q
  exact q _ (by fail "c")
def sp_last_part (K : PySem.W.Frag) : Sp := sp1 fun v H Q => ∃ ps x, v = .str (pathT (ps ++ [x])) ∧ PartsOk (ps ++ [x]) ∧ ∀ H', L2.Same H H' → Q (.str x) H'
theorem sc_last_part : FnScope ["path"] ["path"] (defScope s_last_part) := ⟨rfl, rfl, rfl, by decide +kernel, rfl, by decide +kernel, by decide +kernel⟩
theorem k_last_part (B : Bag w K mg base) : Kept P w K mg base "last_part" 2 ["path"] (sp_last_part K) := by
  obtain ⟨fd, F⟩ := B.c.def_ 8 (d := d_last_part) rfl
  obtain ⟨f_parts_of, fd_parts_of, g_parts_of, kp_parts_of, b_parts_of, o_parts_of⟩ := k_parts_of (P := P) B
  have g0 := He.glo_ok B.X B.G (B.c.fact 8 (f := .glo "last_part") rfl)
  refine ⟨_, fd, g0, F.kp, F.bindsN (fun _ _ _ _ _ _ us hl => match us, hl with | [_], _ => rfl), ?_⟩
  refine F.ok sc_last_part (fun vs H Q E h => len1 h) (fun cdv A outer s H vs Q E hr h => ?_)
  have nd := sc_last_part.nd
  have hu := hu_of hr
  refine' ⟨_, PSs.nox ?hT, ?hR⟩
  case hT => exact (pss_one (ps_ret (pe_ix ix_list (pe_call o_parts_of hr rfl g_parts_of kp_parts_of b_parts_of .nil pass0 (pa_cons (pv 0) pa_nil)) (pe_un un_neg (pe_int)) (fun _ _ => rfl))))
  clear hr hu nd g0 F fd o_parts_of b_parts_of kp_parts_of g_parts_of fd_parts_of
  try dsimp only [cxOf, Cx.nox, Cx.wish]
  obtain ⟨v, rfl, ps, x, rfl, ok, q⟩ := h
  have e4 : atI ((ps ++ [x]).map V.str) (-1) = some (.str x) := by rw [List.map_append]; exact atI_last
  fail "r"
  exact q _ (by fail "c")
end

section
variable {P : Program} {w : World} {K : PySem.W.Frag} {mg : Str → Option Value} {base : Heap}
theorem nd_mk {H : Hp} {l : Addr} {t : Str} {ci mi : Int} {c m : Nat} {o' : V} {ow : Option Str} (h : TpK K H l [.str t, .int ci, .int mi, o']) (hc : ci = (c : Int)) (hm : mi = (m : Int)) (g : Dt K H o' (ownD ow)) : Dt K H (.ref l) (Nd.d ⟨t, c, m, ow⟩) := by
  subst hc hm
  exact Dt.tup h (.cons (.str _) (.cons (.int _) (.cons (.int _) (.cons g .nil))))
def sp_is_text (K : PySem.W.Frag) : Sp := sp1 fun v H Q => ∃ x : Str, v = .str x ∧ TextOk x ∧ ∀ H', L2.Same H H' → Q (.bl true) H'
theorem sc_is_text : FnScope ["thing", "sign"] ["thing"] (defScope s_is_text) := ⟨rfl, rfl, rfl, by decide +kernel, rfl, by decide +kernel, by decide +kernel⟩
theorem k_is_text (B : Bag w K mg base) : Kept P w K mg base "is_text" 1 ["thing"] (sp_is_text K) := by
  obtain ⟨fd, F⟩ := B.c.def_ 9 (d := d_is_text) rfl
  have n_all := He.free_ok B.X B.G (B.c.fact 82 (f := .free "all") rfl)
  have n_isinstance := He.free_ok B.X B.G (B.c.fact 77 (f := .free "isinstance") rfl)
  have n_len := He.free_ok B.X B.G (B.c.fact 81 (f := .free "len") rfl)
  have n_str := He.free_ok B.X B.G (B.c.fact 80 (f := .free "str") rfl)
  obtain ⟨t_MOST_TEXT, c_MOST_TEXT⟩ := He.int_ok B.X B.G (B.c.fact 103 (f := .int "MOST_TEXT" 40) rfl)
  have g0 := He.glo_ok B.X B.G (B.c.fact 9 (f := .glo "is_text") rfl)
  refine ⟨_, fd, g0, F.kp, F.bindsN (fun _ _ _ _ _ _ us hl => match us, hl with | [_], _ => rfl), ?_⟩
  refine F.ok sc_is_text (fun vs H Q E h => len1 h) (fun cdv A outer s H vs Q E hr h => ?_)
  have nd := sc_is_text.nd
  have hu := hu_of hr
  refine' ⟨_, PSs.nox ?hT, ?hR⟩
  case hT => exact (pss_one (ps_ret (pe_and (pe_callB call_isi rfl n_isinstance (by decide +kernel) (pa_cons (pv 0) (pa_cons (pe_bltn (v := .ty "str") rfl n_str boot_str rfl) pa_nil))) (pe_and (pe_cmpR op_le (pe_callB call_len_str rfl n_len (by decide +kernel) (pa_cons (pv 0) pa_nil)) (pe_glob (v := .int 40) rfl c_MOST_TEXT ⟨_, rfl⟩) (nomark _)) (pe_one (pe_callB (cr_all rfl) rfl n_all (by decide +kernel) (pa_cons (pe_lc (own := [("sign", 1)]) (g := gName 1) (tt := tYes) rfl nd (pi_str (pv 0)) (blkOk_by (N := ["thing", "sign"]) (sc := defScope s_is_text) (by decide +kernel)) (fun _ _ _ _ _ => (pg_name (i := 1) nd rfl (Or.inl rfl))) (fun _ _ _ _ _ => pts_nil) (fun _ _ _ _ _ => (pe_chain op_le_str op_le_str (pe_str) (pv 1) (pe_str)))) pa_nil)))))))
  clear hr hu nd g0 F fd n_all n_isinstance n_len n_str c_MOST_TEXT t_MOST_TEXT
  try dsimp only [cxOf, Cx.nox, Cx.wish]
  obtain ⟨_, rfl, x, rfl, ⟨h40, ok⟩, q⟩ := h
  have z3 : x.length ≤ sizeLine := Nat.le_trans h40 (by decide)
  have z4 : x.length = x.cps.size := rfl
  fail "r"
  refine lc_it walk_str (AllP H D) (AllP.start (by assumption)) (fun _ _ _ _ => trivial) (fun i y H2 H3 hi p z => ?_) (fun H2 p => p.fin q)
  obtain ⟨rfl, c, hc, rfl⟩ := z
  have hi2 : i < 100000 := by omega
  have hm : c ∈ tl x := List.mem_of_getElem? (i := i) (by rw [← hc]; simp)
  obtain ⟨b1, b2⟩ := ok c hm
  have e1 := le_sgn b1
  have e2 := ge_sgn b2
  fail "r"
def sp_is_count (K : PySem.W.Frag) : Sp := sp1 fun v H Q => ∃ c : Option Nat, Dt K H v (cntD c) ∧ Q (.bl true) H
theorem sc_is_count : FnScope ["thing"] ["thing"] (defScope s_is_count) := ⟨rfl, rfl, rfl, by decide +kernel, rfl, by decide +kernel, by decide +kernel⟩
theorem k_is_count (B : Bag w K mg base) : Kept P w K mg base "is_count" 2 ["thing"] (sp_is_count K) := by
  obtain ⟨fd, F⟩ := B.c.def_ 10 (d := d_is_count) rfl
  obtain ⟨f_is_whole, fd_is_whole, g_is_whole, kp_is_whole, b_is_whole, o_is_whole⟩ := k_is_whole (P := P) B
  have g0 := He.glo_ok B.X B.G (B.c.fact 10 (f := .glo "is_count") rfl)
  refine ⟨_, fd, g0, F.kp, F.bindsN (fun _ _ _ _ _ _ us hl => match us, hl with | [_], _ => rfl), ?_⟩
  refine F.ok sc_is_count (fun vs H Q E h => len1 h) (fun cdv A outer s H vs Q E hr h => ?_)
  have nd := sc_is_count.nd
  have hu := hu_of hr
  refine' ⟨_, PSs.nox ?hT, ?hR⟩
  case hT => exact (pss_one (ps_ret (pe_or (pe_cmp (pc_isN (pv 0))) (pe_one (pe_and (pe_call o_is_whole hr rfl g_is_whole kp_is_whole b_is_whole .nil pass0 (pa_cons (pv 0) pa_nil)) (pe_one (pe_cmpR op_ge (pv 0) (pe_int) (nomark _))))))))
  clear hr hu nd g0 F fd o_is_whole b_is_whole kp_is_whole g_is_whole fd_is_whole
  try dsimp only [cxOf, Cx.nox, Cx.wish]
  obtain ⟨_, rfl, c, d, q⟩ := h
  cases c with
  | none =>
    cases d
    fail "r"
  | some n =>
    cases d
    fail "r"
def sp_is_make (K : PySem.W.Frag) : Sp := sp2 fun v u H Q => ∃ (x t : Str) (l : Addr) (o n : Bool), v = .str x ∧ u = .ref l ∧ SqL K H l [.str t, .bl o, .bl n] ∧ (Pl.make x t o n).Ok ∧ ∀ H', L2.Same H H' → Q (.bl true) H'
theorem sc_is_make : FnScope ["path", "rest", "text", "own", "numbered"] ["path", "rest"] (defScope s_is_make) := ⟨rfl, rfl, rfl, by decide +kernel, rfl, by decide +kernel, by decide +kernel⟩
theorem k_is_make (B : Bag w K mg base) : Kept P w K mg base "is_make" 3 ["path", "rest"] (sp_is_make K) := by
  obtain ⟨fd, F⟩ := B.c.def_ 11 (d := d_is_make) rfl
  obtain ⟨f_is_text, fd_is_text, g_is_text, kp_is_text, b_is_text, o_is_text⟩ := k_is_text (P := P) B
  obtain ⟨f_is_word, fd_is_word, g_is_word, kp_is_word, b_is_word, o_is_word⟩ := k_is_word (P := P) B
  obtain ⟨f_last_part, fd_last_part, g_last_part, kp_last_part, b_last_part, o_last_part⟩ := k_last_part (P := P) B
  have n_bool := He.free_ok B.X B.G (B.c.fact 79 (f := .free "bool") rfl)
  have n_isinstance := He.free_ok B.X B.G (B.c.fact 77 (f := .free "isinstance") rfl)
  obtain ⟨t_ROOT, c_ROOT⟩ := He.str_ok B.X B.G (B.c.fact 96 (f := .str "ROOT" "/") rfl)
  have g0 := He.glo_ok B.X B.G (B.c.fact 11 (f := .glo "is_make") rfl)
  refine ⟨_, fd, g0, F.kp, F.bindsN (fun _ _ _ _ _ _ us hl => match us, hl with | [_, _], _ => rfl), ?_⟩
  refine F.ok sc_is_make (fun vs H Q E h => len2 h) (fun cdv A outer s H vs Q E hr h => ?_)
  have nd := sc_is_make.nd
  have hu := hu_of hr
  refine' ⟨_, PSs.nox ?hT, ?hR⟩
  case hT => exact (pss_cons (ps_asg (pv 1) (pg_unl rfl (pgs_cons (pg_name (i := 2) nd rfl (Or.inl rfl)) (pgs_cons (pg_name (i := 3) nd rfl (Or.inl rfl)) (pgs_cons (pg_name (i := 4) nd rfl (Or.inl rfl)) pgs_nil)))))
      (pss_cons (ps_if (PW.pt (pw_or (pt_cmpR op_eq (pv 0) (pe_glob (v := .str "/") rfl c_ROOT ⟨_, rfl⟩) (nomark _)) (pw_or (pt_not (pt_val (pe_call o_is_text (hr.mono (by decide)) rfl g_is_text kp_is_text b_is_text .nil pass0 (pa_cons (pv 2) pa_nil)))) (pw_or (pt_not (pt_val (pe_callB call_isi rfl n_isinstance (by decide +kernel) (pa_cons (pv 3) (pa_cons (pe_bltn (v := .ty "bool") rfl n_bool boot_bool rfl) pa_nil))))) (pw_or1 (pt_not (pt_val (pe_callB call_isi rfl n_isinstance (by decide +kernel) (pa_cons (pv 4) (pa_cons (pe_bltn (v := .ty "bool") rfl n_bool boot_bool rfl) pa_nil)))))))))) (pss_one (ps_ret (pe_bl))) pss_nil)
      (pss_one (ps_ret (pe_or (pe_not (pv 4)) (pe_one (pe_call o_is_word (hr.mono (by decide)) rfl g_is_word kp_is_word b_is_word .nil pass0 (pa_cons (pe_call o_last_part hr rfl g_last_part kp_last_part b_last_part .nil pass0 (pa_cons (pv 0) pa_nil)) pa_nil))))))))
  clear hr hu nd g0 F fd o_is_text b_is_text kp_is_text g_is_text fd_is_text o_is_word b_is_word kp_is_word g_is_word fd_is_word o_last_part b_last_part kp_last_part g_last_part fd_last_part n_bool n_isinstance c_ROOT t_ROOT
  try dsimp only [cxOf, Cx.nox, Cx.wish]
  obtain ⟨_, _, rfl, x, t, l, o, n, rfl, rfl, hl, ⟨hp, hr, ht, hn⟩, q⟩ := h
  have hr2 : ¬ V.str x = V.str "/" := fun z => hr (V.str.inj z)
  cases n with
  | false =>
    fail "r"
    exact q _ (by fail "c")
  | true =>
    obtain ⟨ps, y, rfl, h1, h2⟩ := hn rfl
    fail "r"
    exact q _ (by fail "c")
def sp_is_plain (K : PySem.W.Frag) : Sp := sp1 fun v H Q => (∃ p : Pl, Dt K H v p.d ∧ p.Ok ∧ ∀ H', L2.Same H H' → Q (.bl true) H') ∨ ∃ ds, Dt K H v (.tuple ds) ∧ ds.length < 3 ∧ Q (.bl false) H
theorem sc_is_plain : FnScope ["thing", "word", "path", "rest"] ["thing"] (defScope s_is_plain) := ⟨rfl, rfl, rfl, by decide +kernel, rfl, by decide +kernel, by decide +kernel⟩
theorem k_is_plain (B : Bag w K mg base) : Kept P w K mg base "is_plain" 4 ["thing"] (sp_is_plain K) := by
  obtain ⟨fd, F⟩ := B.c.def_ 12 (d := d_is_plain) rfl
  obtain ⟨f_is_path, fd_is_path, g_is_path, kp_is_path, b_is_path, o_is_path⟩ := k_is_path (P := P) B
  obtain ⟨f_is_make, fd_is_make, g_is_make, kp_is_make, b_is_make, o_is_make⟩ := k_is_make (P := P) B
  obtain ⟨f_is_count, fd_is_count, g_is_count, kp_is_count, b_is_count, o_is_count⟩ := k_is_count (P := P) B
  obtain ⟨f_is_text, fd_is_text, g_is_text, kp_is_text, b_is_text, o_is_text⟩ := k_is_text (P := P) B
  have n_isinstance := He.free_ok B.X B.G (B.c.fact 77 (f := .free "isinstance") rfl)
  have n_len := He.free_ok B.X B.G (B.c.fact 81 (f := .free "len") rfl)
  have n_str := He.free_ok B.X B.G (B.c.fact 80 (f := .free "str") rfl)
  have n_tuple := He.free_ok B.X B.G (B.c.fact 83 (f := .free "tuple") rfl)
  have c_LONG := He.glo_ok B.X B.G (B.c.fact 72 (f := .glo "LONG") rfl)
  obtain ⟨t_ROOT, c_ROOT⟩ := He.str_ok B.X B.G (B.c.fact 96 (f := .str "ROOT" "/") rfl)
  have g0 := He.glo_ok B.X B.G (B.c.fact 12 (f := .glo "is_plain") rfl)
  refine ⟨_, fd, g0, F.kp, F.bindsN (fun _ _ _ _ _ _ us hl => match us, hl with | [_], _ => rfl), ?_⟩
  refine F.ok sc_is_plain (fun vs H Q E h => len1 h) (fun cdv A outer s H vs Q E hr h => ?_)
  have nd := sc_is_plain.nd
  have hu := hu_of hr
  refine' ⟨_, PSs.nox ?hT, ?hR⟩
  case hT => exact (pss_cons (ps_if (PW.pt (pw_or (pt_not (pt_val (pe_callB call_isi rfl n_isinstance (by decide +kernel) (pa_cons (pv 0) (pa_cons (pe_bltn (v := .ty "tuple") rfl n_tuple boot_tuple rfl) pa_nil))))) (pw_or (pt_cmpR op_lt (pe_callB call_len_seq rfl n_len (by decide +kernel) (pa_cons (pv 0) pa_nil)) (pe_int) (nomark _)) (pw_or1 (pt_not (pt_val (pe_callB call_isi rfl n_isinstance (by decide +kernel) (pa_cons (pe_ix ix_tup (pv 0) (pe_int) (fun _ _ => rfl)) (pa_cons (pe_bltn (v := .ty "str") rfl n_str boot_str rfl) pa_nil))))))))) (pss_one (ps_ret (pe_bl))) pss_nil)
      (pss_cons (ps_asg (pv 0) (pg_starA (i := 2) rfl (pgs_cons (pg_name (i := 1) nd rfl (Or.inl rfl)) (pgs_cons (pg_name (i := 2) nd rfl (Or.inl rfl)) (pgs_cons (pg_name (i := 3) nd rfl (Or.inl rfl)) pgs_nil)))))
      (pss_cons (ps_if (PW.pt (pw_or (pt_cmpR op_ne (pe_getK (pe_glob (v := .ref (He.ga K "LONG")) rfl c_LONG rfl) (pv 1) ⟨rfl, rfl, rfl, rfl⟩) (pe_callB call_len_seq rfl n_len (by decide +kernel) (pa_cons (pv 0) pa_nil)) (nomark _)) (pw_or1 (pt_not (pt_val (pe_call o_is_path hr rfl g_is_path kp_is_path b_is_path .nil pass0 (pa_cons (pv 2) pa_nil))))))) (pss_one (ps_ret (pe_bl))) pss_nil)
      (pss_cons (ps_if (pt_cmpR op_eq (pv 1) (pe_str) (nomark _)) (pss_one (ps_ret (pe_call o_is_make hr rfl g_is_make kp_is_make b_is_make .nil pass0 (pa_cons (pv 2) (pa_cons (pv 3) pa_nil))))) pss_nil)
      (pss_cons (ps_if (pt_cmpR op_eq (pv 1) (pe_str) (nomark _)) (pss_one (ps_ret (pe_and (pe_call o_is_text (hr.mono (by decide)) rfl g_is_text kp_is_text b_is_text .nil pass0 (pa_cons (pe_ix ix_list (pv 3) (pe_int) (fun _ _ => rfl)) pa_nil)) (pe_one (pe_call o_is_count (hr.mono (by decide)) rfl g_is_count kp_is_count b_is_count .nil pass0 (pa_cons (pe_ix ix_list (pv 3) (pe_int) (fun _ _ => rfl)) pa_nil)))))) pss_nil)
      (pss_one (ps_ret (pe_and (pe_call o_is_count (hr.mono (by decide)) rfl g_is_count kp_is_count b_is_count .nil pass0 (pa_cons (pe_ix ix_list (pv 3) (pe_int) (fun _ _ => rfl)) pa_nil)) (pe_one (pe_or (pe_cmpR op_eq (pv 1) (pe_str) (nomark _)) (pe_one (pe_cmpR op_ne (pv 2) (pe_glob (v := .str "/") rfl c_ROOT ⟨_, rfl⟩) (nomark _)))))))))))))
  clear hr hu nd g0 F fd o_is_path b_is_path kp_is_path g_is_path fd_is_path o_is_make b_is_make kp_is_make g_is_make fd_is_make o_is_count b_is_count kp_is_count g_is_count fd_is_count o_is_text b_is_text kp_is_text g_is_text fd_is_text n_isinstance n_len n_str n_tuple c_LONG c_ROOT t_ROOT
  try dsimp only [cxOf, Cx.nox, Cx.wish]
  obtain ⟨v, rfl, h⟩ := h
  have LG := B.longD
  rcases h with ⟨p, d, ok, q⟩ | ⟨ds, d, h3, q⟩
  · cases p with
    | make x t o n =>
      obtain ⟨l, rfl, d2⟩ := pl_make d
      have hp := ok.1
      have hk : KHas K w (He.ga K "LONG") "make" (.int 5) := B.longK (q := ("make", .int 5)) (by simp)
      fail "r"
      exact q _ (by fail "c")
    | put x t c =>
      obtain ⟨l, c', rfl, d2, dc⟩ := pl_put d
      obtain ⟨hp, ht, hc⟩ := ok
      have hk : KHas K w (He.ga K "LONG") "put" (.int 4) := B.longK (q := ("put", .int 4)) (by simp)
      fail "r"
      exact q _ (by fail "c")
    | drop x c =>
      obtain ⟨l, c', rfl, d2, dc⟩ := pl_drop d
      obtain ⟨hp, hr, hc⟩ := ok
      have hr2 : ¬ V.str x = V.str "/" := fun z => hr (V.str.inj z)
      have hr3 : (!decide (V.str x = V.str "/")) = true := notT (decide_eq_false hr2)
      have hk : KHas K w (He.ga K "LONG") "drop" (.int 3) := B.longK (q := ("drop", .int 3)) (by simp)
      fail "r"
      rw [hr3]
      exact q _ (by fail "c")
    | see x c =>
      obtain ⟨l, c', rfl, d2, dc⟩ := pl_see d
      obtain ⟨hp, hc⟩ := ok
      have hk : KHas K w (He.ga K "LONG") "see" (.int 3) := B.longK (q := ("see", .int 3)) (by simp)
      fail "r"
      exact q _ (by fail "c")
  · obtain ⟨l, xs, rfl, d2, d3⟩ := d.inv
    have h3' : xs.length < 3 := by rw [d3.length]; exact h3
    fail "r"
def sp_first_nodes (K : PySem.W.Frag) : Sp := sp0 fun H Q => ∀ p H', L2.Same H H' → H p = none → Web K H' p (ndsD root0) → Q (.ref p) H'
theorem sc_first_nodes : FnScope [] [] (defScope s_first_nodes) := ⟨rfl, rfl, rfl, by decide +kernel, rfl, by decide +kernel, by decide +kernel⟩
theorem k_first_nodes (B : Bag w K mg base) : Kept P w K mg base "first_nodes" 1 [] (sp_first_nodes K) := by
  obtain ⟨fd, F⟩ := B.c.def_ 13 (d := d_first_nodes) rfl
  obtain ⟨t_ROOT, c_ROOT⟩ := He.str_ok B.X B.G (B.c.fact 96 (f := .str "ROOT" "/") rfl)
  have g0 := He.glo_ok B.X B.G (B.c.fact 13 (f := .glo "first_nodes") rfl)
  refine ⟨_, fd, g0, F.kp, F.bindsN (fun _ _ _ _ _ _ us hl => match us, hl with | [], _ => rfl), ?_⟩
  refine F.ok sc_first_nodes (fun vs H Q E h => len0 h) (fun cdv A outer s H vs Q E hr h => ?_)
  have nd := sc_first_nodes.nd
  have hu := hu_of hr
  refine' ⟨_, PSs.nox ?hT, ?hR⟩
  case hT => exact (pss_one (ps_ret (pe_disp1 (pe_glob (v := .str "/") rfl c_ROOT ⟨_, rfl⟩) (pe_tupA (pa_cons (pe_str) (pa_cons (pe_int) (pa_cons (pe_int) (pa_cons (pe_non) pa_nil))))))))
  clear hr hu nd g0 F fd c_ROOT t_ROOT
  try dsimp only [cxOf, Cx.nox, Cx.wish]
  obtain ⟨rfl, q⟩ := h
  fail "r"
  have ht : TpK K H'_1 p_1 [.str "", .int 0, .int 0, .non] := by fail "c"
  exact q _ _ (by fail "c") (by fail "c") (Web.mk a_8 (.cons (nd_mk (o' := .non) ht rfl rfl .non) .nil))
def sp_kids_of (K : PySem.W.Frag) : Sp := sp2 fun v u H Q => ∃ (a : Addr) (W : Nds) (x : Str) (B : Nat), v = .ref a ∧ u = .str x ∧ Web K H a (ndsD W) ∧ NdsOk B W ∧ (lkA W x).isSome = true ∧ ∀ l ys H', L2.Same H H' → H' l = some (.lst (ys.map V.str)) → (∀ y ∈ ys, PyData.strOk y = true) → (ys = [] ↔ hasKid W x = false) → Q (.ref l) H'
structure KidP (HF : Hp) (D : Addr) (W : Nds) (x : Str) (i : Nat) (H : Hp) : Prop where
  s : L2.Same HF H
  e : ∃ ys : List Str, H D = some (.lst (ys.map V.str)) ∧ ys.length ≤ i ∧ (∀ y ∈ ys, PyData.strOk y = true) ∧ (ys = [] ↔ ((W.take i).any fun p => decide (p.1 ≠ "/") && decide (parentOf p.1 = x)) = false)
theorem any_take {α : Type} {W : List α} {f : α → Bool} {i : Nat} {p : α} (h : W[i]? = some p) : (W.take (i + 1)).any f = ((W.take i).any f || f p) := by
  rw [List.take_succ, h, List.any_append]
  simp
theorem sc_kids_of : FnScope ["nodes", "path", "one"] ["nodes", "path"] (defScope s_kids_of) := ⟨rfl, rfl, rfl, by decide +kernel, rfl, by decide +kernel, by decide +kernel⟩
theorem k_kids_of (B : Bag w K mg base) : Kept P w K mg base "kids_of" 3 ["nodes", "path"] (sp_kids_of K) := by
  obtain ⟨fd, F⟩ := B.c.def_ 14 (d := d_kids_of) rfl
  obtain ⟨f_parent_of, fd_parent_of, g_parent_of, kp_parent_of, b_parent_of, o_parent_of⟩ := k_parent_of (P := P) B
  obtain ⟨f_last_part, fd_last_part, g_last_part, kp_last_part, b_last_part, o_last_part⟩ := k_last_part (P := P) B
  have n_sorted := He.free_ok B.X B.G (B.c.fact 86 (f := .free "sorted") rfl)
  obtain ⟨t_ROOT, c_ROOT⟩ := He.str_ok B.X B.G (B.c.fact 96 (f := .str "ROOT" "/") rfl)
  have g0 := He.glo_ok B.X B.G (B.c.fact 14 (f := .glo "kids_of") rfl)
  refine ⟨_, fd, g0, F.kp, F.bindsN (fun _ _ _ _ _ _ us hl => match us, hl with | [_, _], _ => rfl), ?_⟩
  refine F.ok sc_kids_of (fun vs H Q E h => len2 h) (fun cdv A outer s H vs Q E hr h => ?_)
  have nd := sc_kids_of.nd
  have hu := hu_of hr
  refine' ⟨_, PSs.nox ?hT, ?hR⟩
  case hT => exact (pss_cons (ps_if (pt_cmp (pc_dnotin hu (pv 1) (pv 0))) (pss_one (ps_ret (pe_non))) pss_nil)
      (pss_one (ps_lockA (ps_ret (pe_callB cr_sortSA rfl n_sorted (by decide +kernel) (pa_cons (pe_lc (own := [("one", 2)]) (g := gName 2) rfl nd (pi_keys (pv 0)) (blkOk_by (N := ["nodes", "path", "one"]) (sc := defScope s_kids_of) (by decide +kernel)) (fun _ _ _ _ _ => (pg_name (i := 2) nd rfl (Or.inl rfl))) (fun _ _ _ _ _ => pts_one (PW.pt (pw_and (pt_cmpR op_ne (pv 2) (pe_glob (v := .str "/") rfl c_ROOT ⟨_, rfl⟩) (nomark _)) (pw_and1 (pt_cmpR op_eq (pe_call o_parent_of hr rfl g_parent_of kp_parent_of b_parent_of .nil pass0 (pa_cons (pv 2) pa_nil)) (pv 1) (nomark _)))))) (fun _ _ _ _ _ => (pe_call o_last_part hr rfl g_last_part kp_last_part b_last_part .nil pass0 (pa_cons (pv 2) pa_nil)))) pa_nil))))))
  clear hr hu nd g0 F fd o_parent_of b_parent_of kp_parent_of g_parent_of fd_parent_of o_last_part b_last_part kp_last_part g_last_part fd_last_part n_sorted c_ROOT t_ROOT
  try dsimp only [cxOf, Cx.nox, Cx.wish]
  obtain ⟨_, _, rfl, a, W, x, B, rfl, rfl, hw, ok, hk, q⟩ := h
  obtain ⟨kvs, hd, he⟩ := hw
  obtain ⟨e, hk⟩ := Option.isSome_iff_exists.mp hk
  obtain ⟨v, hv, dv⟩ := he.getN hk
  have hsz := ok.size
  have hlk := he.lenN
  fail "r"
  refine .inl ⟨kvs, a_3, fun D nD => ?_⟩
  refine lc_it (walk_keys (kvs := kvs)) (KidP HF D W x) ⟨sameUpd nD, [], upd_same, Nat.le_refl _, (fun y hy => by cases hy), by simp⟩ (fun i H i1 kp => kp.s _ _ a_3) (fun i y H2 H3 hi kp z => ?_) (fun H2 kp => ?_)
  · obtain ⟨rfl, k, u, hku, rfl⟩ := z
    obtain ⟨y, nd, hW, rfl, dy⟩ := Ents.at (kvs := kvs) i he hku
    obtain ⟨s3, ys, hD, hl, hok, hys⟩ := kp
    have py := ok.path _ (List.mem_of_getElem? hW)
    have hat := any_take (f := fun p : Str × Nd => decide (p.1 ≠ "/") && decide (parentOf p.1 = x)) hW
    have hlen : (ys.map V.str).length < sizeLine := small_size (m := 60) (by rw [List.length_map]; omega)
    by_cases c1 : y = "/"
    · have e1 : (!decide (V.str y = V.str "/")) = false := by rw [c1]; rfl
      fail "r"
      refine ⟨by fail "c", ys, by fail "c", by omega, hok, ?_⟩
      rw [hat, hys]
      simp [c1]
    · have e1 : (!decide (V.str y = V.str "/")) = true := notT (decide_eq_false fun z => c1 (V.str.inj z))
      obtain ⟨ps, z, hy, hps⟩ := path_last py c1
      by_cases c2 : parentOf y = x
      · have e2 : V.str (parentOf y) = V.str x := by rw [c2]
        subst hy
        fail "r"
        refine ⟨?_, ys ++ [z], ?_, ?_, ?_, ?_⟩
        · exact sameUP nD (by fail "c")
        · rw [upd_same, List.map_append]; rfl
        · rw [List.length_append]; simp; omega
        · intro y hy
          rcases List.mem_append.mp hy with hy | hy
          · exact hok y hy
          · rw [List.mem_singleton.mp hy]; exact (hps.2 z (by simp)).strOk
        · rw [hat]
          simp [c1, c2]
      · have e2 : ¬ V.str (parentOf y) = V.str x := fun z => c2 (V.str.inj z)
        fail "r"
        refine ⟨by fail "c", ys, by fail "c", by omega, hok, ?_⟩
        rw [hat, hys]
        simp [c2]
  · obtain ⟨s3, ys, hD, hl, hok, hys⟩ := kp
    have h64 : ys.length < 64 := by omega
    fail "r"
    have hpa : p ≠ a := fun z => by subst z; rw [a_6 _ _ (s3 _ _ a_3)] at a_8; cases a_8
    refine q _ ys_1 _ ?_ ?_ ?_ ?_
    · exact sameLock hd (by assumption) (by fail "c")
    · exact getB (by assumption) hpa (by fail "c")
    · exact fun y hy => hok y (a_4.mem_iff.mp hy)
    · rw [← show (ys = [] ↔ ys_1 = []) from ⟨fun z => by subst z; exact a_4.eq_nil, fun z => by subst z; exact a_4.symm.eq_nil⟩, hys, hlk, List.take_of_length_le (Nat.le_refl _)]
      exact Iff.rfl
/-- the nodes then, the answer, the events -/
def Res (K : PySem.W.Frag) (H : Hp) (Q : VK) (Wd : List (Str × PyData)) (an : PyData) : Prop :=
  ∀ (r w1 ev : Addr) (v : V) (zs : List V) (H' : Hp), L2.Same H H' → H' r = some (.tup [.ref w1, v, .ref ev]) → Web K H' w1 Wd → Dt K H' v an → H' ev = some (.lst zs) → zs.length ≤ 2 → H ev = none → H w1 = none → Q (.ref r) H'
theorem Res.use {H H' : Hp} {Q : VK} {Wd : List (Str × PyData)} {an : PyData} {r w1 ev : Addr} {v : V} {zs : List V} (q : Res K H Q Wd an) (h1 : L2.Same H H') (h2 : H' r = some (.tup [.ref w1, v, .ref ev])) (h3 : Web K H' w1 Wd) (h4 : Dt K H' v an) (h5 : H' ev = some (.lst zs)) (h6 : zs.length ≤ 2) (h7 : H ev = none) (h8 : H w1 = none) : Q (.ref r) H' :=
  q r w1 ev v zs H' h1 h2 h3 h4 h5 h6 h7 h8
def sp_refused (K : PySem.W.Frag) : Sp := sp2 fun v u H Q => ∃ (a : Addr) (W : List (Str × PyData)) (x : Str), v = .ref a ∧ u = .str x ∧ Web K H a W ∧ Res K H Q W (.tuple [.str "no", .str x])
theorem sc_refused : FnScope ["nodes", "word"] ["nodes", "word"] (defScope s_refused) := ⟨rfl, rfl, rfl, by decide +kernel, rfl, by decide +kernel, by decide +kernel⟩
theorem k_refused (B : Bag w K mg base) : Kept P w K mg base "refused" 1 ["nodes", "word"] (sp_refused K) := by
  obtain ⟨fd, F⟩ := B.c.def_ 15 (d := d_refused) rfl
  have n_dict := He.free_ok B.X B.G (B.c.fact 85 (f := .free "dict") rfl)
  have g0 := He.glo_ok B.X B.G (B.c.fact 15 (f := .glo "refused") rfl)
  refine ⟨_, fd, g0, F.kp, F.bindsN (fun _ _ _ _ _ _ us hl => match us, hl with | [_, _], _ => rfl), ?_⟩
  refine F.ok sc_refused (fun vs H Q E h => len2 h) (fun cdv A outer s H vs Q E hr h => ?_)
  have nd := sc_refused.nd
  have hu := hu_of hr
  refine' ⟨_, PSs.nox ?hT, ?hR⟩
  case hT => exact (pss_one (ps_ret (pe_tupA (pa_cons (pe_callTy call_dictA rfl n_dict boot_dict (pa_cons (pv 0) pa_nil)) (pa_cons (pe_tupA (pa_cons (pe_str) (pa_cons (pv 1) pa_nil))) (pa_cons (pe_lstA pa_nil) pa_nil))))))
  clear hr hu nd g0 F fd n_dict
  try dsimp only [cxOf, Cx.nox, Cx.wish]
  obtain ⟨_, _, rfl, a, W, x, rfl, rfl, ⟨kvs, hd, he⟩, q⟩ := h
  fail "r"
  apply Res.use q
  · fail "c"
  · fail "c"
  · exact ⟨kvs, by fail "c", by fail "c"⟩
  · fail "c"
  · fail "c"
  · decide
  · fail "c"
  · fail "c"
def sp_numbered_path (K : PySem.W.Frag) : Sp := sp2 fun v u H Q => ∃ (x : Str) (n : Nat), v = .str x ∧ u = .int n ∧ x.length ≤ 100 ∧ n < big ∧ Q (.str (numT x n)) H
theorem sc_numbered_path : FnScope ["path", "made"] ["path", "made"] (defScope s_numbered_path) := ⟨rfl, rfl, rfl, by decide +kernel, rfl, by decide +kernel, by decide +kernel⟩
theorem k_numbered_path (B : Bag w K mg base) : Kept P w K mg base "numbered_path" 1 ["path", "made"] (sp_numbered_path K) := by
  obtain ⟨fd, F⟩ := B.c.def_ 16 (d := d_numbered_path) rfl
  have n_str := He.free_ok B.X B.G (B.c.fact 80 (f := .free "str") rfl)
  obtain ⟨t_MANY_FIGURES, c_MANY_FIGURES⟩ := He.int_ok B.X B.G (B.c.fact 100 (f := .int "MANY_FIGURES" 6) rfl)
  have g0 := He.glo_ok B.X B.G (B.c.fact 16 (f := .glo "numbered_path") rfl)
  refine ⟨_, fd, g0, F.kp, F.bindsN (fun _ _ _ _ _ _ us hl => match us, hl with | [_, _], _ => rfl), ?_⟩
  refine F.ok sc_numbered_path (fun vs H Q E h => len2 h) (fun cdv A outer s H vs Q E hr h => ?_)
  have nd := sc_numbered_path.nd
  have hu := hu_of hr
  refine' ⟨_, PSs.nox ?hT, ?hR⟩
  case hT => exact (pss_one (ps_ret (pe_op op_add_str (pe_op op_add_str (pv 0) (pe_str)) (pe_bm PySem.F.plainAttrs_str PySem.F.slot_str_rjust PySem.F.type_str_rjust mt_rjustF (pe_callTy call_numN rfl n_str boot_str (pa_cons (pv 1) pa_nil)) (pa_cons (pe_glob (v := .int 6) rfl c_MANY_FIGURES ⟨_, rfl⟩) (pa_cons (pe_str) pa_nil))))))
  clear hr hu nd g0 F fd n_str c_MANY_FIGURES t_MANY_FIGURES
  try dsimp only [cxOf, Cx.nox, Cx.wish]
  obtain ⟨_, _, rfl, x, n, rfl, rfl, hx, hn, q⟩ := h
  have e0 : ("-" : Str).length = 1 := by decide +kernel
  have e1 : x.length + ("-" : Str).length ≤ sizeLine := by rw [e0]; exact Nat.le_trans (Nat.add_le_add_right hx 1) (by decide)
  have e3 : Nm (Txt.rjustF (num n) 6 (("0" : Str).cps.getD 0 0)) (pad6 n) := ⟨by unfold pad6; rw [show ("0" : Str).cps.getD 0 0 = 48 by decide +kernel]⟩
  have e4 : (x ++ "-").length + (pad6 n).length ≤ sizeLine := by
    rw [PySem.Str.length_append, e0]
    have := pad6_len hn
    exact Nat.le_trans (Nat.add_le_add (Nat.add_le_add_right hx 1) this) (by decide)
  have e5 : PadOk 6 = true := by decide
  have e6 : ("0" : Str).length = 1 := by decide +kernel
  fail "r"
def sp_make (K : PySem.W.Frag) : Sp := sp6 fun v1 v2 v3 v4 v5 v6 H Q => ∃ (a : Addr) (W : Nds) (who x t : Str) (o n : Bool) (B : Nat), v1 = .ref a ∧ v2 = .str who ∧ v3 = .str x ∧ v4 = .str t ∧ v5 = .bl o ∧ v6 = .bl n ∧
  Web K H a (ndsD W) ∧ NdsOk B W ∧ B < big ∧ PathOk x ∧ Res K H Q (ndsD (makeM W who x t o n).1) (makeM W who x t o n).2.d
theorem sc_make : FnScope ["nodes", "asker", "path", "text", "own", "numbered", "parent", "found", "above", "count", "made", "owner"] ["nodes", "asker", "path", "text", "own", "numbered"] (defScope s_make) := ⟨rfl, rfl, rfl, by decide +kernel, rfl, by decide +kernel, by decide +kernel⟩
theorem k_make (B : Bag w K mg base) : Kept P w K mg base "make" 3 ["nodes", "asker", "path", "text", "own", "numbered"] (sp_make K) := by
  obtain ⟨fd, F⟩ := B.c.def_ 17 (d := d_make) rfl
  obtain ⟨f_parent_of, fd_parent_of, g_parent_of, kp_parent_of, b_parent_of, o_parent_of⟩ := k_parent_of (P := P) B
  obtain ⟨f_refused, fd_refused, g_refused, kp_refused, b_refused, o_refused⟩ := k_refused (P := P) B
  obtain ⟨f_numbered_path, fd_numbered_path, g_numbered_path, kp_numbered_path, b_numbered_path, o_numbered_path⟩ := k_numbered_path (P := P) B
  have n_dict := He.free_ok B.X B.G (B.c.fact 85 (f := .free "dict") rfl)
  have n_len := He.free_ok B.X B.G (B.c.fact 81 (f := .free "len") rfl)
  obtain ⟨t_MOST_MADE, c_MOST_MADE⟩ := He.int_ok B.X B.G (B.c.fact 102 (f := .int "MOST_MADE" 999999) rfl)
  obtain ⟨t_MOST_NODES, c_MOST_NODES⟩ := He.int_ok B.X B.G (B.c.fact 101 (f := .int "MOST_NODES" 60) rfl)
  have g0 := He.glo_ok B.X B.G (B.c.fact 17 (f := .glo "make") rfl)
  refine ⟨_, fd, g0, F.kp, F.bindsN (fun _ _ _ _ _ _ us hl => match us, hl with | [_, _, _, _, _, _], _ => rfl), ?_⟩
  refine F.ok sc_make (fun vs H Q E h => len6 h) (fun cdv A outer s H vs Q E hr h => ?_)
  have nd := sc_make.nd
  have hu := hu_of hr
  refine' ⟨_, PSs.nox ?hT, ?hR⟩
  case hT => exact (pss_cons (ps_set (i := 6) nd rfl (Or.inl rfl) (pe_call o_parent_of hr rfl g_parent_of kp_parent_of b_parent_of .nil pass0 (pa_cons (pv 2) pa_nil)))
      (pss_cons (ps_if (pt_cmp (pc_dnotin hu (pv 6) (pv 0))) (pss_one (ps_ret (pe_call o_refused (hr.mono (by decide)) rfl g_refused kp_refused b_refused .nil pass0 (pa_cons (pv 0) (pa_cons (pe_str) pa_nil))))) pss_nil)
      (pss_cons (ps_asg (pe_dget hu (pv 0) (pv 6) (fun _ _ => rfl)) (pg_tup rfl (pgs_cons (pg_name (i := 8) nd rfl (Or.inl rfl)) (pgs_cons (pg_name (i := 9) nd rfl (Or.inl rfl)) (pgs_cons (pg_name (i := 10) nd rfl (Or.inl rfl)) (pgs_cons (pg_name (i := 11) nd rfl (Or.inl rfl)) pgs_nil))))))
      (pss_cons (ps_if (pt_cmp (pc_notN (pv 11))) (pss_one (ps_ret (pe_call o_refused (hr.mono (by decide)) rfl g_refused kp_refused b_refused .nil pass0 (pa_cons (pv 0) (pa_cons (pe_str) pa_nil))))) pss_nil)
      (pss_cons (ps_if (pt_val (pv 5)) (pss_one (ps_set (i := 2) nd rfl (Or.inl rfl) (pe_call o_numbered_path (hr.mono (by decide)) rfl g_numbered_path kp_numbered_path b_numbered_path .nil pass0 (pa_cons (pv 2) (pa_cons (pv 10) pa_nil))))) pss_nil)
      (pss_cons (ps_if (pt_cmp (pc_din hu (pv 2) (pv 0))) (pss_one (ps_ret (pe_call o_refused (hr.mono (by decide)) rfl g_refused kp_refused b_refused .nil pass0 (pa_cons (pv 0) (pa_cons (pe_str) pa_nil))))) pss_nil)
      (pss_cons (ps_if (PW.pt (pw_or (pt_cmpR op_ge (pe_callB call_lenD rfl n_len (by decide +kernel) (pa_cons (pv 0) pa_nil)) (pe_glob (v := .int 60) rfl c_MOST_NODES ⟨_, rfl⟩) (nomark _)) (pw_or1 (PW.pt (pw_and (pt_val (pv 5)) (pw_and1 (pt_cmpR op_gt (pv 10) (pe_glob (v := .int 999999) rfl c_MOST_MADE ⟨_, rfl⟩) (nomark _)))))))) (pss_one (ps_ret (pe_call o_refused (hr.mono (by decide)) rfl g_refused kp_refused b_refused .nil pass0 (pa_cons (pv 0) (pa_cons (pe_str) pa_nil))))) pss_nil)
      (pss_cons (ps_set (i := 7) nd rfl (Or.inl rfl) (pe_callTy call_dictA rfl n_dict boot_dict (pa_cons (pv 0) pa_nil)))
      (pss_cons (ps_dputA hu (pv 7) (pv 6) (pe_tupA (pa_cons (pv 8) (pa_cons (pv 9) (pa_cons (pe_op op_add (pv 10) (pe_int)) (pa_cons (pv 11) pa_nil))))) rfl)
      (pss_cons (ps_dputA hu (pv 7) (pv 2) (pe_tupA (pa_cons (pv 3) (pa_cons (pe_int) (pa_cons (pe_int) (pa_cons (pe_ifExp (pt_val (pv 4)) (pv 1) (pe_non)) pa_nil))))) rfl)
      (pss_one (ps_ret (pe_tupA (pa_cons (pv 7) (pa_cons (pe_tupA (pa_cons (pe_str) (pa_cons (pv 2) pa_nil))) (pa_cons (pe_lstA (pa_cons (pe_tupA (pa_cons (pe_str) (pa_cons (pv 2) pa_nil))) (pa_cons (pe_tupA (pa_cons (pe_str) (pa_cons (pv 6) pa_nil))) pa_nil))) pa_nil))))))))))))))))
  clear hr hu nd g0 F fd o_parent_of b_parent_of kp_parent_of g_parent_of fd_parent_of o_refused b_refused kp_refused g_refused fd_refused o_numbered_path b_numbered_path kp_numbered_path g_numbered_path fd_numbered_path n_dict n_len c_MOST_MADE t_MOST_MADE c_MOST_NODES t_MOST_NODES
  try dsimp only [cxOf, Cx.nox, Cx.wish]
  obtain ⟨_, _, _, _, _, _, rfl, a, W, who, x, t, o, n, B, rfl, rfl, rfl, rfl, rfl, rfl, hw, ok, hB, hx, q⟩ := h
  obtain ⟨kvs, hd, he⟩ := hw
  have hw : Web K H a (ndsD W) := ⟨kvs, hd, he⟩
  have hsz := ok.size
  have hlk := he.lenN
  have hlen : kvs.length < sizeLine := small_size (m := 60) (by omega)
  cases hk : lkA W (parentOf x) with
  | none =>
    have hv := he.getN0 hk
    have em : makeM W who x t o n = (W, .no "parent") := by unfold makeM; rw [hk]
    rw [em] at q
    fail "r"
    apply Res.use q <;> fail "c"
  | some e =>
    obtain ⟨v, hv, dv⟩ := he.getN hk
    obtain ⟨l, o', rfl, ht, ho⟩ := nd_inv dv
    have ho' := own_inv ho
    cases hown : e.owner with
    | some z =>
      have em : makeM W who x t o n = (W, .no "own") := by unfold makeM; rw [hk]; simp [hown]
      rw [em] at q
      rw [hown] at ho'
      subst ho'
      fail "r"
      apply Res.use q <;> fail "c"
    | none =>
      rw [hown] at ho'
      subst ho'
      obtain ⟨y, hy⟩ : ∃ y, (if n = true then numT x e.made else x) = y := ⟨_, rfl⟩
      have em : makeM W who x t o n = if (lkA W y).isSome = true then (W, .no "there") else if 60 ≤ W.length ∨ (n = true ∧ 999999 < e.made) then (W, .no "full") else (putM W who x t o e y, .ok (.str y)) := by
        unfold makeM
        rw [hk]
        simp only [hown, hy]
        rfl
      have hmb : e.made < big := Nat.lt_of_le_of_lt (ok.cnt _ (lkA_mem hk)).2 hB
      have hxl : x.length ≤ 100 := Nat.le_trans hx.len (by decide)
      cases n with
      | false =>
        obtain rfl : x = y := hy
        cases hk2 : lkA W x with
        | some e2 =>
          obtain ⟨v2, hv2, dv2⟩ := he.getN hk2
          have em2 : makeM W who x t o false = (W, .no "there") := by rw [em, hk2]; rfl
          rw [em2] at q
          fail "r"
          apply Res.use q <;> fail "c"
        | none =>
          have hv2 := he.getN0 hk2
          by_cases c : 60 ≤ kvs.length
          · have em2 : makeM W who x t o false = (W, .no "full") := by rw [em, hk2, if_neg (by decide), if_pos (.inl (by omega))]
            rw [em2] at q
            fail "r"
            apply Res.use q <;> fail "c"
          · have em2 : makeM W who x t o false = (putM W who x t o e x, .ok (.str x)) := by rw [em, hk2, if_neg (by decide), if_neg (by simp; omega)]
            rw [em2] at q
            have q : Res K H Q (ndsD (putM W who x t o e x)) (.tuple [.str "ok", .str x]) := q
            have hlen2 : ∀ v, (putK kvs (Sum.inr (parentOf x) : Key) v).length < sizeLine := fun v => small_size (m := 61) (Nat.le_trans (putK_len _ _ _) (by omega))
            cases o with
            | true =>
              fail "r"
              · exact hlen2 _
              fail "r"
              apply Res.use q
              · fail "c"
              · fail "c"
              · refine Web.mk (by fail "c") (Ents.putN (nd_mk (o' := .str who) (TpK.of (by fail "c")) rfl rfl (.str _)) (Ents.putN (nd_mk (o' := .non) (ow := e.owner) (TpK.of (by fail "c")) rfl (by fail "i") (by rw [hown]; exact .non)) (by fail "c")))
              · fail "c"
              · fail "c"
              · exact Nat.le_of_ble_eq_true rfl
              · fail "c"
              · fail "c"
            | false =>
              fail "r"
              · exact hlen2 _
              fail "r"
              apply Res.use q
              · fail "c"
              · fail "c"
              · refine Web.mk (by fail "c") (Ents.putN (nd_mk (o' := .non) (TpK.of (by fail "c")) rfl rfl .non) (Ents.putN (nd_mk (o' := .non) (ow := e.owner) (TpK.of (by fail "c")) rfl (by fail "i") (by rw [hown]; exact .non)) (by fail "c")))
              · fail "c"
              · fail "c"
              · exact Nat.le_of_ble_eq_true rfl
              · fail "c"
              · fail "c"
      | true =>
        obtain rfl : numT x e.made = y := hy
        cases hk2 : lkA W (numT x e.made) with
        | some e2 =>
          obtain ⟨v2, hv2, dv2⟩ := he.getN hk2
          have em2 : makeM W who x t o true = (W, .no "there") := by rw [em, hk2]; rfl
          rw [em2] at q
          fail "r"
          apply Res.use q <;> fail "c"
        | none =>
          have hv2 := he.getN0 hk2
          by_cases c : 60 ≤ kvs.length
          · have em2 : makeM W who x t o true = (W, .no "full") := by rw [em, hk2, if_neg (by decide), if_pos (.inl (by omega))]
            rw [em2] at q
            fail "r"
            apply Res.use q <;> fail "c"
          by_cases c2 : 999999 < e.made
          · have em2 : makeM W who x t o true = (W, .no "full") := by rw [em, hk2, if_neg (by decide), if_pos (.inr ⟨rfl, c2⟩)]
            rw [em2] at q
            fail "r"
            apply Res.use q <;> fail "c"
          · have em2 : makeM W who x t o true = (putM W who x t o e (numT x e.made), .ok (.str (numT x e.made))) := by rw [em, hk2, if_neg (by decide), if_neg (by simp; omega)]
            rw [em2] at q
            have q : Res K H Q (ndsD (putM W who x t o e (numT x e.made))) (.tuple [.str "ok", .str (numT x e.made)]) := q
            have hlen2 : ∀ v, (putK kvs (Sum.inr (parentOf x) : Key) v).length < sizeLine := fun v => small_size (m := 61) (Nat.le_trans (putK_len _ _ _) (by omega))
            cases o with
            | true =>
              fail "r"
              · exact hlen2 _
              fail "r"
              apply Res.use q
              · fail "c"
              · fail "c"
              · refine Web.mk (by fail "c") (Ents.putN (nd_mk (o' := .str who) (TpK.of (by fail "c")) rfl rfl (.str _)) (Ents.putN (nd_mk (o' := .non) (ow := e.owner) (TpK.of (by fail "c")) rfl (by fail "i") (by rw [hown]; exact .non)) (by fail "c")))
              · fail "c"
              · fail "c"
              · exact Nat.le_of_ble_eq_true rfl
              · fail "c"
              · fail "c"
            | false =>
              fail "r"
              · exact hlen2 _
              fail "r"
              apply Res.use q
              · fail "c"
              · fail "c"
              · refine Web.mk (by fail "c") (Ents.putN (nd_mk (o' := .non) (TpK.of (by fail "c")) rfl rfl .non) (Ents.putN (nd_mk (o' := .non) (ow := e.owner) (TpK.of (by fail "c")) rfl (by fail "i") (by rw [hown]; exact .non)) (by fail "c")))
              · fail "c"
              · fail "c"
              · exact Nat.le_of_ble_eq_true rfl
              · fail "c"
              · fail "c"
def sp_put (K : PySem.W.Frag) : Sp := sp3 fun v1 v2 v3 H Q => ∃ (a : Addr) (W : Nds) (x t : Str) (e : Nd) (B : Nat), v1 = .ref a ∧ v2 = .str x ∧ v3 = .str t ∧ Web K H a (ndsD W) ∧ NdsOk B W ∧ lkA W x = some e ∧
  Res K H Q (ndsD (putA W x { e with text := t, count := e.count + 1 })) (.tuple [.str "ok", .int ((e.count + 1 : Nat) : Int)])
theorem sc_put : FnScope ["nodes", "path", "text", "found", "old", "count", "made", "owner"] ["nodes", "path", "text"] (defScope s_put) := ⟨rfl, rfl, rfl, by decide +kernel, rfl, by decide +kernel, by decide +kernel⟩
theorem k_put (B : Bag w K mg base) : Kept P w K mg base "put" 1 ["nodes", "path", "text"] (sp_put K) := by
  obtain ⟨fd, F⟩ := B.c.def_ 18 (d := d_put) rfl
  have n_dict := He.free_ok B.X B.G (B.c.fact 85 (f := .free "dict") rfl)
  have g0 := He.glo_ok B.X B.G (B.c.fact 18 (f := .glo "put") rfl)
  refine ⟨_, fd, g0, F.kp, F.bindsN (fun _ _ _ _ _ _ us hl => match us, hl with | [_, _, _], _ => rfl), ?_⟩
  refine F.ok sc_put (fun vs H Q E h => len3 h) (fun cdv A outer s H vs Q E hr h => ?_)
  have nd := sc_put.nd
  have hu := hu_of hr
  refine' ⟨_, PSs.nox ?hT, ?hR⟩
  case hT => exact (pss_cons (ps_asg (pe_dget hu (pv 0) (pv 1) (fun _ _ => rfl)) (pg_tup rfl (pgs_cons (pg_name (i := 4) nd rfl (Or.inl rfl)) (pgs_cons (pg_name (i := 5) nd rfl (Or.inl rfl)) (pgs_cons (pg_name (i := 6) nd rfl (Or.inl rfl)) (pgs_cons (pg_name (i := 7) nd rfl (Or.inl rfl)) pgs_nil))))))
      (pss_cons (ps_set (i := 3) nd rfl (Or.inl rfl) (pe_callTy call_dictA rfl n_dict boot_dict (pa_cons (pv 0) pa_nil)))
      (pss_cons (ps_dputA hu (pv 3) (pv 1) (pe_tupA (pa_cons (pv 2) (pa_cons (pe_op op_add (pv 5) (pe_int)) (pa_cons (pv 6) (pa_cons (pv 7) pa_nil))))) rfl)
      (pss_one (ps_ret (pe_tupA (pa_cons (pv 3) (pa_cons (pe_tupA (pa_cons (pe_str) (pa_cons (pe_op op_add (pv 5) (pe_int)) pa_nil))) (pa_cons (pe_lstA (pa_cons (pe_tupA (pa_cons (pe_str) (pa_cons (pv 1) pa_nil))) pa_nil)) pa_nil)))))))))
  clear hr hu nd g0 F fd n_dict
  try dsimp only [cxOf, Cx.nox, Cx.wish]
  obtain ⟨_, _, _, rfl, a, W, x, t, e, B, rfl, rfl, rfl, hw, ok, hk, q⟩ := h
  obtain ⟨kvs, hd, he⟩ := hw
  obtain ⟨v, hv, dv⟩ := he.getN hk
  obtain ⟨l, o', rfl, ht, ho⟩ := nd_inv dv
  have hlen : kvs.length < sizeLine := small_size (m := 60) (by rw [he.lenN]; exact ok.size)
  fail "r"
  apply Res.use q
  · fail "c"
  · fail "c"
  · refine ⟨_, by fail "c", Ents.putN (nd_mk (o' := o') (ow := e.owner) (TpK.of (by fail "c")) (by fail "i") (by fail "i") (by fail "c")) (by fail "c")⟩
  · fail "c"
  · fail "c"
  · exact Nat.le_of_ble_eq_true rfl
  · fail "c"
  · fail "c"
def sp_dropped (K : PySem.W.Frag) : Sp := sp2 fun v u H Q => ∃ (a : Addr) (W : Nds) (x : Str) (B : Nat), v = .ref a ∧ u = .str x ∧ Web K H a (ndsD W) ∧ NdsOk B W ∧ PathOk x ∧
  ∀ (r w1 ev : Addr) (zs : List V) (H' : Hp), L2.Same H H' → H' r = some (.tup [.ref w1, .ref ev]) → Web K H' w1 (ndsD (delA W x)) → H' ev = some (.lst zs) → zs.length ≤ 2 → H ev = none → H w1 = none → Q (.ref r) H'
structure DrpP (K : PySem.W.Frag) (HF : Hp) (D : Addr) (W : Nds) (x : Str) (i : Nat) (H : Hp) : Prop where
  s : L2.Same HF H
  e : ∃ ks, H D = some (.dK ks) ∧ Ents K H ks (ndsD (delA (W.take i) x))
theorem sc_dropped : FnScope ["nodes", "path", "found", "one", "node"] ["nodes", "path"] (defScope s_dropped) := ⟨rfl, rfl, rfl, by decide +kernel, rfl, by decide +kernel, by decide +kernel⟩
theorem k_dropped (B : Bag w K mg base) : Kept P w K mg base "dropped" 3 ["nodes", "path"] (sp_dropped K) := by
  obtain ⟨fd, F⟩ := B.c.def_ 19 (d := d_dropped) rfl
  obtain ⟨f_parent_of, fd_parent_of, g_parent_of, kp_parent_of, b_parent_of, o_parent_of⟩ := k_parent_of (P := P) B
  have g0 := He.glo_ok B.X B.G (B.c.fact 19 (f := .glo "dropped") rfl)
  refine ⟨_, fd, g0, F.kp, F.bindsN (fun _ _ _ _ _ _ us hl => match us, hl with | [_, _], _ => rfl), ?_⟩
  refine F.ok sc_dropped (fun vs H Q E h => len2 h) (fun cdv A outer s H vs Q E hr h => ?_)
  have nd := sc_dropped.nd
  have hu := hu_of hr
  refine' ⟨_, PSs.nox ?hT, ?hR⟩
  case hT => exact (pss_cons (ps_lockA (ps_setDc (i := 2) (own := [("one", 3), ("node", 4)]) (g := gTup K 2 (gCons (gName 3) (gCons (gName 4) gNil))) rfl nd rfl rfl (dsw_true rfl rfl rfl (by decide +kernel)) (pi_items (pv 0)) (blkOk_by (N := ["nodes", "path", "found", "one", "node"]) (sc := defScope s_dropped) (by decide +kernel)) (fun _ _ _ _ _ => (pg_tup rfl (pgs_cons (pg_name (i := 3) nd rfl (Or.inl rfl)) (pgs_cons (pg_name (i := 4) nd rfl (Or.inl rfl)) pgs_nil)))) (fun _ _ _ _ _ => pts_one (pt_cmpR op_ne (pv 3) (pv 1) (nomark _))) (fun _ _ _ _ _ => (pv 3)) (fun _ _ _ _ _ => (pv 4))))
      (pss_one (ps_ret (pe_tupA (pa_cons (pv 2) (pa_cons (pe_lstA (pa_cons (pe_tupA (pa_cons (pe_str) (pa_cons (pv 1) pa_nil))) (pa_cons (pe_tupA (pa_cons (pe_str) (pa_cons (pe_call o_parent_of hr rfl g_parent_of kp_parent_of b_parent_of .nil pass0 (pa_cons (pv 1) pa_nil)) pa_nil))) pa_nil))) pa_nil))))))
  clear hr hu nd g0 F fd o_parent_of b_parent_of kp_parent_of g_parent_of fd_parent_of
  try dsimp only [cxOf, Cx.nox, Cx.wish]
  obtain ⟨_, _, rfl, a, W, x, B, rfl, rfl, hw, ok, hx, q⟩ := h
  obtain ⟨kvs, hd, he⟩ := hw
  have hsz := ok.size
  have hlk := he.lenN
  fail "r"
  refine dc_it (walk_items (kvs := kvs)) (DrpP K HF D W x) ⟨sameUpd a_4, [], upd_same, .nil⟩ (fun i H i1 kp => kp.s _ _ a_3) (fun i v H2 H3 hi kp z => ?_) (fun H2 kp => ?_)
  · obtain ⟨T, u1, u2, rfl, nT, rfl, hu1, hu2⟩ := z
    obtain ⟨k, hk, rfl⟩ := Option.map_eq_some_iff.mp hu1
    have hu2 : (kvs[i]?).map Prod.snd = some u2 := hu2
    rw [hk] at hu2
    obtain rfl := Option.some.inj hu2
    obtain ⟨k, u⟩ := k
    obtain ⟨y, nd, hW, rfl, dy⟩ := Ents.at (kvs := kvs) i he hk
    obtain ⟨s3, ks, hD, hks⟩ := kp
    have hT := upd_same (H := H2) (a := T) (o := .tup [kV (Sum.inr y), u])
    have sT := sameUpd (H := H2) (p := T) (o := .tup [kV (Sum.inr y), u]) nT
    generalize upd H2 T (.tup [kV (Sum.inr y), u]) = H3 at hT sT ⊢
    have hlen : ks.length < sizeLine := small_size (m := 60) (by
      rw [hks.lenN]
      exact Nat.le_trans (delA_length_le _ _) (by rw [List.length_take]; omega))
    have hT2 : H3 T = some (.tup [.str y, u]) := hT
    by_cases c1 : y = x
    · have e1 : (!decide (V.str y = V.str x)) = false := by rw [c1, decide_eq_true rfl]; rfl
      fail "r"
      refine ⟨by fail "c", ks, by fail "c", ?_⟩
      rw [delA_take hW, if_pos c1]
      fail "c"
    · have e1 : (!decide (V.str y = V.str x)) = true := notT (decide_eq_false fun z => c1 (V.str.inj z))
      refine ⟨T, [.str y, u], rfl, TpK.sq (TpK.of hT2), rfl, _, _, rfl, _, _, rfl, rfl, rfl, _, rfl, _, rfl, rfl, _, rfl, ?_⟩
      refine iteTc e1 ⟨_, rfl, _, rfl, ks, Sum.inr y, rfl, by fail "c", hlen, sameUP a_4 (by fail "c"), _, upd_same, ?_⟩
      rw [delA_take hW, if_neg c1, ← putA_app (not_mem_take ok.nd hW)]
      have hD3 : H3 D = some (.dK ks) := by fail "c"
      refine Ents.ts (tsD hD3) (Ents.putN ?_ ?_)
      · exact Dt.ts (a_2.trans (kpSame (s3.trans sT)).t) dy
      · fail "c"
  · obtain ⟨s3, ks, hD, hks⟩ := kp
    rw [List.take_of_length_le (by omega)] at hks
    have hDa : D ≠ a := fun z => by subst z; rw [a_3] at a_4; cases a_4
    fail "r"
    have s4 : L2.Same H Hz := sameLock hd a_7 (by fail "c")
    have hD4 : Hz D = some (.dK ks) := getB a_5 hDa hD
    have he4 : Ents K Hz ks (ndsD (delA W x)) := by fail "c"
    exact q _ _ _ _ _ (by fail "c") (by fail "c") (Web.mk (kvs := ks) (a := D) (by fail "c") (by fail "c")) (by fail "c") (Nat.le_of_ble_eq_true rfl) (by fail "c") (freeB a_1 a_4 hDa)
def sp_drop (K : PySem.W.Frag) : Sp := sp2 fun v u H Q => ∃ (a : Addr) (W : Nds) (x : Str) (B : Nat), v = .ref a ∧ u = .str x ∧ Web K H a (ndsD W) ∧ NdsOk B W ∧ PathOk x ∧ (lkA W x).isSome = true ∧
  Res K H Q (ndsD (if hasKid W x = true then W else delA W x)) (if hasKid W x = true then .tuple [.str "no", .str "kids"] else .tuple [.str "ok", .none])
theorem sc_drop : FnScope ["nodes", "path", "found", "events"] ["nodes", "path"] (defScope s_drop) := ⟨rfl, rfl, rfl, by decide +kernel, rfl, by decide +kernel, by decide +kernel⟩
theorem k_drop (B : Bag w K mg base) : Kept P w K mg base "drop" 4 ["nodes", "path"] (sp_drop K) := by
  obtain ⟨fd, F⟩ := B.c.def_ 20 (d := d_drop) rfl
  obtain ⟨f_kids_of, fd_kids_of, g_kids_of, kp_kids_of, b_kids_of, o_kids_of⟩ := k_kids_of (P := P) B
  obtain ⟨f_refused, fd_refused, g_refused, kp_refused, b_refused, o_refused⟩ := k_refused (P := P) B
  obtain ⟨f_dropped, fd_dropped, g_dropped, kp_dropped, b_dropped, o_dropped⟩ := k_dropped (P := P) B
  have g0 := He.glo_ok B.X B.G (B.c.fact 20 (f := .glo "drop") rfl)
  refine ⟨_, fd, g0, F.kp, F.bindsN (fun _ _ _ _ _ _ us hl => match us, hl with | [_, _], _ => rfl), ?_⟩
  refine F.ok sc_drop (fun vs H Q E h => len2 h) (fun cdv A outer s H vs Q E hr h => ?_)
  have nd := sc_drop.nd
  have hu := hu_of hr
  refine' ⟨_, PSs.nox ?hT, ?hR⟩
  case hT => exact (pss_cons (ps_if (pt_cmpR (op_neD (hu64_of hr)) (pe_call o_kids_of hr rfl g_kids_of kp_kids_of b_kids_of .nil pass0 (pa_cons (pv 0) (pa_cons (pv 1) pa_nil))) (pe_lstA pa_nil) (nomark _)) (pss_one (ps_ret (pe_call o_refused (hr.mono (by decide)) rfl g_refused kp_refused b_refused .nil pass0 (pa_cons (pv 0) (pa_cons (pe_str) pa_nil))))) pss_nil)
      (pss_cons (ps_asg (pe_call o_dropped hr rfl g_dropped kp_dropped b_dropped .nil pass0 (pa_cons (pv 0) (pa_cons (pv 1) pa_nil))) (pg_tup rfl (pgs_cons (pg_name (i := 2) nd rfl (Or.inl rfl)) (pgs_cons (pg_name (i := 3) nd rfl (Or.inl rfl)) pgs_nil))))
      (pss_one (ps_ret (pe_tupA (pa_cons (pv 2) (pa_cons (pe_tupA (pa_cons (pe_str) (pa_cons (pe_non) pa_nil))) (pa_cons (pv 3) pa_nil))))))))
  clear hr hu nd g0 F fd o_kids_of b_kids_of kp_kids_of g_kids_of fd_kids_of o_refused b_refused kp_refused g_refused fd_refused o_dropped b_dropped kp_dropped g_dropped fd_dropped
  try dsimp only [cxOf, Cx.nox, Cx.wish]
  obtain ⟨_, _, rfl, a, W, x, B, rfl, rfl, hw, ok, hx, hk, q⟩ := h
  fail "r"
  refine neNil (by assumption) ?_ ?_ ?_
  · fail "c"
  · fail "c"
  by_cases c : ys = []
  · have e1 : (!decide (ys = [])) = false := by rw [decide_eq_true c]; rfl
    rw [if_neg (by rw [a_4.mp c]; decide), if_neg (by rw [a_4.mp c]; decide)] at q
    fail "r"
    apply Res.use q <;> fail "c"
  · have e1 : (!decide (ys = [])) = true := notT (decide_eq_false c)
    have e2 : hasKid W x = true := by
      cases e : hasKid W x with
      | true => rfl
      | false => exact absurd (a_4.mpr e) c
    rw [if_pos e2, if_pos e2] at q
    fail "r"
    apply Res.use q <;> fail "c"
def sp_done_plain (K : PySem.W.Frag) : Sp := sp3 fun v1 v2 v3 H Q => ∃ (a : Addr) (W : Nds) (p : Pl) (who : Str) (B : Nat), v1 = .ref a ∧ v3 = .str who ∧ Dt K H v2 p.d ∧ p.Ok ∧ Web K H a (ndsD W) ∧ NdsOk B W ∧ B < big ∧
  Res K H Q (ndsD (plainM W p who).1) (plainM W p who).2.d
theorem kb_done_plain {f : Addr} {fd : FuncData} (F : FunD K d_done_plain.name d_done_plain.qual d_done_plain.params d_done_plain.body d_done_plain.scope (d_done_plain.dvs K) (d_done_plain.kws K) f fd) : KBn K fd ["nodes", "deed", "asker"] 2 ["asker"] (fun us ws => us ++ ws) (fun us ws => us ++ ws) :=
  kbn_of F fun _ _ _ _ _ _ us ws h1 h2 => match us, h1, ws, h2 with | [_, _], _, [_], _ => rfl
theorem sc_done_plain : FnScope ["nodes", "deed", "asker", "wanted", "word", "path", "rest", "text", "own", "numbered"] ["nodes", "deed", "asker"] (defScope s_done_plain) := ⟨rfl, rfl, rfl, by decide +kernel, rfl, by decide +kernel, by decide +kernel⟩
theorem k_done_plain (B : Bag w K mg base) : KeptK P w K mg base "done_plain" 5 ["nodes", "deed", "asker"] ["asker"] (sp_done_plain K) := by
  obtain ⟨fd, F⟩ := B.c.def_ 21 (d := d_done_plain) rfl
  obtain ⟨f_is_plain, fd_is_plain, g_is_plain, kp_is_plain, b_is_plain, o_is_plain⟩ := k_is_plain (P := P) B
  obtain ⟨f_make, fd_make, g_make, kp_make, b_make, o_make⟩ := k_make (P := P) B
  obtain ⟨f_refused, fd_refused, g_refused, kp_refused, b_refused, o_refused⟩ := k_refused (P := P) B
  obtain ⟨f_put, fd_put, g_put, kp_put, b_put, o_put⟩ := k_put (P := P) B
  obtain ⟨f_drop, fd_drop, g_drop, kp_drop, b_drop, o_drop⟩ := k_drop (P := P) B
  have n_dict := He.free_ok B.X B.G (B.c.fact 85 (f := .free "dict") rfl)
  have g0 := He.glo_ok B.X B.G (B.c.fact 21 (f := .glo "done_plain") rfl)
  refine ⟨_, fd, g0, F.kp, kb_done_plain F, ?_⟩
  refine F.ok sc_done_plain (fun vs H Q E h => len3 h) (fun cdv A outer s H vs Q E hr h => ?_)
  have nd := sc_done_plain.nd
  have hu := hu_of hr
  refine' ⟨_, PSs.nox ?hT, ?hR⟩
  case hT => exact (pss_cons (ps_if (pt_not (pt_val (pe_call o_is_plain hr rfl g_is_plain kp_is_plain b_is_plain .nil pass0 (pa_cons (pv 1) pa_nil)))) (pss_one (ps_never)) pss_nil)
      (pss_cons (ps_asg (pv 1) (pg_starA (i := 2) rfl (pgs_cons (pg_name (i := 4) nd rfl (Or.inl rfl)) (pgs_cons (pg_name (i := 5) nd rfl (Or.inl rfl)) (pgs_cons (pg_name (i := 6) nd rfl (Or.inl rfl)) pgs_nil)))))
      (pss_cons (ps_if (pt_cmpR op_eq (pv 4) (pe_str) (nomark _)) (pss_cons (ps_asg (pv 6) (pg_unl rfl (pgs_cons (pg_name (i := 7) nd rfl (Or.inl rfl)) (pgs_cons (pg_name (i := 8) nd rfl (Or.inl rfl)) (pgs_cons (pg_name (i := 9) nd rfl (Or.inl rfl)) pgs_nil)))))
      (pss_one (ps_ret (pe_call o_make (hr.mono (by decide)) rfl g_make kp_make b_make .nil pass0 (pa_cons (pv 0) (pa_cons (pv 2) (pa_cons (pv 5) (pa_cons (pv 7) (pa_cons (pv 8) (pa_cons (pv 9) pa_nil)))))))))) pss_nil)
      (pss_cons (ps_if (pt_cmp (pc_dnotin hu (pv 5) (pv 0))) (pss_one (ps_ret (pe_call o_refused (hr.mono (by decide)) rfl g_refused kp_refused b_refused .nil pass0 (pa_cons (pv 0) (pa_cons (pe_str) pa_nil))))) pss_nil)
      (pss_cons (ps_set (i := 3) nd rfl (Or.inl rfl) (pe_ix ix_list (pv 6) (pe_un un_neg (pe_int)) (fun _ _ => rfl)))
      (pss_cons (ps_if (PW.pt (pw_and (pt_cmp (pc_notN (pv 3))) (pw_and1 (pt_cmpR op_ne (pv 3) (pe_ix ix_tup (pe_dget hu (pv 0) (pv 5) (fun _ _ => rfl)) (pe_int) (fun _ _ => rfl)) (nomark _))))) (pss_one (ps_ret (pe_call o_refused (hr.mono (by decide)) rfl g_refused kp_refused b_refused .nil pass0 (pa_cons (pv 0) (pa_cons (pe_str) pa_nil))))) pss_nil)
      (pss_cons (ps_if (pt_cmpR op_eq (pv 4) (pe_str) (nomark _)) (pss_one (ps_ret (pe_call o_put (hr.mono (by decide)) rfl g_put kp_put b_put .nil pass0 (pa_cons (pv 0) (pa_cons (pv 5) (pa_cons (pe_ix ix_list (pv 6) (pe_int) (fun _ _ => rfl)) pa_nil)))))) pss_nil)
      (pss_cons (ps_if (pt_cmpR op_eq (pv 4) (pe_str) (nomark _)) (pss_one (ps_ret (pe_call o_drop hr rfl g_drop kp_drop b_drop .nil pass0 (pa_cons (pv 0) (pa_cons (pv 5) pa_nil))))) pss_nil)
      (pss_one (ps_ret (pe_tupA (pa_cons (pe_callTy call_dictA rfl n_dict boot_dict (pa_cons (pv 0) pa_nil)) (pa_cons (pe_tupA (pa_cons (pe_str) (pa_cons (pe_ix ix_tup (pe_dget hu (pv 0) (pv 5) (fun _ _ => rfl)) (pe_int) (fun _ _ => rfl)) pa_nil))) (pa_cons (pe_lstA pa_nil) pa_nil))))))))))))))
  clear hr hu nd g0 F fd o_is_plain b_is_plain kp_is_plain g_is_plain fd_is_plain o_make b_make kp_make g_make fd_make o_refused b_refused kp_refused g_refused fd_refused o_put b_put kp_put g_put fd_put o_drop b_drop kp_drop g_drop fd_drop n_dict
  try dsimp only [cxOf, Cx.nox, Cx.wish]
  obtain ⟨_, _, _, rfl, a, W, p, who, B, rfl, rfl, hd, pok, hw, ok, hB, q⟩ := h
  obtain ⟨kvs, hda, he⟩ := id hw
  cases p with
  | make x t o n =>
    obtain ⟨l, rfl, d2⟩ := pl_make hd
    have hx := pok.1
    fail "r"
    refine .inl ⟨_, hd, pok, fun H' s1 => ?_⟩
    fail "r"
    apply Res.use q <;> fail "c"
  | put x t c =>
    obtain ⟨l, c', rfl, d2, dc⟩ := pl_put hd
    have hx := pok.1
    have ec := cnt_inv dc
    subst ec
    fail "r"
    refine .inl ⟨_, hd, pok, fun H' s1 => ?_⟩
    cases hk : lkA W x with
    | none =>
      have hv := he.getN0 hk
      have em : plainM W (.put x t c) who = (W, .no "lacks") := by unfold plainM; simp only [hk]
      rw [em] at q
      fail "r"
      apply Res.use q <;> fail "c"
    | some e =>
      obtain ⟨v, hv, dv⟩ := he.getN hk
      obtain ⟨l2, o', rfl, ht, ho⟩ := nd_inv dv
      have hs : (lkA W x).isSome = true := by rw [hk]; rfl
      by_cases cc : c.isSome = true ∧ c ≠ some e.count
      · have em : plainM W (.put x t c) who = (W, .no "count") := by unfold plainM; simp only [hk]; rw [if_pos cc]
        rw [em] at q
        cases c with
        | none => exact absurd cc.1 (by decide)
        | some n =>
          have ne : ¬ V.int n = V.int e.count := fun z => cc.2 (by have z := V.int.inj z; congr 1; omega)
          fail "r"
          apply Res.use q <;> fail "c"
      · have em : plainM W (.put x t c) who = (putA W x { e with text := t, count := e.count + 1 }, .ok (.int ((e.count + 1 : Nat) : Int))) := by unfold plainM; simp only [hk]; rw [if_neg cc]
        rw [em] at q
        have q : Res K H Q (ndsD (putA W x { e with text := t, count := e.count + 1 })) (.tuple [.str "ok", .int ((e.count + 1 : Nat) : Int)]) := q
        have e1 : c = none ∨ c = some e.count := by
          cases c with
          | none => exact .inl rfl
          | some n => exact .inr (Classical.byContradiction fun z => cc ⟨rfl, z⟩)
        rcases e1 with rfl | rfl
        · fail "r"
          apply Res.use q <;> fail "c"
        · fail "r"
          apply Res.use q <;> fail "c"
  | drop x c =>
    obtain ⟨l, c', rfl, d2, dc⟩ := pl_drop hd
    have hx := pok.1
    have ec := cnt_inv dc
    subst ec
    fail "r"
    refine .inl ⟨_, hd, pok, fun H' s1 => ?_⟩
    cases hk : lkA W x with
    | none =>
      have hv := he.getN0 hk
      have em : plainM W (.drop x c) who = (W, .no "lacks") := by unfold plainM; simp only [hk]
      rw [em] at q
      fail "r"
      apply Res.use q <;> fail "c"
    | some e =>
      obtain ⟨v, hv, dv⟩ := he.getN hk
      obtain ⟨l2, o', rfl, ht, ho⟩ := nd_inv dv
      have hs : (lkA W x).isSome = true := by rw [hk]; rfl
      by_cases cc : c.isSome = true ∧ c ≠ some e.count
      · have em : plainM W (.drop x c) who = (W, .no "count") := by unfold plainM; simp only [hk]; rw [if_pos cc]
        rw [em] at q
        cases c with
        | none => exact absurd cc.1 (by decide)
        | some n =>
          have ne : ¬ V.int n = V.int e.count := fun z => cc.2 (by have z := V.int.inj z; congr 1; omega)
          fail "r"
          apply Res.use q <;> fail "c"
      · have em : plainM W (.drop x c) who = (if hasKid W x = true then (W, .no "kids") else (delA W x, .ok .none)) := by unfold plainM; simp only [hk]; rw [if_neg cc]
        rw [em] at q
        have q : Res K H Q (ndsD (if hasKid W x = true then W else delA W x)) (if hasKid W x = true then .tuple [.str "no", .str "kids"] else .tuple [.str "ok", .none]) := by
          by_cases c3 : hasKid W x = true
          · rw [if_pos c3] at q; rw [if_pos c3, if_pos c3]; exact q
          · rw [if_neg c3] at q; rw [if_neg c3, if_neg c3]; exact q
        have e1 : c = none ∨ c = some e.count := by
          cases c with
          | none => exact .inl rfl
          | some n => exact .inr (Classical.byContradiction fun z => cc ⟨rfl, z⟩)
        rcases e1 with rfl | rfl
        · fail "r"
          all_goals first | exact hk | (apply Res.use q <;> fail "c")
        · fail "r"
          all_goals first | exact hk | (apply Res.use q <;> fail "c")
  | see x c =>
    obtain ⟨l, c', rfl, d2, dc⟩ := pl_see hd
    have hx := pok.1
    have ec := cnt_inv dc
    subst ec
    fail "r"
    refine .inl ⟨_, hd, pok, fun H' s1 => ?_⟩
    cases hk : lkA W x with
    | none =>
      have hv := he.getN0 hk
      have em : plainM W (.see x c) who = (W, .no "lacks") := by unfold plainM; simp only [hk]
      rw [em] at q
      fail "r"
      apply Res.use q <;> fail "c"
    | some e =>
      obtain ⟨v, hv, dv⟩ := he.getN hk
      obtain ⟨l2, o', rfl, ht, ho⟩ := nd_inv dv
      have hs : (lkA W x).isSome = true := by rw [hk]; rfl
      by_cases cc : c.isSome = true ∧ c ≠ some e.count
      · have em : plainM W (.see x c) who = (W, .no "count") := by unfold plainM; simp only [hk]; rw [if_pos cc]
        rw [em] at q
        cases c with
        | none => exact absurd cc.1 (by decide)
        | some n =>
          have ne : ¬ V.int n = V.int e.count := fun z => cc.2 (by have z := V.int.inj z; congr 1; omega)
          fail "r"
          apply Res.use q <;> fail "c"
      · have em : plainM W (.see x c) who = (W, .ok (.int ((e.count : Nat) : Int))) := by unfold plainM; simp only [hk]; rw [if_neg cc]
        rw [em] at q
        have q : Res K H Q (ndsD W) (.tuple [.str "ok", .int ((e.count : Nat) : Int)]) := q
        have e1 : c = none ∨ c = some e.count := by
          cases c with
          | none => exact .inl rfl
          | some n => exact .inr (Classical.byContradiction fun z => cc ⟨rfl, z⟩)
        rcases e1 with rfl | rfl
        · fail "r"
          all_goals first | exact hk | (apply Res.use q <;> fail "c")
        · fail "r"
          all_goals first | exact hk | (apply Res.use q <;> fail "c")
end

section
variable {P : Program} {w : World} {K : PySem.W.Frag} {mg : Str → Option Value} {base : Heap}
def sp_is_deed (K : PySem.W.Frag) : Sp := sp1 fun v H Q => ∃ d : De, Dt K H v d.d ∧ d.Ok ∧ ∀ H', L2.Same H H' → Q (.bl true) H'
theorem sc_is_deed : FnScope ["thing", "one"] ["thing"] (defScope s_is_deed) := ⟨rfl, rfl, rfl, by decide +kernel, rfl, by decide +kernel, by decide +kernel⟩
theorem k_is_deed (B : Bag w K mg base) : Kept P w K mg base "is_deed" 5 ["thing"] (sp_is_deed K) := by
  obtain ⟨fd, F⟩ := B.c.def_ 22 (d := d_is_deed) rfl
  obtain ⟨f_is_plain, fd_is_plain, g_is_plain, kp_is_plain, b_is_plain, o_is_plain⟩ := k_is_plain (P := P) B
  obtain ⟨f_is_whole, fd_is_whole, g_is_whole, kp_is_whole, b_is_whole, o_is_whole⟩ := k_is_whole (P := P) B
  have n_all := He.free_ok B.X B.G (B.c.fact 82 (f := .free "all") rfl)
  have n_isinstance := He.free_ok B.X B.G (B.c.fact 77 (f := .free "isinstance") rfl)
  have n_len := He.free_ok B.X B.G (B.c.fact 81 (f := .free "len") rfl)
  have n_str := He.free_ok B.X B.G (B.c.fact 80 (f := .free "str") rfl)
  have n_tuple := He.free_ok B.X B.G (B.c.fact 83 (f := .free "tuple") rfl)
  obtain ⟨t_MOST_DEEDS, c_MOST_DEEDS⟩ := He.int_ok B.X B.G (B.c.fact 104 (f := .int "MOST_DEEDS" 6) rfl)
  obtain ⟨t_MOST_LIMIT, c_MOST_LIMIT⟩ := He.int_ok B.X B.G (B.c.fact 105 (f := .int "MOST_LIMIT" 1000) rfl)
  have g0 := He.glo_ok B.X B.G (B.c.fact 22 (f := .glo "is_deed") rfl)
  refine ⟨_, fd, g0, F.kp, F.bindsN (fun _ _ _ _ _ _ us hl => match us, hl with | [_], _ => rfl), ?_⟩
  refine F.ok sc_is_deed (fun vs H Q E h => len1 h) (fun cdv A outer s H vs Q E hr h => ?_)
  have nd := sc_is_deed.nd
  have hu := hu_of hr
  refine' ⟨_, PSs.nox ?hT, ?hR⟩
  case hT => exact (pss_cons (ps_if (pt_val (pe_call o_is_plain hr rfl g_is_plain kp_is_plain b_is_plain .nil pass0 (pa_cons (pv 0) pa_nil))) (pss_one (ps_ret (pe_bl))) pss_nil)
      (pss_cons (ps_if (PW.pt (pw_or (pt_not (pt_val (pe_callB call_isi rfl n_isinstance (by decide +kernel) (pa_cons (pv 0) (pa_cons (pe_bltn (v := .ty "tuple") rfl n_tuple boot_tuple rfl) pa_nil))))) (pw_or (pt_cmpR (op_eqD (hu64_of hr)) (pv 0) (pe_tupA pa_nil) (nomark _)) (pw_or1 (pt_not (pt_val (pe_callB call_isi rfl n_isinstance (by decide +kernel) (pa_cons (pe_ix ix_tup (pv 0) (pe_int) (fun _ _ => rfl)) (pa_cons (pe_bltn (v := .ty "str") rfl n_str boot_str rfl) pa_nil))))))))) (pss_one (ps_ret (pe_bl))) pss_nil)
      (pss_cons (ps_if (pt_cmpR op_in_seq (pe_ix ix_tup (pv 0) (pe_int) (fun _ _ => rfl)) (pe_tupA (pa_cons (pe_str) (pa_cons (pe_str) pa_nil))) rfl) (pss_one (ps_ret (pe_cmpR op_eq (pe_callB call_len_seq rfl n_len (by decide +kernel) (pa_cons (pv 0) pa_nil)) (pe_int) (nomark _)))) pss_nil)
      (pss_cons (ps_if (pt_cmpR op_ne (pe_callB call_len_seq rfl n_len (by decide +kernel) (pa_cons (pv 0) pa_nil)) (pe_int) (nomark _)) (pss_one (ps_ret (pe_bl))) pss_nil)
      (pss_cons (ps_if (pt_cmpR op_eq (pe_ix ix_tup (pv 0) (pe_int) (fun _ _ => rfl)) (pe_str) (nomark _)) (pss_one (ps_ret (pe_and (pe_call o_is_whole (hr.mono (by decide)) rfl g_is_whole kp_is_whole b_is_whole .nil pass0 (pa_cons (pe_ix ix_tup (pv 0) (pe_int) (fun _ _ => rfl)) pa_nil)) (pe_one (pe_chain op_le op_le (pe_int) (pe_ix ix_tup (pv 0) (pe_int) (fun _ _ => rfl)) (pe_glob (v := .int 1000) rfl c_MOST_LIMIT ⟨_, rfl⟩)))))) pss_nil)
      (pss_cons (ps_if (PW.pt (pw_or (pt_cmpR op_ne (pe_ix ix_tup (pv 0) (pe_int) (fun _ _ => rfl)) (pe_str) (nomark _)) (pw_or1 (pt_not (pt_val (pe_callB call_isi rfl n_isinstance (by decide +kernel) (pa_cons (pe_ix ix_tup (pv 0) (pe_int) (fun _ _ => rfl)) (pa_cons (pe_bltn (v := .ty "tuple") rfl n_tuple boot_tuple rfl) pa_nil)))))))) (pss_one (ps_ret (pe_bl))) pss_nil)
      (pss_one (ps_ret (pe_and (pe_chain op_le op_le (pe_int) (pe_callB call_len_seq rfl n_len (by decide +kernel) (pa_cons (pe_ix ix_tup (pv 0) (pe_int) (fun _ _ => rfl)) pa_nil)) (pe_glob (v := .int 6) rfl c_MOST_DEEDS ⟨_, rfl⟩)) (pe_one (pe_callB (cr_all rfl) rfl n_all (by decide +kernel) (pa_cons (pe_lc (own := [("one", 1)]) (g := gName 1) (tt := tYes) rfl nd (pi_tup (pe_ix ix_tup (pv 0) (pe_int) (fun _ _ => rfl))) (blkOk_by (N := ["thing", "one"]) (sc := defScope s_is_deed) (by decide +kernel)) (fun _ _ _ _ _ => (pg_name (i := 1) nd rfl (Or.inl rfl))) (fun _ _ _ _ _ => pts_nil) (fun _ _ _ _ _ => (pe_call o_is_plain hr rfl g_is_plain kp_is_plain b_is_plain .nil pass0 (pa_cons (pv 1) pa_nil)))) pa_nil))))))))))))
  clear hr hu nd g0 F fd o_is_plain b_is_plain kp_is_plain g_is_plain fd_is_plain o_is_whole b_is_whole kp_is_whole g_is_whole fd_is_whole n_all n_isinstance n_len n_str n_tuple c_MOST_DEEDS t_MOST_DEEDS c_MOST_LIMIT t_MOST_LIMIT
  try dsimp only [cxOf, Cx.nox, Cx.wish]
  obtain ⟨v, rfl, d, hd, ok, q⟩ := h
  have hf := (De.fit ok).shaped
  cases d with
  | plain p =>
    fail "r"
    refine .inl ⟨p, hd, ok, fun H' s1 => ?_⟩
    fail "r"
    exact q _ s1
  | all ps =>
    obtain ⟨l, x1, x2, rfl, ht, e1, e2⟩ := dt2 hd
    obtain rfl := e1.s
    obtain ⟨l2, xs, rfl, ht2, dxs⟩ := e2.inv
    have hxs := dxs.lenM
    obtain ⟨h1, h6, okp⟩ := ok
    fail "r"
    refine .inr ⟨_, hd, by simp, ?_⟩
    fail "r"
    refine eqEmp (dtS (by assumption) hd) hf (by simp) (by assumption) ?_
    fail "r"
    refine lc_it (walk_tup (xs := xs)) (AllP H'_1 D) (AllP.start (by assumption)) (fun _ _ _ h => by have := h.1; fail "c") (fun i y H2 H3 hi p' z => ?_) (fun H2 p' => p'.fin fun H4 s' => q H4 (by fail "c"))
    obtain ⟨rfl, z⟩ := z
    obtain ⟨p, hp, dp⟩ := dxs.atM z
    have hi2 : i < 100000 := by omega
    have pk := okp p (List.mem_of_getElem? hp)
    have s2 := p'.1
    fail "r"
    refine .inl ⟨p, by fail "c", pk, fun H' s1 => ?_⟩
    fail "r"
  | opn n =>
    obtain ⟨l, x1, x2, rfl, ht, e1, e2⟩ := dt2 hd
    obtain rfl := e1.s
    obtain rfl := e2.i
    obtain ⟨h1, h2⟩ : 1 ≤ n ∧ n ≤ 1000 := ok
    have h3 : decide ((n : Int) ≤ 1000) = true := decide_eq_true (by omega)
    fail "r"
    refine .inr ⟨_, hd, by simp, ?_⟩
    fail "r"
    refine eqEmp (dtS (by assumption) hd) hf (by simp) (by assumption) ?_
    fail "r"
    change Q (.bl (decide ((n : Int) ≤ 1000))) _
    rw [h3]
    exact q _ (by fail "c")
  | close =>
    obtain ⟨l, x1, rfl, ht, e1⟩ := dt1 hd
    obtain rfl := e1.s
    fail "r"
    refine .inr ⟨_, hd, by simp, ?_⟩
    fail "r"
    refine eqEmp (dtS (by assumption) hd) hf (by simp) (by assumption) ?_
    fail "r"
    exact q _ (by fail "c")
  | bring =>
    obtain ⟨l, x1, rfl, ht, e1⟩ := dt1 hd
    obtain rfl := e1.s
    fail "r"
    refine .inr ⟨_, hd, by simp, ?_⟩
    fail "r"
    refine eqEmp (dtS (by assumption) hd) hf (by simp) (by assumption) ?_
    fail "r"
    exact q _ (by fail "c")
def sp_is_entry (K : PySem.W.Frag) : Sp := sp1 fun v H Q => ∃ e : En, Dt K H v e.d ∧ e.Ok ∧ ∀ H', L2.Same H H' → Q (.bl true) H'
theorem sc_is_entry : FnScope ["thing"] ["thing"] (defScope s_is_entry) := ⟨rfl, rfl, rfl, by decide +kernel, rfl, by decide +kernel, by decide +kernel⟩
theorem k_is_entry (B : Bag w K mg base) : Kept P w K mg base "is_entry" 6 ["thing"] (sp_is_entry K) := by
  obtain ⟨fd, F⟩ := B.c.def_ 23 (d := d_is_entry) rfl
  obtain ⟨f_is_word, fd_is_word, g_is_word, kp_is_word, b_is_word, o_is_word⟩ := k_is_word (P := P) B
  obtain ⟨f_is_deed, fd_is_deed, g_is_deed, kp_is_deed, b_is_deed, o_is_deed⟩ := k_is_deed (P := P) B
  obtain ⟨f_is_whole, fd_is_whole, g_is_whole, kp_is_whole, b_is_whole, o_is_whole⟩ := k_is_whole (P := P) B
  have n_isinstance := He.free_ok B.X B.G (B.c.fact 77 (f := .free "isinstance") rfl)
  have n_len := He.free_ok B.X B.G (B.c.fact 81 (f := .free "len") rfl)
  have n_str := He.free_ok B.X B.G (B.c.fact 80 (f := .free "str") rfl)
  have n_tuple := He.free_ok B.X B.G (B.c.fact 83 (f := .free "tuple") rfl)
  have g0 := He.glo_ok B.X B.G (B.c.fact 23 (f := .glo "is_entry") rfl)
  refine ⟨_, fd, g0, F.kp, F.bindsN (fun _ _ _ _ _ _ us hl => match us, hl with | [_], _ => rfl), ?_⟩
  refine F.ok sc_is_entry (fun vs H Q E h => len1 h) (fun cdv A outer s H vs Q E hr h => ?_)
  have nd := sc_is_entry.nd
  have hu := hu_of hr
  refine' ⟨_, PSs.nox ?hT, ?hR⟩
  case hT => exact (pss_cons (ps_if (PW.pt (pw_or (pt_not (pt_val (pe_callB call_isi rfl n_isinstance (by decide +kernel) (pa_cons (pv 0) (pa_cons (pe_bltn (v := .ty "tuple") rfl n_tuple boot_tuple rfl) pa_nil))))) (pw_or (pt_cmpR op_lt (pe_callB call_len_seq rfl n_len (by decide +kernel) (pa_cons (pv 0) pa_nil)) (pe_int) (nomark _)) (pw_or (pt_not (pt_val (pe_callB call_isi rfl n_isinstance (by decide +kernel) (pa_cons (pe_ix ix_tup (pv 0) (pe_int) (fun _ _ => rfl)) (pa_cons (pe_bltn (v := .ty "str") rfl n_str boot_str rfl) pa_nil))))) (pw_or1 (pt_not (pt_val (pe_call o_is_word (hr.mono (by decide)) rfl g_is_word kp_is_word b_is_word .nil pass0 (pa_cons (pe_ix ix_tup (pv 0) (pe_int) (fun _ _ => rfl)) pa_nil))))))))) (pss_one (ps_ret (pe_bl))) pss_nil)
      (pss_cons (ps_if (pt_cmpR op_eq (pe_ix ix_tup (pv 0) (pe_int) (fun _ _ => rfl)) (pe_str) (nomark _)) (pss_one (ps_ret (pe_cmpR op_eq (pe_callB call_len_seq rfl n_len (by decide +kernel) (pa_cons (pv 0) pa_nil)) (pe_int) (nomark _)))) pss_nil)
      (pss_one (ps_ret (pe_and (pe_cmpR op_eq (pe_ix ix_tup (pv 0) (pe_int) (fun _ _ => rfl)) (pe_str) (nomark _)) (pe_and (pe_cmpR op_eq (pe_callB call_len_seq rfl n_len (by decide +kernel) (pa_cons (pv 0) pa_nil)) (pe_int) (nomark _)) (pe_and (pe_call o_is_whole (hr.mono (by decide)) rfl g_is_whole kp_is_whole b_is_whole .nil pass0 (pa_cons (pe_ix ix_tup (pv 0) (pe_int) (fun _ _ => rfl)) pa_nil)) (pe_and (pe_cmpR op_ge (pe_ix ix_tup (pv 0) (pe_int) (fun _ _ => rfl)) (pe_int) (nomark _)) (pe_one (pe_call o_is_deed hr rfl g_is_deed kp_is_deed b_is_deed .nil pass0 (pa_cons (pe_ix ix_tup (pv 0) (pe_int) (fun _ _ => rfl)) pa_nil)))))))))))
  clear hr hu nd g0 F fd o_is_word b_is_word kp_is_word g_is_word fd_is_word o_is_deed b_is_deed kp_is_deed g_is_deed fd_is_deed o_is_whole b_is_whole kp_is_whole g_is_whole fd_is_whole n_isinstance n_len n_str n_tuple
  try dsimp only [cxOf, Cx.nox, Cx.wish]
  obtain ⟨v, rfl, e, hd, ok, q⟩ := h
  cases e with
  | ask who n d =>
    obtain ⟨l, x1, x2, x3, x4, rfl, ht, e1, e2, e3, e4⟩ := dt4 hd
    obtain rfl := e1.s
    obtain rfl := e2.s
    obtain rfl := e3.i
    obtain ⟨hw, h1, h2, hdk⟩ := ok
    fail "r"
    exact q _ (by fail "c")
  | fin who =>
    obtain ⟨l, x1, x2, rfl, ht, e1, e2⟩ := dt2 hd
    obtain rfl := e1.s
    obtain rfl := e2.s
    have hw : WordOk who := ok
    fail "r"
    exact q _ (by fail "c")
def sp_first_state (K : PySem.W.Frag) : Sp := sp0 fun H Q => ∀ r w1 s1 H', L2.Same H H' → H' r = some (.tup [.ref w1, .ref s1]) → Web K H' w1 (ndsD root0) → Web K H' s1 (sesD []) → Q (.ref r) H'
theorem sc_first_state : FnScope [] [] (defScope s_first_state) := ⟨rfl, rfl, rfl, by decide +kernel, rfl, by decide +kernel, by decide +kernel⟩
theorem k_first_state (B : Bag w K mg base) : Kept P w K mg base "first_state" 2 [] (sp_first_state K) := by
  obtain ⟨fd, F⟩ := B.c.def_ 24 (d := d_first_state) rfl
  obtain ⟨f_first_nodes, fd_first_nodes, g_first_nodes, kp_first_nodes, b_first_nodes, o_first_nodes⟩ := k_first_nodes (P := P) B
  have g0 := He.glo_ok B.X B.G (B.c.fact 24 (f := .glo "first_state") rfl)
  refine ⟨_, fd, g0, F.kp, F.bindsN (fun _ _ _ _ _ _ us hl => match us, hl with | [], _ => rfl), ?_⟩
  refine F.ok sc_first_state (fun vs H Q E h => len0 h) (fun cdv A outer s H vs Q E hr h => ?_)
  have nd := sc_first_state.nd
  have hu := hu_of hr
  refine' ⟨_, PSs.nox ?hT, ?hR⟩
  case hT => exact (pss_one (ps_ret (pe_tupA (pa_cons (pe_call0 o_first_nodes hr rfl g_first_nodes kp_first_nodes b_first_nodes .nil pass0) (pa_cons (pe_dnewA) pa_nil)))))
  clear hr hu nd g0 F fd o_first_nodes b_first_nodes kp_first_nodes g_first_nodes fd_first_nodes
  try dsimp only [cxOf, Cx.nox, Cx.wish]
  obtain ⟨rfl, q⟩ := h
  fail "r"
  refine q _ _ _ _ (by fail "c") (by fail "c") (by fail "c") (Web.mk (by fail "c") .nil)
def sp_without_owner (K : PySem.W.Frag) : Sp := sp2 fun v u H Q => ∃ (a : Addr) (W : Nds) (who : Str) (B : Nat), v = .ref a ∧ u = .str who ∧ Web K H a (ndsD W) ∧ NdsOk B W ∧
  ∀ (r w1 ev : Addr) (zs : List V) (H' : Hp), L2.Same H H' → H' r = some (.tup [.ref w1, .ref ev]) → Web K H' w1 (ndsD (leftM W who)) → H' ev = some (.lst zs) → zs.length ≤ 200 → (w1 = a ∨ H w1 = none) → Q (.ref r) H'
/-- those of an owner -/
def ownedBy (W : Nds) (who : Str) (y : Str) : Bool := decide ((lkA W y).map (·.owner) = some (some who))
theorem left_filter {W : Nds} {who : Str} {ys : List Str} (nd : (W.map (·.1)).Nodup) (hp : ys.Perm (W.map (·.1))) : (W.filter fun p => decide (p.1 ∉ ys.filter (ownedBy W who))) = leftM W who := by
  unfold leftM
  refine List.filter_congr fun p hm => ?_
  have hk : lkA W p.1 = some p.2 := lkA_of_mem nd hm
  have hy : p.1 ∈ ys := hp.mem_iff.mpr (List.mem_map.mpr ⟨p, hm, rfl⟩)
  have e : ownedBy W who p.1 = decide (p.2.owner = some who) := by
    unfold ownedBy
    rw [hk]
    simp
  have e2 : (p.1 ∉ ys.filter (ownedBy W who)) ↔ p.2.owner ≠ some who := by
    rw [List.mem_filter, e]
    simp [hy]
  exact decide_eq_decide.mpr e2
theorem del_filter {W : Nds} {fs : List Str} {y : Str} : delA (W.filter fun p => decide (p.1 ∉ fs)) y = W.filter fun p => decide (p.1 ∉ fs ++ [y]) := by
  unfold delA
  rw [List.filter_filter]
  refine List.filter_congr fun p _ => ?_
  by_cases h1 : p.1 = y <;> by_cases h2 : p.1 ∈ fs <;> simp [h1, h2]
theorem sc_without_owner : FnScope ["nodes", "asker", "events", "path", "some"] ["nodes", "asker"] (defScope s_without_owner) := ⟨rfl, rfl, rfl, by decide +kernel, rfl, by decide +kernel, by decide +kernel⟩
theorem k_without_owner (B : Bag w K mg base) : Kept P w K mg base "without_owner" 4 ["nodes", "asker"] (sp_without_owner K) := by
  obtain ⟨fd, F⟩ := B.c.def_ 25 (d := d_without_owner) rfl
  obtain ⟨f_dropped, fd_dropped, g_dropped, kp_dropped, b_dropped, o_dropped⟩ := k_dropped (P := P) B
  have n_sorted := He.free_ok B.X B.G (B.c.fact 86 (f := .free "sorted") rfl)
  have g0 := He.glo_ok B.X B.G (B.c.fact 25 (f := .glo "without_owner") rfl)
  refine ⟨_, fd, g0, F.kp, F.bindsN (fun _ _ _ _ _ _ us hl => match us, hl with | [_, _], _ => rfl), ?_⟩
  refine F.ok sc_without_owner (fun vs H Q E h => len2 h) (fun cdv A outer s H vs Q E hr h => ?_)
  have nd := sc_without_owner.nd
  have hu := hu_of hr
  refine' ⟨_, PSs.nox ?hT, ?hR⟩
  case hT => exact (pss_cons (ps_set (i := 2) nd rfl (Or.inl rfl) (pe_lstA pa_nil))
      (pss_cons (ps_for PassesOwn.never rfl (pi_list (pe_lc (own := [("path", 3)]) (g := gName 3) (tt := (tTest (tOp rEq (tOp (rIxT K) (tDGet (tVar 0) (tVar 3)) (tC (.int 3))) (tVar 1)))) rfl nd (pi_list (pe_callB (call_sortDA rfl) rfl n_sorted (by decide +kernel) (pa_cons (pv 0) pa_nil))) (blkOk_by (N := ["nodes", "asker", "events", "path", "some"]) (sc := defScope s_without_owner) (by decide +kernel)) (fun _ _ _ _ _ => (pg_name (i := 3) nd rfl (Or.inl rfl))) (fun _ _ _ _ _ => pts_one (pt_cmpR op_eq (pe_ix ix_tup (pe_dget hu (pv 0) (pv 3) (fun _ _ => rfl)) (pe_int) (fun _ _ => rfl)) (pv 1) (nomark _))) (fun _ _ _ _ _ => (pv 3)))) (pg_name (i := 3) nd rfl (Or.inl rfl)) (pss_cons (ps_asg (pe_call o_dropped hr rfl g_dropped kp_dropped b_dropped .nil pass0 (pa_cons (pv 0) (pa_cons (pv 3) pa_nil))) (pg_tup rfl (pgs_cons (pg_name (i := 0) nd rfl (Or.inr rfl)) (pgs_cons (pg_name (i := 4) nd rfl (Or.inl rfl)) pgs_nil))))
      (pss_one (ps_expr (pe_bm PySem.F.plainAttrs_list PySem.F.slot_list_extend PySem.F.type_list_extend mt_extA (pv 2) (pa_cons (pv 4) pa_nil))))))
      (pss_one (ps_ret (pe_tupA (pa_cons (pv 0) (pa_cons (pv 2) pa_nil)))))))
  clear hr hu nd g0 F fd o_dropped b_dropped kp_dropped g_dropped fd_dropped n_sorted
  try dsimp only [cxOf, Cx.nox, Cx.wish]
  obtain ⟨_, _, rfl, a, W, who, B, rfl, rfl, hw, ok, q⟩ := h
  obtain ⟨kvs, hd, he⟩ := id hw
  have hsz := ok.size
  have hlk := he.lenN
  have hks : Nm (kvs.map (·.1)) ((W.map (·.1)).map Sum.inr) := ⟨he.keysN⟩
  have h64 : (W.map (·.1)).length < 64 := by rw [List.length_map]; omega
  fail "r"
  have hyl : ys.length ≤ 60 := by rw [a_4.length_eq, List.length_map]; exact hsz
  refine lc_it (walk_list (xs := ys.map V.str)) (fun i H => L2.Same H'_1 H ∧ H D = some (.lst (((ys.take i).filter (ownedBy W who)).map V.str))) ⟨sameUpd a_9, upd_same⟩ (fun _ _ _ h => by have := h.1; fail "c") (fun i y H2 H3 hi p' z => ?_) (fun H2 p' => ?_)
  · obtain ⟨rfl, z⟩ := z
    obtain ⟨s2, hD⟩ := p'
    rw [List.getElem?_map] at z
    obtain ⟨y, hy, rfl⟩ := Option.map_eq_some_iff.mp z
    obtain ⟨e, hk⟩ := Option.isSome_iff_exists.mp (lkA_isSome.mpr (a_4.mem_iff.mp (List.mem_of_getElem? hy)))
    obtain ⟨v, hv, dv⟩ := he.getN hk
    obtain ⟨l2, o', rfl, ht, ho⟩ := nd_inv dv
    obtain rfl := own_inv ho
    have hlen : (((ys.take i).filter (ownedBy W who)).map V.str).length < sizeLine := small_size (m := 60) (by
      rw [List.length_map]
      exact Nat.le_trans (List.length_filter_le _ _) (by rw [List.length_take]; omega))
    have hob : ownedBy W who y = decide (ownV e.owner = V.str who) := by
      unfold ownedBy
      rw [hk]
      cases ho2 : e.owner with
      | none => simp [ownV, ho2]
      | some z => simp [ownV, ho2]
    rw [take_at hy, List.filter_append, filter_one]
    have ht2 : TpK K H3 l2 [V.str e.text, V.int e.count, V.int e.made, ownV e.owner] := by fail "c"
    have hsc : scal (ownV e.owner) (V.str who) = true := by cases e.owner <;> rfl
    by_cases c : ownedBy W who y = true
    · have e1 : decide (ownV e.owner = V.str who) = true := by rw [← hob]; exact c
      rw [if_pos c, List.map_append]
      fail "r"
      exact upd_same
    · have e1 : decide (ownV e.owner = V.str who) = false := by rw [← hob]; simpa using c
      rw [if_neg c, List.append_nil]
      fail "r"
  · obtain ⟨s2, hD⟩ := p'
    rw [List.length_map, List.take_length] at hD
    have hDp : D ≠ p := fun z => by subst z; rw [a_6 _ _ a_3] at a_9; cases a_9
    have lf := left_filter (who := who) ok.nd a_4
    obtain ⟨fs, hfs⟩ : ∃ fs, ys.filter (ownedBy W who) = fs := ⟨_, rfl⟩
    rw [hfs] at hD lf
    have hfl : fs.length ≤ 60 := by rw [← hfs]; exact Nat.le_trans (List.length_filter_le _ _) hyl
    have hfp : ∀ y ∈ fs, PathOk y := fun y hy => by
      rw [← hfs] at hy
      obtain ⟨p, hp, e⟩ := List.mem_map.mp (a_4.mem_iff.mp (List.mem_filter.mp hy).1)
      rw [← e]
      exact ok.path p hp
    fail "r"
    refine for_it (walk_list (xs := fs.map V.str)) (fun i σ Hi => L2.Same H Hi ∧ Hi D = some (.lst (fs.map V.str)) ∧ ∃ (ai : Addr) (zs : List V) (u v : Option V), σ = [some (.ref ai), some (.str who), some (.ref p), u, v] ∧ (ai = a ∨ H ai = none) ∧ Hi p = some (.lst zs) ∧ zs.length ≤ 2 * i ∧ Web K Hi ai (ndsD (W.filter fun p => decide (p.1 ∉ fs.take i))))
      ⟨by fail "c", by fail "c", a, [], none, none, rfl, .inl rfl, by fail "c", Nat.le_refl _, ?_⟩ (fun _ _ _ _ h => by have := h.2.1; fail "c") (fun i y σ H2 H3 hi p' z => ?_) (fun σ H2 p' => ?_)
    · rw [show (W.filter fun p => decide (p.1 ∉ fs.take 0)) = W by simp]
      fail "c"
    · obtain ⟨rfl, z⟩ := z
      obtain ⟨s3, hD3, ai, zs, u, v, rfl, hai, hz, hzl, hwi⟩ := p'
      rw [List.getElem?_map] at z
      obtain ⟨y, hy, rfl⟩ := Option.map_eq_some_iff.mp z
      have py := hfp y (List.mem_of_getElem? hy)
      have oki : NdsOk B (W.filter fun p => decide (p.1 ∉ fs.take i)) := ok.sub List.filter_sublist
      have hil : i < fs.length := by rw [List.length_map] at hi; exact hi
      rw [take_at hy, ← del_filter]
      fail "r"
      · rw [List.length_append]; omega
      · exact a_12.kp a_18
    · obtain ⟨s3, hD3, ai, zs, u, v, rfl, hai, hz, hzl, hwi⟩ := p'
      rw [List.length_map] at hwi hzl
      rw [List.take_length, lf] at hwi
      fail "r"
      exact q _ _ _ _ _ (by fail "c") (by fail "c") (by fail "c") (by fail "c") (by omega) hai
/-- as Res, with more events -/
def ResL (K : PySem.W.Frag) (H : Hp) (Q : VK) (a : Addr) (Wd : List (Str × PyData)) (an : PyData) : Prop :=
  ∀ (r w1 ev : Addr) (v : V) (zs : List V) (H' : Hp), L2.Same H H' → H' r = some (.tup [.ref w1, v, .ref ev]) → Web K H' w1 Wd → Dt K H' v an → H' ev = some (.lst zs) → zs.length ≤ 200 → (w1 = a ∨ H w1 = none) → Q (.ref r) H'
theorem ResL.use {H H' : Hp} {Q : VK} {Wd : List (Str × PyData)} {an : PyData} {a r w1 ev : Addr} {v : V} {zs : List V} (q : ResL K H Q a Wd an) (h1 : L2.Same H H') (h2 : H' r = some (.tup [.ref w1, v, .ref ev])) (h3 : Web K H' w1 Wd) (h4 : Dt K H' v an) (h5 : H' ev = some (.lst zs)) (h6 : zs.length ≤ 200) (h7 : w1 = a ∨ H w1 = none) : Q (.ref r) H' :=
  q r w1 ev v zs H' h1 h2 h3 h4 h5 h6 h7
def sp_done_all (K : PySem.W.Frag) : Sp := sp3 fun v1 v2 v3 H Q => ∃ (a : Addr) (W : Nds) (ps : List Pl) (who : Str) (B : Nat), v1 = .ref a ∧ v3 = .str who ∧ Dt K H v2 (.tuple (ps.map Pl.d)) ∧ (∀ p ∈ ps, p.Ok) ∧ ps.length ≤ 6 ∧ Web K H a (ndsD W) ∧ NdsOk B W ∧ B + 7 < big ∧
  ResL K H Q a (ndsD (allM W who 0 W [] ps).1) (allM W who 0 W [] ps).2
theorem sc_done_all : FnScope ["nodes", "deeds", "asker", "found", "values", "events", "number", "deed", "some", "word", "value"] ["nodes", "deeds", "asker"] (defScope s_done_all) := ⟨rfl, rfl, rfl, by decide +kernel, rfl, by decide +kernel, by decide +kernel⟩
theorem k_done_all (B : Bag w K mg base) : Kept P w K mg base "done_all" 6 ["nodes", "deeds", "asker"] (sp_done_all K) := by
  obtain ⟨fd, F⟩ := B.c.def_ 26 (d := d_done_all) rfl
  obtain ⟨f_done_plain, fd_done_plain, g_done_plain, kp_done_plain, b_done_plain, o_done_plain⟩ := k_done_plain (P := P) B
  have n_enumerate := He.free_ok B.X B.G (B.c.fact 87 (f := .free "enumerate") rfl)
  have n_tuple := He.free_ok B.X B.G (B.c.fact 83 (f := .free "tuple") rfl)
  have g0 := He.glo_ok B.X B.G (B.c.fact 26 (f := .glo "done_all") rfl)
  refine ⟨_, fd, g0, F.kp, F.bindsN (fun _ _ _ _ _ _ us hl => match us, hl with | [_, _, _], _ => rfl), ?_⟩
  refine F.ok sc_done_all (fun vs H Q E h => len3 h) (fun cdv A outer s H vs Q E hr h => ?_)
  have nd := sc_done_all.nd
  have hu := hu_of hr
  refine' ⟨_, PSs.nox ?hT, ?hR⟩
  case hT => exact (pss_cons (ps_par3 (i := 3) (j := 4) (l := 5) rfl nd rfl rfl rfl (by decide) (by decide) (by decide) rfl rfl rfl (pa_cons (pv 0) (pa_cons (pe_lstA pa_nil) (pa_cons (pe_lstA pa_nil) pa_nil))) rfl)
      (pss_cons (ps_for PassesOwn.never rfl (pi_enumT rfl n_enumerate (pa_cons (pv 1) pa_nil)) (pg_tup rfl (pgs_cons (pg_name (i := 6) nd rfl (Or.inl rfl)) (pgs_cons (pg_name (i := 7) nd rfl (Or.inl rfl)) pgs_nil))) (pss_cons (ps_asg (pe_callN o_done_plain hr rfl g_done_plain kp_done_plain b_done_plain pass0 (pa_cons (pv 3) (pa_cons (pv 7) pa_nil)) (pk_cons (pv 2) pk_nil)) (pg_tup rfl (pgs_cons (pg_name (i := 3) nd rfl (Or.inl rfl)) (pgs_cons (pg_tup rfl (pgs_cons (pg_name (i := 9) nd rfl (Or.inl rfl)) (pgs_cons (pg_name (i := 10) nd rfl (Or.inl rfl)) pgs_nil))) (pgs_cons (pg_name (i := 8) nd rfl (Or.inl rfl)) pgs_nil)))))
      (pss_cons (ps_if (pt_cmpR op_eq (pv 9) (pe_str) (nomark _)) (pss_one (ps_ret (pe_tupA (pa_cons (pv 0) (pa_cons (pe_tupA (pa_cons (pv 9) (pa_cons (pv 10) (pa_cons (pv 6) pa_nil)))) (pa_cons (pe_lstA pa_nil) pa_nil)))))) pss_nil)
      (pss_cons (ps_expr (pe_bm PySem.F.plainAttrs_list PySem.F.slot_list_append PySem.F.type_list_append mt_appA (pv 4) (pa_cons (pv 10) pa_nil)))
      (pss_one (ps_expr (pe_bm PySem.F.plainAttrs_list PySem.F.slot_list_extend PySem.F.type_list_extend mt_extA (pv 5) (pa_cons (pv 8) pa_nil))))))))
      (pss_one (ps_ret (pe_tupA (pa_cons (pv 3) (pa_cons (pe_tupA (pa_cons (pe_str) (pa_cons (pe_callTy call_tupleA rfl n_tuple boot_tuple (pa_cons (pv 4) pa_nil)) pa_nil))) (pa_cons (pv 5) pa_nil))))))))
  clear hr hu nd g0 F fd o_done_plain b_done_plain kp_done_plain g_done_plain fd_done_plain n_enumerate n_tuple
  try dsimp only [cxOf, Cx.nox, Cx.wish]
  obtain ⟨_, _, _, rfl, a, W, ps, who, m, rfl, rfl, hps, okp, h6, hw, ok, hm, q⟩ := h
  obtain ⟨l, xs, rfl, htl, dxs⟩ := hps.inv
  have hxl := dxs.lenM
  fail "r"
  refine for_it (walk_enumT (xs := xs)) (fun i σ Hi => L2.Same H Hi ∧ ∃ (ai lv le : Addr) (Wi : Nds) (vs : List PyData) (zs es : List V) (u1 u2 u3 u4 u5 : Option V), σ = [some (.ref a), some (.ref l), some (.str who), some (.ref ai), some (.ref lv), some (.ref le), u1, u2, u3, u4, u5] ∧
      Web K Hi ai (ndsD Wi) ∧ NdsOk (m + i) Wi ∧ Hi lv = some (.lst zs) ∧ DtA K Hi zs vs ∧ zs.length = i ∧ Hi le = some (.lst es) ∧ es.length ≤ 2 * i ∧ lv ≠ le ∧ H lv = none ∧ H le = none ∧ (ai = a ∨ H ai = none) ∧ allM W who 0 W [] ps = allM W who i Wi vs (ps.drop i))
    ⟨by fail "c", a, _, _, W, [], [], [], none, none, none, none, none, rfl, by fail "c", ok, by fail "c", .nil, rfl, by fail "c", Nat.le_refl _, by fail "c", by fail "c", by fail "c", .inl rfl, rfl⟩ (fun _ _ _ _ h => by have := h.1; fail "c") (fun i y σ H2 H3 hi p' z => ?_) (fun σ H2 p' => ?_)
  · obtain ⟨T, y1, y2, rfl, nT, rfl, hy1, hy2⟩ := z
    obtain rfl := Option.some.inj hy1
    obtain ⟨p, hp, dp⟩ := dxs.atM hy2
    have pk := okp p (List.mem_of_getElem? hp)
    obtain ⟨s2, ai, lv, le, Wi, vs, zs, es, u1, u2, u3, u4, u5, rfl, hwi, oki, hlv, dzs, hzl, hle, hel, nl, n1, n2, n3, em⟩ := p'
    have hT := upd_same (H := H2) (a := T) (o := .tup [.int (i : Nat), y2])
    have sT := sameUpd (H := H2) (p := T) (o := .tup [.int (i : Nat), y2]) nT
    generalize upd H2 T (.tup [.int (i : Nat), y2]) = H3 at hT sT ⊢
    rw [drop_at hp] at em
    have hmi : m + i < big := by omega
    have hzs : zs.length < sizeLine := small_size (m := 6) (by omega)
    have rr := (did Wi p who)
    fail "s"
    intro r w1 ev v zs' H4 s4 e4 w4 d4 z4 l4 f4 f5
    cases hr : (plainM Wi p who).2 with
    | no w0 =>
      rw [hr] at d4
      obtain ⟨l5, x1, x2, rfl, t5, d51, d52⟩ := dt2 d4
      obtain rfl := d51.s
      have em2 : allM W who 0 W [] ps = (W, .tuple [.str "no", .str w0, .int (i : Int)]) := by
        rw [em]
        unfold allM
        rw [hr]
      rw [em2] at q
      fail "r"
      apply ResL.use q <;> fail "c"
    | ok v0 =>
      rw [hr] at d4
      obtain ⟨l5, x1, x2, rfl, t5, d51, d52⟩ := dt2 d4
      obtain rfl := d51.s
      have em2 : allM W who 0 W [] ps = allM W who (i + 1) (plainM Wi p who).1 (vs ++ [v0]) (ps.drop (i + 1)) := by
        rw [em]
        conv => lhs; unfold allM
        rw [hr]
      have oki1 : NdsOk (m + (i + 1)) (plainM Wi p who).1 := oki.plain pk who
      have hlv4 : H4 lv = some (.lst zs) := by fail "c"
      have hle4 : H4 le = some (.lst es) := by fail "c"
      have nle : ev ≠ lv := by fail "c"
      have dzs4 : DtA K H4 zs vs := by fail "c"
      have hes : es.length + zs'.length ≤ sizeLine := Nat.le_trans (m := 300) (by omega) (by decide)
      have hlen1 : (zs ++ [x2]).length = i + 1 := by rw [List.length_append, hzl]; rfl
      have hel1 : (es ++ zs').length ≤ 2 * (i + 1) := by rw [List.length_append]; omega
      fail "r"
      · exact DtA.snoc (show Dt K _ x2 v0 by fail "c") (show DtA K _ zs vs by fail "c")
      fail "r"
      done
  · obtain ⟨s2, ai, lv, le, Wi, vs, zs, es, u1, u2, u3, u4, u5, rfl, hwi, oki, hlv, dzs, hzl, hle, hel, nl, n1, n2, n3, em⟩ := p'
    have em2 : allM W who 0 W [] ps = (Wi, .tuple [.str "ok", .tuple vs]) := by
      rw [em, hxl, List.drop_length]
      rfl
    rw [em2] at q
    have h200 : es.length ≤ 200 := by omega
    fail "r"
    apply ResL.use q <;> fail "c"
/-- the nodes, the limit, the answer, the events -/
def DRes (K : PySem.W.Frag) (H : Hp) (Q : VK) (a : Addr) (Wd : List (Str × PyData)) (c : Option Nat) (an : PyData) : Prop :=
  ∀ (r w1 ev : Addr) (u v : V) (zs : List V) (H' : Hp), L2.Same H H' → H' r = some (.tup [.ref w1, u, v, .ref ev]) → Web K H' w1 Wd → u = cntV c → Dt K H' v an → H' ev = some (.lst zs) → zs.length ≤ 200 → (w1 = a ∨ H w1 = none) → Q (.ref r) H'
theorem DRes.use {H H' : Hp} {Q : VK} {Wd : List (Str × PyData)} {c : Option Nat} {an : PyData} {a r w1 ev : Addr} {u v : V} {zs : List V} (q : DRes K H Q a Wd c an) (h1 : L2.Same H H') (h2 : H' r = some (.tup [.ref w1, u, v, .ref ev])) (h3 : Web K H' w1 Wd) (h8 : u = cntV c) (h4 : Dt K H' v an) (h5 : H' ev = some (.lst zs)) (h6 : zs.length ≤ 200) (h7 : w1 = a ∨ H w1 = none) : Q (.ref r) H' :=
  q r w1 ev u v zs H' h1 h2 h3 h8 h4 h5 h6 h7
def sp_done_deed (K : PySem.W.Frag) : Sp := sp4 fun v1 v2 v3 v4 H Q => ∃ (a : Addr) (W : Nds) (lim : Option Nat) (d : De) (who : Str) (B : Nat), v1 = .ref a ∧ v4 = .str who ∧ Dt K H v2 (cntD lim) ∧ Dt K H v3 d.d ∧ d.Ok ∧ Web K H a (ndsD W) ∧ NdsOk B W ∧ B + 7 < big ∧
  DRes K H Q a (ndsD (deedM W lim d who).1) (deedM W lim d who).2.1 (deedM W lim d who).2.2
theorem sc_done_deed : FnScope ["nodes", "limit", "deed", "asker", "word", "found", "events", "answer"] ["nodes", "limit", "deed", "asker"] (defScope s_done_deed) := ⟨rfl, rfl, rfl, by decide +kernel, rfl, by decide +kernel, by decide +kernel⟩
theorem k_done_deed (B : Bag w K mg base) : Kept P w K mg base "done_deed" 7 ["nodes", "limit", "deed", "asker"] (sp_done_deed K) := by
  obtain ⟨fd, F⟩ := B.c.def_ 27 (d := d_done_deed) rfl
  obtain ⟨f_without_owner, fd_without_owner, g_without_owner, kp_without_owner, b_without_owner, o_without_owner⟩ := k_without_owner (P := P) B
  obtain ⟨f_done_all, fd_done_all, g_done_all, kp_done_all, b_done_all, o_done_all⟩ := k_done_all (P := P) B
  obtain ⟨f_done_plain, fd_done_plain, g_done_plain, kp_done_plain, b_done_plain, o_done_plain⟩ := k_done_plain (P := P) B
  have c_OK := He.glo_ok B.X B.G (B.c.fact 75 (f := .glo "OK") rfl)
  have g0 := He.glo_ok B.X B.G (B.c.fact 27 (f := .glo "done_deed") rfl)
  refine ⟨_, fd, g0, F.kp, F.bindsN (fun _ _ _ _ _ _ us hl => match us, hl with | [_, _, _, _], _ => rfl), ?_⟩
  refine F.ok sc_done_deed (fun vs H Q E h => len4 h) (fun cdv A outer s H vs Q E hr h => ?_)
  have nd := sc_done_deed.nd
  have hu := hu_of hr
  refine' ⟨_, PSs.nox ?hT, ?hR⟩
  case hT => exact (pss_cons (ps_set (i := 4) nd rfl (Or.inl rfl) (pe_ix ix_tup (pv 2) (pe_int) (fun _ _ => rfl)))
      (pss_cons (ps_if (pt_cmpR op_eq (pv 4) (pe_str) (nomark _)) (pss_one (ps_ret (pe_ifExp (pt_cmp (pc_isN (pv 1))) (pe_tupA (pa_cons (pv 0) (pa_cons (pe_ix ix_tup (pv 2) (pe_int) (fun _ _ => rfl)) (pa_cons (pe_glob (v := .ref (He.ga K "OK")) rfl c_OK rfl) (pa_cons (pe_lstA pa_nil) pa_nil))))) (pe_tupA (pa_cons (pv 0) (pa_cons (pv 1) (pa_cons (pe_tupA (pa_cons (pe_str) (pa_cons (pe_str) pa_nil))) (pa_cons (pe_lstA pa_nil) pa_nil)))))))) pss_nil)
      (pss_cons (ps_if (pt_cmp (pc_isN (pv 1))) (pss_one (ps_ret (pe_tupA (pa_cons (pv 0) (pa_cons (pe_non) (pa_cons (pe_tupA (pa_cons (pe_str) (pa_cons (pe_str) pa_nil))) (pa_cons (pe_lstA pa_nil) pa_nil))))))) pss_nil)
      (pss_cons (ps_if (pt_cmpR op_eq (pv 4) (pe_str) (nomark _)) (pss_cons (ps_asg (pe_call o_without_owner (hr.mono (by decide)) rfl g_without_owner kp_without_owner b_without_owner .nil pass0 (pa_cons (pv 0) (pa_cons (pv 3) pa_nil))) (pg_tup rfl (pgs_cons (pg_name (i := 5) nd rfl (Or.inl rfl)) (pgs_cons (pg_name (i := 6) nd rfl (Or.inl rfl)) pgs_nil))))
      (pss_one (ps_ret (pe_tupA (pa_cons (pv 5) (pa_cons (pe_non) (pa_cons (pe_glob (v := .ref (He.ga K "OK")) rfl c_OK rfl) (pa_cons (pv 6) pa_nil)))))))) pss_nil)
      (pss_cons (ps_if (pt_cmpR op_eq (pv 4) (pe_str) (nomark _)) (pss_one (ps_ret (pe_tupA (pa_cons (pv 0) (pa_cons (pv 1) (pa_cons (pe_glob (v := .ref (He.ga K "OK")) rfl c_OK rfl) (pa_cons (pe_lstA pa_nil) pa_nil))))))) pss_nil)
      (pss_cons (ps_if (pt_cmpR op_eq (pv 4) (pe_str) (nomark _)) (pss_one (ps_asg (pe_call o_done_all hr rfl g_done_all kp_done_all b_done_all .nil pass0 (pa_cons (pv 0) (pa_cons (pe_ix ix_tup (pv 2) (pe_int) (fun _ _ => rfl)) (pa_cons (pv 3) pa_nil)))) (pg_tup rfl (pgs_cons (pg_name (i := 5) nd rfl (Or.inl rfl)) (pgs_cons (pg_name (i := 7) nd rfl (Or.inl rfl)) (pgs_cons (pg_name (i := 6) nd rfl (Or.inl rfl)) pgs_nil)))))) (pss_one (ps_asg (pe_callN o_done_plain (hr.mono (by decide)) rfl g_done_plain kp_done_plain b_done_plain pass0 (pa_cons (pv 0) (pa_cons (pv 2) pa_nil)) (pk_cons (pv 3) pk_nil)) (pg_tup rfl (pgs_cons (pg_name (i := 5) nd rfl (Or.inl rfl)) (pgs_cons (pg_name (i := 7) nd rfl (Or.inl rfl)) (pgs_cons (pg_name (i := 6) nd rfl (Or.inl rfl)) pgs_nil)))))))
      (pss_one (ps_ret (pe_tupA (pa_cons (pv 5) (pa_cons (pv 1) (pa_cons (pv 7) (pa_cons (pv 6) pa_nil)))))))))))))
  clear hr hu nd g0 F fd o_without_owner b_without_owner kp_without_owner g_without_owner fd_without_owner o_done_all b_done_all kp_done_all g_done_all fd_done_all o_done_plain b_done_plain kp_done_plain g_done_plain fd_done_plain c_OK
  try dsimp only [cxOf, Cx.nox, Cx.wish]
  obtain ⟨_, _, _, _, rfl, a, W, lim, d, who, m, rfl, rfl, dl, hd, ok, hw, hok, hB, q⟩ := h
  have okT : Dt K H (.ref (He.ga K "OK")) (.tuple [.str "ok", .none]) := .tup (B.okT H) (.cons (.str _) (.cons .non .nil))
  obtain rfl := cnt_inv dl
  cases d with
  | opn n =>
    obtain ⟨l, x1, x2, rfl, ht, e1, e2⟩ := dt2 hd
    obtain rfl := e1.s
    obtain rfl := e2.i
    cases lim with
    | none =>
      fail "r"
      apply DRes.use q <;> fail "c"
    | some k =>
      have q : DRes K H Q a (ndsD W) (some k) (.tuple [.str "no", .str "open"]) := q
      fail "r"
      apply DRes.use q <;> fail "c"
  | close =>
    obtain ⟨l, x1, rfl, ht, e1⟩ := dt1 hd
    obtain rfl := e1.s
    cases lim with
    | none =>
      have q : DRes K H Q a (ndsD W) none (.tuple [.str "no", .str "closed"]) := q
      fail "r"
      apply DRes.use q <;> fail "c"
    | some k =>
      have q : DRes K H Q a (ndsD (leftM W who)) none (.tuple [.str "ok", .none]) := q
      fail "r"
      apply DRes.use q <;> fail "c"
  | bring =>
    obtain ⟨l, x1, rfl, ht, e1⟩ := dt1 hd
    obtain rfl := e1.s
    cases lim with
    | none =>
      have q : DRes K H Q a (ndsD W) none (.tuple [.str "no", .str "closed"]) := q
      fail "r"
      apply DRes.use q <;> fail "c"
    | some k =>
      have q : DRes K H Q a (ndsD W) (some k) (.tuple [.str "ok", .none]) := q
      fail "r"
      apply DRes.use q <;> fail "c"
  | all ps =>
    obtain ⟨l, x1, x2, rfl, ht, e1, e2⟩ := dt2 hd
    obtain rfl := e1.s
    obtain ⟨h1, h6, okp⟩ := ok
    cases lim with
    | none =>
      have q : DRes K H Q a (ndsD W) none (.tuple [.str "no", .str "closed"]) := q
      fail "r"
      apply DRes.use q <;> fail "c"
    | some k =>
      have q : DRes K H Q a (ndsD (allM W who 0 W [] ps).1) (some k) (allM W who 0 W [] ps).2 := q
      have okp2 : ∀ p ∈ ps, p.Ok := okp
      fail "r"
      · exact okp _ (by assumption)
      fail "r"
      apply DRes.use q <;> fail "c"
  | plain p =>
    obtain ⟨l, w0, xs, rfl, ht, n1, n2, n3, n4⟩ := pl_head hd
    have h0 : atI (V.str w0 :: xs) 0 = some (V.str w0) := atI_at (k := 0) rfl
    cases lim with
    | none =>
      have q : DRes K H Q a (ndsD W) none (.tuple [.str "no", .str "closed"]) := q
      fail "r"
      apply DRes.use q <;> fail "c"
    | some k =>
      have q : DRes K H Q a (ndsD (plainM W p who).1) (some k) (plainM W p who).2.d := q
      have hd : Dt K H (V.ref l) p.d := hd
      have ok : p.Ok := ok
      have hm : m < big := by omega
      fail "s"
      intro r w1 ev v zs' H4 s4 e4 w4 d4 z4 l4 f4 f5
      have l5 : zs'.length ≤ 200 := by omega
      fail "r"
      apply DRes.use q <;> fail "c"
def sp_ended (K : PySem.W.Frag) : Sp := sp3 fun v1 v2 v3 H Q => ∃ (a b : Addr) (W : Nds) (S : Ses) (who : Str) (B : Nat), v1 = .ref a ∧ v2 = .ref b ∧ v3 = .str who ∧ a ≠ b ∧ Web K H a (ndsD W) ∧ Web K H b (sesD S) ∧ NdsOk B W ∧ S.length ≤ 1000 ∧
  ∀ (r t w1 : Addr) (u x : V) (H' : Hp), But b H H' → H' r = some (.tup [.ref t, u, x]) → H' t = some (.tup [.ref w1, .ref b]) → Web K H' w1 (ndsD (doneM (W, S) (.fin who) (0, 0)).1) → Web K H' b (sesD (doneM (W, S) (.fin who) (0, 0)).2) → Q (.ref r) H'
theorem sc_ended : FnScope ["nodes", "sessions", "asker", "limit", "stamp", "answer", "place", "found", "events"] ["nodes", "sessions", "asker"] (defScope s_ended) := ⟨rfl, rfl, rfl, by decide +kernel, rfl, by decide +kernel, by decide +kernel⟩
theorem k_ended (B : Bag w K mg base) : Kept P w K mg base "ended" 5 ["nodes", "sessions", "asker"] (sp_ended K) := by
  obtain ⟨fd, F⟩ := B.c.def_ 28 (d := d_ended) rfl
  obtain ⟨f_without_owner, fd_without_owner, g_without_owner, kp_without_owner, b_without_owner, o_without_owner⟩ := k_without_owner (P := P) B
  have c_NEVER := He.glo_ok B.X B.G (B.c.fact 76 (f := .glo "NEVER") rfl)
  have g0 := He.glo_ok B.X B.G (B.c.fact 28 (f := .glo "ended") rfl)
  refine ⟨_, fd, g0, F.kp, F.bindsN (fun _ _ _ _ _ _ us hl => match us, hl with | [_, _, _], _ => rfl), ?_⟩
  refine F.ok sc_ended (fun vs H Q E h => len3 h) (fun cdv A outer s H vs Q E hr h => ?_)
  have nd := sc_ended.nd
  have hu := hu_of hr
  refine' ⟨_, PSs.nox ?hT, ?hR⟩
  case hT => exact (pss_cons (ps_asg (pe_dget2 hu (pv 1) (pv 2) (pe_glob (v := .ref (He.ga K "NEVER")) rfl c_NEVER rfl) ⟨rfl, rfl, rfl, rfl⟩) (pg_tup rfl (pgs_cons (pg_name (i := 3) nd rfl (Or.inl rfl)) (pgs_cons (pg_name (i := 4) nd rfl (Or.inl rfl)) (pgs_cons (pg_name (i := 5) nd rfl (Or.inl rfl)) (pgs_cons (pg_name (i := 6) nd rfl (Or.inl rfl)) pgs_nil))))))
      (pss_cons (ps_if (pt_cmp (pc_isN (pv 3))) (pss_one (ps_ret (pe_tupA (pa_cons (pe_tupA (pa_cons (pv 0) (pa_cons (pv 1) pa_nil))) (pa_cons (pe_non) (pa_cons (pe_lstA pa_nil) pa_nil)))))) pss_nil)
      (pss_cons (ps_asg (pe_call o_without_owner hr rfl g_without_owner kp_without_owner b_without_owner .nil pass0 (pa_cons (pv 0) (pa_cons (pv 2) pa_nil))) (pg_tup rfl (pgs_cons (pg_name (i := 7) nd rfl (Or.inl rfl)) (pgs_cons (pg_name (i := 8) nd rfl (Or.inl rfl)) pgs_nil))))
      (pss_cons (ps_dputA hu (pv 1) (pv 2) (pe_tupA (pa_cons (pe_non) (pa_cons (pv 4) (pa_cons (pv 5) (pa_cons (pv 6) pa_nil))))) rfl)
      (pss_one (ps_ret (pe_tupA (pa_cons (pe_tupA (pa_cons (pv 7) (pa_cons (pv 1) pa_nil))) (pa_cons (pe_non) (pa_cons (pv 8) pa_nil))))))))))
  clear hr hu nd g0 F fd o_without_owner b_without_owner kp_without_owner g_without_owner fd_without_owner c_NEVER
  try dsimp only [cxOf, Cx.nox, Cx.wish]
  obtain ⟨_, _, _, rfl, a, b, W, S, who, m, rfl, rfl, rfl, nab, hw, hs, hok, hsl, q⟩ := h
  have nev := B.never H
  obtain ⟨ss, hb, hse⟩ := id hs
  have hssl : ss.length < sizeLine := small_size (m := 1000) (by rw [hse.lenS]; exact hsl)
  cases hk : lkA S who with
  | none =>
    have em : doneM (W, S) (.fin who) (0, 0) = (W, S) := by unfold doneM; simp only [hk]
    rw [em] at q
    have hv : valV ss (Sum.inr who : Key) = none := hse.getS0 hk
    fail "r"
    exact q _ _ _ _ _ _ (by fail "c") (by fail "c") (by fail "c") (by fail "c") (by fail "c")
  | some e =>
    obtain ⟨v, hv, dv⟩ := hse.getS hk
    obtain ⟨l, an, pl, rfl, ht, da, dpl⟩ := se_inv dv
    cases hlim : e.limit with
    | none =>
      have em : doneM (W, S) (.fin who) (0, 0) = (W, S) := by unfold doneM; simp only [hk, hlim]
      rw [em] at q
      rw [hlim] at ht
      fail "r"
      exact q _ _ _ _ _ _ (by fail "c") (by fail "c") (by fail "c") (by fail "c") (by fail "c")
    | some k =>
      have em : doneM (W, S) (.fin who) (0, 0) = (leftM W who, putA S who { e with limit := none }) := by unfold doneM; simp only [hk, hlim]
      rw [em] at q
      rw [hlim] at ht
      fail "r"
      have nwb : w1 ≠ b := by
        rcases (show w1 = a ∨ H w1 = none by assumption) with z | z
        · rw [z]; exact nab
        · exact (neF z hb).symm
      have hss : Web K H'_4 b (sesD (putA S who { e with limit := none })) := Web.mk (kvs := putK ss (Sum.inr who) (V.ref p)) (by fail "c") (Ents.putS (se_mk (c := none) (TpK.of (by fail "c")) rfl (by fail "c") (by fail "c")) (by fail "c"))
      exact q _ _ _ _ _ _ (by fail "c") (by fail "c") (by fail "c") (by fail "c") hss
def sp_done (K : PySem.W.Frag) : Sp := sp3 fun v1 v2 v3 H Q => ∃ (l a b : Addr) (W : Nds) (S : Ses) (e : En) (pl : Place) (B : Nat), v1 = .ref l ∧ H l = some (.tup [.ref a, .ref b]) ∧ Web K H a (ndsD W) ∧ Web K H b (sesD S) ∧ Dt K H v2 e.d ∧ e.Ok ∧ Dt K H v3 (plD pl) ∧ NdsOk B W ∧ B + 7 < big ∧ S.length ≤ 1000 ∧
  ∀ (r t w1 s1 : Addr) (u x : V) (H' : Hp), L2.Same H H' → H' r = some (.tup [.ref t, u, x]) → H' t = some (.tup [.ref w1, .ref s1]) → Web K H' w1 (ndsD (doneM (W, S) e pl).1) → Web K H' s1 (sesD (doneM (W, S) e pl).2) → Q (.ref r) H'
theorem kb_done {f : Addr} {fd : FuncData} (F : FunD K d_done.name d_done.qual d_done.params d_done.body d_done.scope (d_done.dvs K) (d_done.kws K) f fd) : KBn K fd ["state", "entry", "place"] 2 ["place"] (fun us ws => us ++ ws) (fun us ws => us ++ ws) :=
  kbn_of F fun _ _ _ _ _ _ us ws h1 h2 => match us, h1, ws, h2 with | [_, _], _, [_], _ => rfl
theorem sc_done : FnScope ["state", "entry", "place", "asker", "nodes", "sessions", "stamp", "deed", "limit", "last", "elder", "where", "found", "answer", "events", "one"] ["state", "entry", "place"] (defScope s_done) := ⟨rfl, rfl, rfl, by decide +kernel, rfl, by decide +kernel, by decide +kernel⟩
theorem k_done (B : Bag w K mg base) : KeptK P w K mg base "done" 8 ["state", "entry", "place"] ["place"] (sp_done K) := by
  obtain ⟨fd, F⟩ := B.c.def_ 29 (d := d_done) rfl
  obtain ⟨f_is_entry, fd_is_entry, g_is_entry, kp_is_entry, b_is_entry, o_is_entry⟩ := k_is_entry (P := P) B
  obtain ⟨f_ended, fd_ended, g_ended, kp_ended, b_ended, o_ended⟩ := k_ended (P := P) B
  obtain ⟨f_done_deed, fd_done_deed, g_done_deed, kp_done_deed, b_done_deed, o_done_deed⟩ := k_done_deed (P := P) B
  have n_dict := He.free_ok B.X B.G (B.c.fact 85 (f := .free "dict") rfl)
  have c_NEVER := He.glo_ok B.X B.G (B.c.fact 76 (f := .glo "NEVER") rfl)
  have g0 := He.glo_ok B.X B.G (B.c.fact 29 (f := .glo "done") rfl)
  refine ⟨_, fd, g0, F.kp, kb_done F, ?_⟩
  refine F.ok sc_done (fun vs H Q E h => len3 h) (fun cdv A outer s H vs Q E hr h => ?_)
  have nd := sc_done.nd
  have hu := hu_of hr
  refine' ⟨_, PSs.nox ?hT, ?hR⟩
  case hT => exact (pss_cons (ps_if (pt_not (pt_val (pe_call o_is_entry (hr.mono (by decide)) rfl g_is_entry kp_is_entry b_is_entry .nil pass0 (pa_cons (pv 1) pa_nil)))) (pss_one (ps_never)) pss_nil)
      (pss_cons (ps_asg (pe_lc (own := [("one", 15)]) (g := gName 15) (tt := tYes) rfl nd (pi_tup (pv 0)) (blkOk_by (N := ["state", "entry", "place", "asker", "nodes", "sessions", "stamp", "deed", "limit", "last", "elder", "where", "found", "answer", "events", "one"]) (sc := defScope s_done) (by decide +kernel)) (fun _ _ _ _ _ => (pg_name (i := 15) nd rfl (Or.inl rfl))) (fun _ _ _ _ _ => pts_nil) (fun _ _ _ _ _ => (pe_callTy call_dictA rfl n_dict boot_dict (pa_cons (pv 15) pa_nil)))) (pg_unl rfl (pgs_cons (pg_name (i := 4) nd rfl (Or.inl rfl)) (pgs_cons (pg_name (i := 5) nd rfl (Or.inl rfl)) pgs_nil))))
      (pss_cons (ps_set (i := 3) nd rfl (Or.inl rfl) (pe_ix ix_tup (pv 1) (pe_int) (fun _ _ => rfl)))
      (pss_cons (ps_if (pt_cmpR op_eq (pe_ix ix_tup (pv 1) (pe_int) (fun _ _ => rfl)) (pe_str) (nomark _)) (pss_one (ps_ret (pe_call o_ended (hr.mono (by decide)) rfl g_ended kp_ended b_ended .nil pass0 (pa_cons (pv 4) (pa_cons (pv 5) (pa_cons (pv 3) pa_nil)))))) pss_nil)
      (pss_cons (ps_asg (pe_slice sl_tupA2 (pv 1) (po_some (pe_int)) po_none) (pg_tup rfl (pgs_cons (pg_name (i := 6) nd rfl (Or.inl rfl)) (pgs_cons (pg_name (i := 7) nd rfl (Or.inl rfl)) pgs_nil))))
      (pss_cons (ps_asg (pe_dget2 hu (pv 5) (pv 3) (pe_glob (v := .ref (He.ga K "NEVER")) rfl c_NEVER rfl) ⟨rfl, rfl, rfl, rfl⟩) (pg_tup rfl (pgs_cons (pg_name (i := 8) nd rfl (Or.inl rfl)) (pgs_cons (pg_name (i := 9) nd rfl (Or.inl rfl)) (pgs_cons (pg_name (i := 10) nd rfl (Or.inl rfl)) (pgs_cons (pg_name (i := 11) nd rfl (Or.inl rfl)) pgs_nil))))))
      (pss_cons (ps_if (pt_cmpR op_le (pv 6) (pv 9) (nomark _)) (pss_one (ps_ret (pe_tupA (pa_cons (pe_tupA (pa_cons (pv 4) (pa_cons (pv 5) pa_nil))) (pa_cons (pe_ifExp (pt_cmpR op_eq (pv 6) (pv 9) (nomark _)) (pv 10) (pe_non)) (pa_cons (pe_lstA pa_nil) pa_nil)))))) pss_nil)
      (pss_cons (ps_asg (pe_call o_done_deed hr rfl g_done_deed kp_done_deed b_done_deed .nil pass0 (pa_cons (pv 4) (pa_cons (pv 8) (pa_cons (pv 7) (pa_cons (pv 3) pa_nil))))) (pg_tup rfl (pgs_cons (pg_name (i := 12) nd rfl (Or.inl rfl)) (pgs_cons (pg_name (i := 8) nd rfl (Or.inl rfl)) (pgs_cons (pg_name (i := 13) nd rfl (Or.inl rfl)) (pgs_cons (pg_name (i := 14) nd rfl (Or.inl rfl)) pgs_nil))))))
      (pss_cons (ps_dputA hu (pv 5) (pv 3) (pe_tupA (pa_cons (pv 8) (pa_cons (pv 6) (pa_cons (pv 13) (pa_cons (pv 2) pa_nil))))) rfl)
      (pss_one (ps_ret (pe_tupA (pa_cons (pe_tupA (pa_cons (pe_callTy call_dictA rfl n_dict boot_dict (pa_cons (pv 12) pa_nil)) (pa_cons (pv 5) pa_nil))) (pa_cons (pv 13) (pa_cons (pv 14) pa_nil)))))))))))))))
  clear hr hu nd g0 F fd o_is_entry b_is_entry kp_is_entry g_is_entry fd_is_entry o_ended b_ended kp_ended g_ended fd_ended o_done_deed b_done_deed kp_done_deed g_done_deed fd_done_deed n_dict c_NEVER
  try dsimp only [cxOf, Cx.nox, Cx.wish]
  obtain ⟨_, _, _, rfl, l, a, b, W, S, e, pl, m, rfl, hl, hw, hs, he, ek, hp, hok, hB, hsl, q⟩ := h
  obtain ⟨kw, ha, hwe⟩ := id hw
  obtain ⟨ks, hb, hse⟩ := id hs
  have nev0 := B.never H
  fail "r"
  refine lc_it (walk_tup (xs := [.ref a, .ref b])) (fun i Hi => L2.Same H' Hi ∧ ((i = 0 ∧ Hi D = some (.lst [])) ∨ (i = 1 ∧ ∃ n, Hi D = some (.lst [.ref n]) ∧ Web K Hi n (ndsD W) ∧ H n = none) ∨ (i = 2 ∧ ∃ n s, Hi D = some (.lst [.ref n, .ref s]) ∧ Web K Hi n (ndsD W) ∧ Web K Hi s (sesD S) ∧ n ≠ s ∧ H n = none ∧ H s = none)))
    ⟨by fail "c", .inl ⟨rfl, upd_same⟩⟩ (fun _ _ _ h => by have := h.1; fail "c") (fun i y H2 H3 hi p' z => ?_) (fun H2 p' => ?_)
  · obtain ⟨rfl, z⟩ := z
    obtain ⟨s2, p'⟩ := p'
    rcases p' with ⟨rfl, hD⟩ | ⟨rfl, n, hD, hn, fn⟩ | ⟨rfl, _⟩
    · obtain rfl := Option.some.inj z
      fail "r"
      exact .inr (.inl ⟨rfl, _, upd_same, webL (show _ = some (HO.lst []) by fail "c") (Web.mk (by fail "c") (by fail "c")), by fail "c"⟩)
    · obtain rfl := Option.some.inj z
      fail "r"
      exact .inr (.inr ⟨rfl, n, _, upd_same, webL (show _ = some (HO.lst [V.ref n]) by fail "c") (by fail "c"), webL (show _ = some (HO.lst [V.ref n]) by fail "c") (Web.mk (by fail "c") (by fail "c")), by
        obtain ⟨_, hnd, _⟩ := hn
        fail "c", by fail "c", by fail "c"⟩)
    · exact absurd hi (Nat.lt_irrefl _)
  · obtain ⟨s2, p'⟩ := p'
    rcases p' with ⟨z, _⟩ | ⟨z, _⟩ | ⟨_, n, s, hD, hn, hs, nns, fn, fs⟩
    · cases z
    · cases z
    obtain ⟨kn, hnd, hne⟩ := id hn
    obtain ⟨ks', hsd, hse'⟩ := id hs
    have hssl : ks'.length < sizeLine := small_size (m := 1000) (by rw [hse'.lenS]; exact hsl)
    cases e with
    | fin who =>
      obtain ⟨l3, x1, x2, rfl, ht, e1, e2⟩ := dt2 he
      obtain rfl := e1.s
      obtain rfl := e2.s
      fail "r"
      exact q _ _ _ _ _ _ _ (by fail "c") (by fail "c") (by fail "c") (by fail "c") (by fail "c")
    | ask who st d =>
      obtain ⟨l3, x1, x2, x3, dv, rfl, ht, e1, e2, e3, dd⟩ := dt4 he
      obtain rfl := e1.s
      obtain rfl := e2.s
      obtain rfl := e3.i
      obtain ⟨okw, ok1, ok2, okd⟩ := ek
      have e4 : Nm (cutV [V.str "ask", V.str who, V.int st, dv] (some 2) none) [V.int st, dv] := ⟨cutV_two _⟩
      have e5 : ¬ (HT.sIx [V.str "ask", V.str who, V.int st, dv].length 0 (some 2) = 0 ∧ HT.sIx [V.str "ask", V.str who, V.int st, dv].length [V.str "ask", V.str who, V.int st, dv].length none = [V.str "ask", V.str who, V.int st, dv].length) := fun z => absurd z.1 (by show ¬ HT.sIx 4 0 (some 2) = 0; decide)
      cases hk : lkA S who with
      | none =>
        have em : doneM (W, S) (.ask who st d) pl = ((deedM W none d who).1, putA S who ⟨(deedM W none d who).2.1, st, (deedM W none d who).2.2, pl⟩) := by
          unfold doneM
          simp only [hk, Option.getD_none]
          rw [if_neg (show ¬ st ≤ never.stamp from fun z => by have : never.stamp = 0 := rfl; omega)]
          rfl
        rw [em] at q
        have hv : valV ks' (Sum.inr who : Key) = none := hse'.getS0 hk
        have dl0 : Dt K H V.non (cntD none) := .non
        fail "s"
        intro r w1 ev u v zs' H4 s4 e4 w4 u4 d4 z4 l4 f4
        obtain rfl := u4
        obtain ⟨kw4, hw4, ge4⟩ := id w4
        have nws : w1 ≠ s := by
          rcases f4 with z | z
          · rw [z]; exact nns
          · exact (neF z (show _ = some (HO.dK ks') by fail "c")).symm
        fail "r"
        exact q _ _ _ _ _ _ _ (by fail "c") (by fail "c") (by fail "c") (Web.mk (kvs := kw4) (by fail "c") (by fail "c")) (Web.mk (kvs := putK ks' (Sum.inr who) (V.ref p_1)) (by fail "c") (Ents.putS (se_mk (TpK.of (by fail "c")) rfl (by fail "c") (by fail "c")) (by fail "c")))
      | some e =>
        obtain ⟨v, hv, dv2⟩ := hse'.getS hk
        obtain ⟨l6, an, pv, rfl, ht6, da, dpl⟩ := se_inv dv2
        by_cases c1 : st ≤ e.stamp
        · have em : doneM (W, S) (.ask who st d) pl = (W, S) := by
            unfold doneM
            simp only [hk, Option.getD_some]
            rw [if_pos c1]
          rw [em] at q
          by_cases c2 : st = e.stamp
          · have e6 : V.int (st : Int) = V.int (e.stamp : Int) := by rw [c2]
            fail "r"
            exact q _ _ _ _ _ _ _ (by fail "c") (by fail "c") (by fail "c") (by fail "c") (by fail "c")
          · have e6 : ¬ V.int (st : Int) = V.int (e.stamp : Int) := fun z => c2 (Int.ofNat.inj (V.int.inj z))
            fail "r"
            exact q _ _ _ _ _ _ _ (by fail "c") (by fail "c") (by fail "c") (by fail "c") (by fail "c")
        · have em : doneM (W, S) (.ask who st d) pl = ((deedM W e.limit d who).1, putA S who ⟨(deedM W e.limit d who).2.1, st, (deedM W e.limit d who).2.2, pl⟩) := by
            unfold doneM
            simp only [hk, Option.getD_some]
            rw [if_neg c1]
          rw [em] at q
          have dl0 : Dt K H (cntV e.limit) (cntD e.limit) := by
            cases e.limit with
            | none => exact .non
            | some k => exact .int _
          fail "s"
          intro r w1 ev u v zs' H4 s4 e4 w4 u4 d4 z4 l4 f4
          obtain rfl := u4
          obtain ⟨kw4, hw4, ge4⟩ := id w4
          have nws : w1 ≠ s := by
            rcases f4 with z | z
            · rw [z]; exact nns
            · exact (neF z (show _ = some (HO.dK ks') by fail "c")).symm
          fail "r"
          exact q _ _ _ _ _ _ _ (by fail "c") (by fail "c") (by fail "c") (Web.mk (kvs := kw4) (by fail "c") (by fail "c")) (Web.mk (kvs := putK ks' (Sum.inr who) (V.ref p_1)) (by fail "c") (Ents.putS (se_mk (TpK.of (by fail "c")) rfl (by fail "c") (by fail "c")) (by fail "c")))
def sp_goes_on (K : PySem.W.Frag) : Sp := sp2 fun v u H Q => ∃ a p : Place, Dt K H v (plD a) ∧ Dt K H u (plD p) ∧ follows a p = true ∧ ∀ H', L2.Same H H' → Q (.bl true) H'
theorem sc_goes_on : FnScope ["ahead", "place", "epoch", "number"] ["ahead", "place"] (defScope s_goes_on) := ⟨rfl, rfl, rfl, by decide +kernel, rfl, by decide +kernel, by decide +kernel⟩
theorem k_goes_on (B : Bag w K mg base) : Kept P w K mg base "goes_on" 1 ["ahead", "place"] (sp_goes_on K) := by
  obtain ⟨fd, F⟩ := B.c.def_ 30 (d := d_goes_on) rfl
  have c_NOWHERE := He.glo_ok B.X B.G (B.c.fact 74 (f := .glo "NOWHERE") rfl)
  have g0 := He.glo_ok B.X B.G (B.c.fact 30 (f := .glo "goes_on") rfl)
  refine ⟨_, fd, g0, F.kp, F.bindsN (fun _ _ _ _ _ _ us hl => match us, hl with | [_, _], _ => rfl), ?_⟩
  refine F.ok sc_goes_on (fun vs H Q E h => len2 h) (fun cdv A outer s H vs Q E hr h => ?_)
  have nd := sc_goes_on.nd
  have hu := hu_of hr
  refine' ⟨_, PSs.nox ?hT, ?hR⟩
  case hT => exact (pss_cons (ps_asg (pv 1) (pg_tup rfl (pgs_cons (pg_name (i := 2) nd rfl (Or.inl rfl)) (pgs_cons (pg_name (i := 3) nd rfl (Or.inl rfl)) pgs_nil))))
      (pss_cons (ps_if (PW.pt (pw_and (pt_cmpR op_eq (pv 2) (pe_ix ix_tup (pv 0) (pe_int) (fun _ _ => rfl)) (nomark _)) (pw_and1 (pt_cmpR (op_neD (hu64_of hr)) (pv 0) (pe_glob (v := .ref (He.ga K "NOWHERE")) rfl c_NOWHERE rfl) (nomark _))))) (pss_one (ps_ret (pe_cmpR op_eq (pv 3) (pe_op op_add (pe_ix ix_tup (pv 0) (pe_int) (fun _ _ => rfl)) (pe_int)) (nomark _)))) pss_nil)
      (pss_one (ps_ret (pe_and (pe_cmpR op_gt (pv 2) (pe_ix ix_tup (pv 0) (pe_int) (fun _ _ => rfl)) (nomark _)) (pe_one (pe_cmpR op_eq (pv 3) (pe_int) (nomark _))))))))
  clear hr hu nd g0 F fd c_NOWHERE
  try dsimp only [cxOf, Cx.nox, Cx.wish]
  obtain ⟨_, _, rfl, a, p, ha, hp, f, q⟩ := h
  obtain ⟨la, rfl, ta⟩ := plD_inv ha
  obtain ⟨lp, rfl, tp⟩ := plD_inv hp
  have hn : Dt K H (.ref (He.ga K "NOWHERE")) (plD (0, 0)) := dtPl (B.nowhere H) rfl rfl
  unfold follows at f
  by_cases c1 : p.1 = a.1
  · have e1 : V.int (p.1 : Int) = V.int (a.1 : Int) := by rw [c1]
    by_cases c2 : a = (0, 0)
    · rw [if_neg (fun z => z.2 c2), Bool.and_eq_true, c1] at f
      exact absurd (of_decide_eq_true f.1) (Nat.lt_irrefl _)
    · rw [if_pos ⟨c1, c2⟩] at f
      have f := of_decide_eq_true f
      have e2 : (!decide (a = (0, 0))) = true := notT (decide_eq_false c2)
      fail "r"
      have e3 : V.int (p.2 : Int) = V.int ((a.2 : Int) + 1) := by rw [f]; rfl
      dsimp only [tC]
      refine nePl ha hn ?_
      fail "r"
      rw [decide_eq_true e3]
      exact q _ (by fail "c")
  · have e1 : ¬ V.int (p.1 : Int) = V.int (a.1 : Int) := fun z => c1 (Int.ofNat.inj (V.int.inj z))
    rw [if_neg (fun z => c1 z.1), Bool.and_eq_true] at f
    have f1 := of_decide_eq_true f.1
    have f2 := of_decide_eq_true f.2
    have e3 : V.int (p.2 : Int) = V.int 1 := by rw [f2]; rfl
    fail "r"
    rw [decide_eq_true e3]
    exact q _ (by fail "c")
def sp_is_row (K : PySem.W.Frag) : Sp := sp1 fun v H Q => ∃ (l : Addr) (xs : List V) (ts : List Thing), v = .ref l ∧ H l = some (.lst xs) ∧ DtA K H xs (ts.map thD) ∧ RowOk ts ∧ ∀ H', L2.Same H H' → Q (.bl true) H'
theorem sc_is_row : FnScope ["thing", "ahead", "one"] ["thing"] (defScope s_is_row) := ⟨rfl, rfl, rfl, by decide +kernel, rfl, by decide +kernel, by decide +kernel⟩
theorem k_is_row (B : Bag w K mg base) : Kept P w K mg base "is_row" 7 ["thing"] (sp_is_row K) := by
  obtain ⟨fd, F⟩ := B.c.def_ 31 (d := d_is_row) rfl
  obtain ⟨f_is_entry, fd_is_entry, g_is_entry, kp_is_entry, b_is_entry, o_is_entry⟩ := k_is_entry (P := P) B
  obtain ⟨f_is_place, fd_is_place, g_is_place, kp_is_place, b_is_place, o_is_place⟩ := k_is_place (P := P) B
  obtain ⟨f_goes_on, fd_goes_on, g_goes_on, kp_goes_on, b_goes_on, o_goes_on⟩ := k_goes_on (P := P) B
  have n_isinstance := He.free_ok B.X B.G (B.c.fact 77 (f := .free "isinstance") rfl)
  have n_len := He.free_ok B.X B.G (B.c.fact 81 (f := .free "len") rfl)
  have n_list := He.free_ok B.X B.G (B.c.fact 84 (f := .free "list") rfl)
  have n_tuple := He.free_ok B.X B.G (B.c.fact 83 (f := .free "tuple") rfl)
  have c_NOWHERE := He.glo_ok B.X B.G (B.c.fact 74 (f := .glo "NOWHERE") rfl)
  have g0 := He.glo_ok B.X B.G (B.c.fact 31 (f := .glo "is_row") rfl)
  refine ⟨_, fd, g0, F.kp, F.bindsN (fun _ _ _ _ _ _ us hl => match us, hl with | [_], _ => rfl), ?_⟩
  refine F.ok sc_is_row (fun vs H Q E h => len1 h) (fun cdv A outer s H vs Q E hr h => ?_)
  have nd := sc_is_row.nd
  have hu := hu_of hr
  refine' ⟨_, PSs.nox ?hT, ?hR⟩
  case hT => exact (pss_cons (ps_if (pt_not (pt_val (pe_callB call_isi rfl n_isinstance (by decide +kernel) (pa_cons (pv 0) (pa_cons (pe_bltn (v := .ty "list") rfl n_list boot_list rfl) pa_nil))))) (pss_one (ps_ret (pe_bl))) pss_nil)
      (pss_cons (ps_set (i := 1) nd rfl (Or.inl rfl) (pe_glob (v := .ref (He.ga K "NOWHERE")) rfl c_NOWHERE rfl))
      (pss_cons (ps_for PassesOwn.never rfl (pi_list (pv 0)) (pg_name (i := 2) nd rfl (Or.inl rfl)) (pss_cons (ps_if (PW.pt (pw_or (pt_not (pt_val (pe_callB call_isi rfl n_isinstance (by decide +kernel) (pa_cons (pv 2) (pa_cons (pe_bltn (v := .ty "tuple") rfl n_tuple boot_tuple rfl) pa_nil))))) (pw_or (pt_cmpR op_ne (pe_callB call_len_seq rfl n_len (by decide +kernel) (pa_cons (pv 2) pa_nil)) (pe_int) (nomark _)) (pw_or (pt_not (pt_val (pe_call o_is_place (hr.mono (by decide)) rfl g_is_place kp_is_place b_is_place .nil pass0 (pa_cons (pe_ix ix_tup (pv 2) (pe_int) (fun _ _ => rfl)) pa_nil)))) (pw_or1 (pt_not (pt_val (pe_call o_is_entry hr rfl g_is_entry kp_is_entry b_is_entry .nil pass0 (pa_cons (pe_ix ix_tup (pv 2) (pe_int) (fun _ _ => rfl)) pa_nil))))))))) (pss_one (ps_ret (pe_bl))) pss_nil)
      (pss_cons (ps_if (pt_not (pt_val (pe_call o_goes_on (hr.mono (by decide)) rfl g_goes_on kp_goes_on b_goes_on .nil pass0 (pa_cons (pv 1) (pa_cons (pe_ix ix_tup (pv 2) (pe_int) (fun _ _ => rfl)) pa_nil))))) (pss_one (ps_ret (pe_bl))) pss_nil)
      (pss_one (ps_set (i := 1) nd rfl (Or.inl rfl) (pe_ix ix_tup (pv 2) (pe_int) (fun _ _ => rfl)))))))
      (pss_one (ps_ret (pe_bl))))))
  clear hr hu nd g0 F fd o_is_entry b_is_entry kp_is_entry g_is_entry fd_is_entry o_is_place b_is_place kp_is_place g_is_place fd_is_place o_goes_on b_goes_on kp_goes_on g_goes_on fd_goes_on n_isinstance n_len n_list n_tuple c_NOWHERE
  try dsimp only [cxOf, Cx.nox, Cx.wish]
  obtain ⟨_, rfl, l, xs, ts, rfl, hl, hd, ok, q⟩ := h
  fail "r"
  refine for_it (walk_list (xs := xs)) (fun i σ H' => L2.Same H H' ∧ ∃ (a : Place) (av : V) (u : Option V), σ = [some (.ref l), some av, u] ∧ Dt K H' av (plD a) ∧ chain a (ts.drop i))
    ⟨L2.Same.refl _, (0, 0), _, none, rfl, dtPl (B.nowhere H) rfl rfl, ok.2.1⟩ (fun _ _ _ _ h => by have := h.1; fail "c") (fun i y σ H2 H3 hi p' z => ?_) (fun σ H2 p' => ?_)
  · obtain ⟨rfl, z⟩ := z
    obtain ⟨s2, a, av, u, rfl, da, hc⟩ := p'
    obtain ⟨t, ht, dt⟩ := hd.atM z
    rw [drop_at ht] at hc
    have tk := ok.1 t (List.mem_of_getElem? ht)
    have dt2 := dtS s2 dt
    obtain ⟨lt, x1, x2, rfl, hlt, d1, d2⟩ := th_inv dt2
    have hf := hc.1
    have tk2 := tk.2
    fail "r"
    exact hc.2
  · obtain ⟨s2, a, av, u, rfl, da, hc⟩ := p'
    exact q _ s2
def sp_state_of (K : PySem.W.Frag) : Sp := sp1 fun v H Q => ∃ (l : Addr) (xs : List V) (ts : List Thing), v = .ref l ∧ H l = some (.lst xs) ∧ DtA K H xs (ts.map thD) ∧ RowOk ts ∧
  ∀ (t w1 s1 : Addr) (H' : Hp), L2.Same H H' → H' t = some (.tup [.ref w1, .ref s1]) → Web K H' w1 (ndsD (stateM ts).1) → Web K H' s1 (sesD (stateM ts).2) → Q (.ref t) H'
theorem sc_state_of : FnScope ["row", "state", "place", "entry", "answer", "events"] ["row"] (defScope s_state_of) := ⟨rfl, rfl, rfl, by decide +kernel, rfl, by decide +kernel, by decide +kernel⟩
theorem k_state_of (B : Bag w K mg base) : Kept P w K mg base "state_of" 9 ["row"] (sp_state_of K) := by
  obtain ⟨fd, F⟩ := B.c.def_ 32 (d := d_state_of) rfl
  obtain ⟨f_first_state, fd_first_state, g_first_state, kp_first_state, b_first_state, o_first_state⟩ := k_first_state (P := P) B
  obtain ⟨f_done, fd_done, g_done, kp_done, b_done, o_done⟩ := k_done (P := P) B
  have g0 := He.glo_ok B.X B.G (B.c.fact 32 (f := .glo "state_of") rfl)
  refine ⟨_, fd, g0, F.kp, F.bindsN (fun _ _ _ _ _ _ us hl => match us, hl with | [_], _ => rfl), ?_⟩
  refine F.ok sc_state_of (fun vs H Q E h => len1 h) (fun cdv A outer s H vs Q E hr h => ?_)
  have nd := sc_state_of.nd
  have hu := hu_of hr
  refine' ⟨_, PSs.nox ?hT, ?hR⟩
  case hT => exact (pss_cons (ps_set (i := 1) nd rfl (Or.inl rfl) (pe_call0 o_first_state (hr.mono (by decide)) rfl g_first_state kp_first_state b_first_state .nil pass0))
      (pss_cons (ps_for PassesOwn.never rfl (pi_list (pv 0)) (pg_tup rfl (pgs_cons (pg_name (i := 2) nd rfl (Or.inl rfl)) (pgs_cons (pg_name (i := 3) nd rfl (Or.inl rfl)) pgs_nil))) (pss_one (ps_asg (pe_callN o_done hr rfl g_done kp_done b_done pass0 (pa_cons (pv 1) (pa_cons (pv 3) pa_nil)) (pk_cons (pv 2) pk_nil)) (pg_tup rfl (pgs_cons (pg_name (i := 1) nd rfl (Or.inl rfl)) (pgs_cons (pg_name (i := 4) nd rfl (Or.inl rfl)) (pgs_cons (pg_name (i := 5) nd rfl (Or.inl rfl)) pgs_nil)))))))
      (pss_one (ps_ret (pv 1)))))
  clear hr hu nd g0 F fd o_first_state b_first_state kp_first_state g_first_state fd_first_state o_done b_done kp_done g_done fd_done
  try dsimp only [cxOf, Cx.nox, Cx.wish]
  obtain ⟨_, rfl, l, xs, ts, rfl, hl, hd, ok, q⟩ := h
  fail "r"
  refine for_it (walk_list (xs := xs)) (fun i σ Hi => L2.Same H Hi ∧ ∃ (t w1 s1 : Addr) (u1 u2 u3 u4 : Option V), σ = [some (.ref l), some (.ref t), u1, u2, u3, u4] ∧ Hi t = some (.tup [.ref w1, .ref s1]) ∧ Web K Hi w1 (ndsD (stateM (ts.take i)).1) ∧ Web K Hi s1 (sesD (stateM (ts.take i)).2))
    ⟨by fail "c", _, _, _, none, none, none, none, rfl, by fail "c", by fail "c", by fail "c"⟩ (fun _ _ _ _ h => by have := h.1; fail "c") (fun i y σ H2 H3 hi p' z => ?_) (fun σ H2 p' => ?_)
  · obtain ⟨rfl, z⟩ := z
    obtain ⟨s2, t, w1, s1, u1, u2, u3, u4, rfl, ht, hw, hs⟩ := p'
    obtain ⟨th, hth, dth⟩ := hd.atM z
    have tk := ok.1 th (List.mem_of_getElem? hth)
    obtain ⟨lt, x1, x2, rfl, hlt, d1, d2⟩ := th_inv (dtS s2 dth)
    have tk2 := tk.2
    have sk := stateM_ok (ts := ts.take i) fun t ht => ok.1 t (List.mem_of_mem_take ht)
    have il : i < 100 := by have := ok.2.2; have := hd.lenM; omega
    have hil : (ts.take i).length ≤ i := by rw [List.length_take]; omega
    have okn : NdsOk (6 * (ts.take i).length) (stateM (ts.take i)).1 := sk.ok
    have hsl : (stateM (ts.take i)).2.length ≤ 1000 := Nat.le_trans sk.ses.size (by omega)
    have hbb : 6 * (ts.take i).length + 7 < big := big_lt (m := 1000) (by omega)
    have em : stateM (ts.take (i + 1)) = doneM ((stateM (ts.take i)).1, (stateM (ts.take i)).2) th.2 th.1 := by
      rw [take_at hth]
      unfold stateM
      rw [List.foldl_append]
      rfl
    rw [em]
    fail "r"
    done
  · obtain ⟨s2, t, w1, s1, u1, u2, u3, u4, rfl, ht, hw, hs⟩ := p'
    rw [hd.lenM, List.take_length] at hw hs
    fail "r"
    exact q _ _ _ _ s2 ht hw hs
end

section
variable {P : Program} {w : World} {K : PySem.W.Frag} {mg : Str → Option Value} {base : Heap}
def sp_worth_text (K : PySem.W.Frag) : Sp := sp1 fun v H Q => (∃ c : Option Nat, Dt K H v (cntD c) ∧ CntOk c ∧ Q (.str (cntT c)) H) ∨ (∃ b : Bool, v = .bl b ∧ Q (.str (tbT b)) H) ∨ ∃ o : Option Str, Dt K H v (ownD o) ∧ Q (.str (ownT o)) H
theorem sc_worth_text : FnScope ["worth"] ["worth"] (defScope s_worth_text) := ⟨rfl, rfl, rfl, by decide +kernel, rfl, by decide +kernel, by decide +kernel⟩
theorem k_worth_text (B : Bag w K mg base) : Kept P w K mg base "worth_text" 1 ["worth"] (sp_worth_text K) := by
  obtain ⟨fd, F⟩ := B.c.def_ 33 (d := d_worth_text) rfl
  have n_bool := He.free_ok B.X B.G (B.c.fact 79 (f := .free "bool") rfl)
  have n_isinstance := He.free_ok B.X B.G (B.c.fact 77 (f := .free "isinstance") rfl)
  have n_str := He.free_ok B.X B.G (B.c.fact 80 (f := .free "str") rfl)
  obtain ⟨t_NONE, c_NONE⟩ := He.str_ok B.X B.G (B.c.fact 97 (f := .str "NONE" "-") rfl)
  have g0 := He.glo_ok B.X B.G (B.c.fact 33 (f := .glo "worth_text") rfl)
  refine ⟨_, fd, g0, F.kp, F.bindsN (fun _ _ _ _ _ _ us hl => match us, hl with | [_], _ => rfl), ?_⟩
  refine F.ok sc_worth_text (fun vs H Q E h => len1 h) (fun cdv A outer s H vs Q E hr h => ?_)
  have nd := sc_worth_text.nd
  have hu := hu_of hr
  refine' ⟨_, PSs.nox ?hT, ?hR⟩
  case hT => exact (pss_cons (ps_if (pt_cmp (pc_isN (pv 0))) (pss_one (ps_ret (pe_glob (v := .str "-") rfl c_NONE ⟨_, rfl⟩))) pss_nil)
      (pss_cons (ps_if (pt_val (pe_callB call_isi rfl n_isinstance (by decide +kernel) (pa_cons (pv 0) (pa_cons (pe_bltn (v := .ty "bool") rfl n_bool boot_bool rfl) pa_nil)))) (pss_one (ps_ret (pe_ifExp (pt_val (pv 0)) (pe_str) (pe_str)))) pss_nil)
      (pss_one (ps_ret (pe_callTy call_strN rfl n_str boot_str (pa_cons (pv 0) pa_nil))))))
  clear hr hu nd g0 F fd n_bool n_isinstance n_str c_NONE t_NONE
  try dsimp only [cxOf, Cx.nox, Cx.wish]
  obtain ⟨_, rfl, h⟩ := h
  rcases h with ⟨c, d, ok, q⟩ | ⟨b, rfl, q⟩ | ⟨o, d, q⟩
  · obtain rfl := cnt_inv d
    cases c with
    | none => fail "r"
    | some n =>
      have hn : n < big := ok
      fail "r"
      exact Or.inr ⟨n, rfl, hn, q⟩
  · cases b with
    | true => fail "r"
    | false => fail "r"
  · obtain rfl := own_inv d
    cases o with
    | none => fail "r"
    | some x =>
      fail "r"
      exact Or.inl ⟨x, rfl, q⟩
def sp_long_text (K : PySem.W.Frag) : Sp := sp1 fun v H Q => ∃ x : Str, v = .str x ∧ x.length ≤ 40 ∧ Q (.str (bj [num x.length, x])) H
theorem sc_long_text : FnScope ["text"] ["text"] (defScope s_long_text) := ⟨rfl, rfl, rfl, by decide +kernel, rfl, by decide +kernel, by decide +kernel⟩
theorem k_long_text (B : Bag w K mg base) : Kept P w K mg base "long_text" 1 ["text"] (sp_long_text K) := by
  obtain ⟨fd, F⟩ := B.c.def_ 34 (d := d_long_text) rfl
  have n_len := He.free_ok B.X B.G (B.c.fact 81 (f := .free "len") rfl)
  have n_str := He.free_ok B.X B.G (B.c.fact 80 (f := .free "str") rfl)
  have g0 := He.glo_ok B.X B.G (B.c.fact 34 (f := .glo "long_text") rfl)
  refine ⟨_, fd, g0, F.kp, F.bindsN (fun _ _ _ _ _ _ us hl => match us, hl with | [_], _ => rfl), ?_⟩
  refine F.ok sc_long_text (fun vs H Q E h => len1 h) (fun cdv A outer s H vs Q E hr h => ?_)
  have nd := sc_long_text.nd
  have hu := hu_of hr
  refine' ⟨_, PSs.nox ?hT, ?hR⟩
  case hT => exact (pss_one (ps_ret (pe_op op_add_str (pe_op op_add_str (pe_callTy call_numN rfl n_str boot_str (pa_cons (pe_callB call_len_str rfl n_len (by decide +kernel) (pa_cons (pv 0) pa_nil)) pa_nil)) (pe_str)) (pv 0))))
  clear hr hu nd g0 F fd n_len n_str
  try dsimp only [cxOf, Cx.nox, Cx.wish]
  obtain ⟨_, rfl, x, rfl, hx, q⟩ := h
  have h1 : x.length ≤ sizeLine := by fail "z"
  have h2 := small_big hx
  have h3 := num_le0 h2
  fail "r"
  done
def sp_place_text (K : PySem.W.Frag) : Sp := sp1 fun v H Q => ∃ p : Place, Dt K H v (plD p) ∧ PlaceOk p ∧ Q (.str (plT p)) H
theorem sc_place_text : FnScope ["place"] ["place"] (defScope s_place_text) := ⟨rfl, rfl, rfl, by decide +kernel, rfl, by decide +kernel, by decide +kernel⟩
theorem k_place_text (B : Bag w K mg base) : Kept P w K mg base "place_text" 1 ["place"] (sp_place_text K) := by
  obtain ⟨fd, F⟩ := B.c.def_ 35 (d := d_place_text) rfl
  have g0 := He.glo_ok B.X B.G (B.c.fact 35 (f := .glo "place_text") rfl)
  refine ⟨_, fd, g0, F.kp, F.bindsN (fun _ _ _ _ _ _ us hl => match us, hl with | [_], _ => rfl), ?_⟩
  refine F.ok sc_place_text (fun vs H Q E h => len1 h) (fun cdv A outer s H vs Q E hr h => ?_)
  have nd := sc_place_text.nd
  have hu := hu_of hr
  refine' ⟨_, PSs.nox ?hT, ?hR⟩
  case hT => exact (pss_one (ps_ret (pe_joined (PJ.cons (pe_fmtI (pe_ix ix_tup (pv 0) (pe_int) (fun _ _ => rfl))) (PJ.cons (pe_str) (PJ.cons (pe_fmtI (pe_ix ix_tup (pv 0) (pe_int) (fun _ _ => rfl))) PJ.nil))))))
  clear hr hu nd g0 F fd
  try dsimp only [cxOf, Cx.nox, Cx.wish]
  obtain ⟨_, rfl, p, d, ok, q⟩ := h
  obtain ⟨l, rfl, hd⟩ := plD_inv d
  have h1 := ok.1
  have h2 := ok.2
  have h3 := num_le0 h1
  have h4 := num_le0 h2
  have e0 : (Str.empty : Str).length = 0 := rfl
  fail "r"
  show Q (.str (Str.empty ++ num p.1 ++ "." ++ num p.2)) H
  rw [PySem.Str.empty_append]
  exact q
def sp_deed_text0 (K : PySem.W.Frag) : Sp := sp1 fun v H Q => ∃ p : Pl, Dt K H v p.d ∧ p.Ok ∧ ∀ H', L2.Same H H' → Q (.str (bj (tokP p))) H'
theorem sc_deed_text : FnScope ["deed", "word", "rest", "path", "text", "own", "numbered", "count", "one"] ["deed"] (defScope s_deed_text) := ⟨rfl, rfl, rfl, by decide +kernel, rfl, by decide +kernel, by decide +kernel⟩
theorem k_deed_text0 (B : Bag w K mg base) : Kept P w K mg base "deed_text" 2 ["deed"] (sp_deed_text0 K) := by
  obtain ⟨fd, F⟩ := B.c.def_ 36 (d := d_deed_text) rfl
  obtain ⟨f_long_text, fd_long_text, g_long_text, kp_long_text, b_long_text, o_long_text⟩ := k_long_text (P := P) B
  obtain ⟨f_worth_text, fd_worth_text, g_worth_text, kp_worth_text, b_worth_text, o_worth_text⟩ := k_worth_text (P := P) B
  have n_isinstance := He.free_ok B.X B.G (B.c.fact 77 (f := .free "isinstance") rfl)
  have n_str := He.free_ok B.X B.G (B.c.fact 80 (f := .free "str") rfl)
  have g0 := He.glo_ok B.X B.G (B.c.fact 36 (f := .glo "deed_text") rfl)
  refine ⟨_, fd, g0, F.kp, F.bindsN (fun _ _ _ _ _ _ us hl => match us, hl with | [_], _ => rfl), ?_⟩
  refine F.ok sc_deed_text (fun vs H Q E h => len1 h) (fun cdv A outer s H vs Q E hr h => ?_)
  have nd := sc_deed_text.nd
  have hu := hu_of hr
  refine' ⟨_, PSs.nox ?hT, ?hR⟩
  case hT => exact (pss_cons (ps_asg (pv 0) (pg_starA (i := 1) rfl (pgs_cons (pg_name (i := 1) nd rfl (Or.inl rfl)) (pgs_cons (pg_name (i := 2) nd rfl (Or.inl rfl)) pgs_nil))))
      (pss_cons (ps_if (pt_cmpR op_eq (pv 1) (pe_str) (nomark _)) (pss_one ps_never) pss_nil)
      (pss_cons (ps_if (pt_cmpR op_eq (pv 1) (pe_str) (nomark _)) (pss_cons (ps_asg (pv 2) (pg_unl rfl (pgs_cons (pg_name (i := 3) nd rfl (Or.inl rfl)) (pgs_cons (pg_name (i := 4) nd rfl (Or.inl rfl)) (pgs_cons (pg_name (i := 5) nd rfl (Or.inl rfl)) (pgs_cons (pg_name (i := 6) nd rfl (Or.inl rfl)) pgs_nil))))))
      (pss_one (ps_ret (pe_bm PySem.F.plainAttrs_str PySem.F.slot_str_join PySem.F.type_str_join mt_joinA (pe_str) (pa_cons (pe_lstA (pa_cons (pv 1) (pa_cons (pv 3) (pa_cons (pe_call o_worth_text hr rfl g_worth_text kp_worth_text b_worth_text .nil pass0 (pa_cons (pv 5) pa_nil)) (pa_cons (pe_call o_worth_text hr rfl g_worth_text kp_worth_text b_worth_text .nil pass0 (pa_cons (pv 6) pa_nil)) (pa_cons (pe_call o_long_text hr rfl g_long_text kp_long_text b_long_text .nil pass0 (pa_cons (pv 4) pa_nil)) pa_nil)))))) pa_nil))))) pss_nil)
      (pss_cons (ps_if (pt_cmpR op_eq (pv 1) (pe_str) (nomark _)) (pss_cons (ps_asg (pv 2) (pg_unl rfl (pgs_cons (pg_name (i := 3) nd rfl (Or.inl rfl)) (pgs_cons (pg_name (i := 4) nd rfl (Or.inl rfl)) (pgs_cons (pg_name (i := 7) nd rfl (Or.inl rfl)) pgs_nil)))))
      (pss_one (ps_ret (pe_bm PySem.F.plainAttrs_str PySem.F.slot_str_join PySem.F.type_str_join mt_joinA (pe_str) (pa_cons (pe_lstA (pa_cons (pv 1) (pa_cons (pv 3) (pa_cons (pe_call o_worth_text hr rfl g_worth_text kp_worth_text b_worth_text .nil pass0 (pa_cons (pv 7) pa_nil)) (pa_cons (pe_call o_long_text hr rfl g_long_text kp_long_text b_long_text .nil pass0 (pa_cons (pv 4) pa_nil)) pa_nil))))) pa_nil))))) pss_nil)
      (pss_one (ps_ret (pe_bm PySem.F.plainAttrs_str PySem.F.slot_str_join PySem.F.type_str_join mt_joinA (pe_str) (pa_cons (pe_op op_catLA (pe_lstA (pa_cons (pv 1) pa_nil)) (pe_lc (own := [("one", 8)]) (g := gName 8) (tt := tYes) (te := tIf (tB (tCB (rIsi K) (tCons (tVar 8) (tCons (tC (.ty "str")) tNil)))) (tVar 8) (tCall (sp_worth_text K) [] E0 (tCons (tVar 8) tNil))) rfl nd (pi_list (pv 2)) (blkOk_by (N := ["deed", "word", "rest", "path", "text", "own", "numbered", "count", "one"]) (sc := defScope s_deed_text) (by decide +kernel)) (fun _ _ _ _ _ => (pg_name (i := 8) nd rfl (Or.inl rfl))) (fun _ _ _ _ _ => pts_nil) (fun _ _ _ _ _ => (pe_ifExp (pt_val (pe_callB call_isi rfl n_isinstance (by decide +kernel) (pa_cons (pv 8) (pa_cons (pe_bltn (v := .ty "str") rfl n_str boot_str rfl) pa_nil)))) (pv 8) (pe_call o_worth_text hr rfl g_worth_text kp_worth_text b_worth_text .nil pass0 (pa_cons (pv 8) pa_nil)))))) pa_nil))))))))
  clear hr hu nd g0 F fd o_long_text b_long_text kp_long_text g_long_text fd_long_text o_worth_text b_worth_text kp_worth_text g_worth_text fd_worth_text n_isinstance n_str
  try dsimp only [cxOf, Cx.nox, Cx.wish]
  obtain ⟨_, rfl, p, d, ok, q⟩ := h
  cases p with
  | make x t o n =>
    obtain ⟨l, rfl, d2⟩ := pl_make d
    obtain ⟨hp, hr, ht, hn⟩ := ok
    have h1 := hp.len
    have h2 := ht.1
    have h3 := num_le0 (small_big h2)
    have h4 := len_tb o
    have h5 := len_tb n
    have h6 := len_s (x := "make") 4
    have h7 := bj_le [num t.length, t]
    simp only [List.map_cons, List.map_nil, List.sum_cons, List.sum_nil, List.length_cons, List.length_nil] at h7
    have e : Nm (Str.join " " ["make", x, tbT o, tbT n, bj [num t.length, t]]) (bj (tokP (.make x t o n))) := ⟨rfl⟩
    fail "r"
    refine Or.inr (Or.inl ⟨o, rfl, ?_⟩)
    fail "r"
    refine Or.inr (Or.inl ⟨n, rfl, ?_⟩)
    fail "r"
    exact q _ (by fail "c")
  | put x t c =>
    obtain ⟨l, c', rfl, d2, dc⟩ := pl_put d
    obtain ⟨hp, ht, hc⟩ := ok
    have h1 := hp.len
    have h2 := ht.1
    have h3 := num_le0 (small_big h2)
    have h4 := len_cnt hc
    have h6 := len_s (x := "put") 4
    have h7 := bj_le [num t.length, t]
    simp only [List.map_cons, List.map_nil, List.sum_cons, List.sum_nil, List.length_cons, List.length_nil] at h7
    have e : Nm (Str.join " " ["put", x, cntT c, bj [num t.length, t]]) (bj (tokP (.put x t c))) := ⟨rfl⟩
    fail "r"
    refine Or.inl ⟨c, by fail "c", hc, ?_⟩
    fail "r"
    exact q _ (by fail "c")
  | drop x c =>
    obtain ⟨l, c', rfl, d2, dc⟩ := pl_drop d
    obtain ⟨hp, hr, hc⟩ := ok
    have h1 := hp.len
    have h4 := len_cnt hc
    have h6 := len_s (x := "drop") 4
    have e : Nm (Str.join " " ["drop", x, cntT c]) (bj (tokP (.drop x c))) := ⟨rfl⟩
    fail "r"
    refine lc_it (walk_list (xs := [V.str x, c'])) (fun i Hi => L2.Same H'_1 Hi ∧ Hi D = some (.lst (([x, cntT c].take i).map V.str))) ⟨sameUpd (by assumption), upd_same⟩ (fun _ _ _ h => by have := h.1; fail "c") (fun i y H2 H3 hi p' z => ?_) (fun H2 p' => ?_)
    · obtain ⟨rfl, z⟩ := z
      obtain ⟨s2, hD⟩ := p'
      match i, z, hD, hi with
      | 0, z, hD, _ =>
        obtain rfl := Option.some.inj z
        have hD : H3 D = some (HO.lst []) := hD
        fail "r"
        exact upd_same
      | 1, z, hD, _ =>
        obtain rfl := Option.some.inj z
        have hD : H3 D = some (HO.lst [V.str x]) := hD
        cases c with
        | none =>
          obtain rfl := dc.n
          fail "r"
          refine Or.inl ⟨none, .non, trivial, ?_⟩
          fail "r"
          exact upd_same
        | some n =>
          obtain rfl := dc.i
          fail "r"
          refine Or.inl ⟨some n, .int _, hc, ?_⟩
          fail "r"
          exact upd_same
    · obtain ⟨s2, hD⟩ := p'
      have hD : H2 D = some (HO.lst [V.str x, V.str (cntT c)]) := hD
      fail "r"
      exact q _ (by fail "c")
  | see x c =>
    obtain ⟨l, c', rfl, d2, dc⟩ := pl_see d
    obtain ⟨hp, hc⟩ := ok
    have h1 := hp.len
    have h4 := len_cnt hc
    have h6 := len_s (x := "see") 4
    have e : Nm (Str.join " " ["see", x, cntT c]) (bj (tokP (.see x c))) := ⟨rfl⟩
    fail "r"
    refine lc_it (walk_list (xs := [V.str x, c'])) (fun i Hi => L2.Same H'_1 Hi ∧ Hi D = some (.lst (([x, cntT c].take i).map V.str))) ⟨sameUpd (by assumption), upd_same⟩ (fun _ _ _ h => by have := h.1; fail "c") (fun i y H2 H3 hi p' z => ?_) (fun H2 p' => ?_)
    · obtain ⟨rfl, z⟩ := z
      obtain ⟨s2, hD⟩ := p'
      match i, z, hD, hi with
      | 0, z, hD, _ =>
        obtain rfl := Option.some.inj z
        have hD : H3 D = some (HO.lst []) := hD
        fail "r"
        exact upd_same
      | 1, z, hD, _ =>
        obtain rfl := Option.some.inj z
        have hD : H3 D = some (HO.lst [V.str x]) := hD
        cases c with
        | none =>
          obtain rfl := dc.n
          fail "r"
          refine Or.inl ⟨none, .non, trivial, ?_⟩
          fail "r"
          exact upd_same
        | some n =>
          obtain rfl := dc.i
          fail "r"
          refine Or.inl ⟨some n, .int _, hc, ?_⟩
          fail "r"
          exact upd_same
    · obtain ⟨s2, hD⟩ := p'
      have hD : H2 D = some (HO.lst [V.str x, V.str (cntT c)]) := hD
      fail "r"
      exact q _ (by fail "c")
def sp_deed_text (K : PySem.W.Frag) : Sp := sp1 fun v H Q => ∃ d : De, Dt K H v d.d ∧ d.Ok ∧ ∀ H', L2.Same H H' → Q (.str (bj (tokD d))) H'
theorem k_deed_text (B : Bag w K mg base) : Kept P w K mg base "deed_text" 3 ["deed"] (sp_deed_text K) := by
  obtain ⟨fd, F⟩ := B.c.def_ 36 (d := d_deed_text) rfl
  obtain ⟨f_deed_text, fd_deed_text, g_deed_text, kp_deed_text, b_deed_text, o_deed_text⟩ := k_deed_text0 (P := P) B
  obtain ⟨f_long_text, fd_long_text, g_long_text, kp_long_text, b_long_text, o_long_text⟩ := k_long_text (P := P) B
  obtain ⟨f_worth_text, fd_worth_text, g_worth_text, kp_worth_text, b_worth_text, o_worth_text⟩ := k_worth_text (P := P) B
  have n_isinstance := He.free_ok B.X B.G (B.c.fact 77 (f := .free "isinstance") rfl)
  have n_len := He.free_ok B.X B.G (B.c.fact 81 (f := .free "len") rfl)
  have n_str := He.free_ok B.X B.G (B.c.fact 80 (f := .free "str") rfl)
  have g0 := He.glo_ok B.X B.G (B.c.fact 36 (f := .glo "deed_text") rfl)
  refine ⟨_, fd, g0, F.kp, F.bindsN (fun _ _ _ _ _ _ us hl => match us, hl with | [_], _ => rfl), ?_⟩
  refine F.ok sc_deed_text (fun vs H Q E h => len1 h) (fun cdv A outer s H vs Q E hr h => ?_)
  have nd := sc_deed_text.nd
  have hu := hu_of hr
  refine' ⟨_, PSs.nox ?hT, ?hR⟩
  case hT => exact (pss_cons (ps_asg (pv 0) (pg_starA (i := 1) rfl (pgs_cons (pg_name (i := 1) nd rfl (Or.inl rfl)) (pgs_cons (pg_name (i := 2) nd rfl (Or.inl rfl)) pgs_nil))))
      (pss_cons (ps_if (pt_cmpR op_eq (pv 1) (pe_str) (nomark _)) (pss_one (ps_ret (pe_bm PySem.F.plainAttrs_str PySem.F.slot_str_join PySem.F.type_str_join mt_joinA (pe_str) (pa_cons (pe_op op_catLA (pe_lstA (pa_cons (pv 1) (pa_cons (pe_callTy call_numN rfl n_str boot_str (pa_cons (pe_callB call_len_seq rfl n_len (by decide +kernel) (pa_cons (pe_ix ix_list (pv 2) (pe_int) (fun _ _ => rfl)) pa_nil)) pa_nil)) pa_nil))) (pe_lc (own := [("one", 8)]) (g := gName 8) (tt := tYes) rfl nd (pi_tup (pe_ix ix_list (pv 2) (pe_int) (fun _ _ => rfl))) (blkOk_by (N := ["deed", "word", "rest", "path", "text", "own", "numbered", "count", "one"]) (sc := defScope s_deed_text) (by decide +kernel)) (fun _ _ _ _ _ => (pg_name (i := 8) nd rfl (Or.inl rfl))) (fun _ _ _ _ _ => pts_nil) (fun _ _ _ _ _ => (pe_call o_deed_text hr rfl g_deed_text kp_deed_text b_deed_text .nil pass0 (pa_cons (pv 8) pa_nil))))) pa_nil)))) pss_nil)
      (pss_cons (ps_if (pt_cmpR op_eq (pv 1) (pe_str) (nomark _)) (pss_cons (ps_asg (pv 2) (pg_unl rfl (pgs_cons (pg_name (i := 3) nd rfl (Or.inl rfl)) (pgs_cons (pg_name (i := 4) nd rfl (Or.inl rfl)) (pgs_cons (pg_name (i := 5) nd rfl (Or.inl rfl)) (pgs_cons (pg_name (i := 6) nd rfl (Or.inl rfl)) pgs_nil))))))
      (pss_one (ps_ret (pe_bm PySem.F.plainAttrs_str PySem.F.slot_str_join PySem.F.type_str_join mt_joinA (pe_str) (pa_cons (pe_lstA (pa_cons (pv 1) (pa_cons (pv 3) (pa_cons (pe_call o_worth_text (hr.mono (by decide)) rfl g_worth_text kp_worth_text b_worth_text .nil pass0 (pa_cons (pv 5) pa_nil)) (pa_cons (pe_call o_worth_text (hr.mono (by decide)) rfl g_worth_text kp_worth_text b_worth_text .nil pass0 (pa_cons (pv 6) pa_nil)) (pa_cons (pe_call o_long_text (hr.mono (by decide)) rfl g_long_text kp_long_text b_long_text .nil pass0 (pa_cons (pv 4) pa_nil)) pa_nil)))))) pa_nil))))) pss_nil)
      (pss_cons (ps_if (pt_cmpR op_eq (pv 1) (pe_str) (nomark _)) (pss_cons (ps_asg (pv 2) (pg_unl rfl (pgs_cons (pg_name (i := 3) nd rfl (Or.inl rfl)) (pgs_cons (pg_name (i := 4) nd rfl (Or.inl rfl)) (pgs_cons (pg_name (i := 7) nd rfl (Or.inl rfl)) pgs_nil)))))
      (pss_one (ps_ret (pe_bm PySem.F.plainAttrs_str PySem.F.slot_str_join PySem.F.type_str_join mt_joinA (pe_str) (pa_cons (pe_lstA (pa_cons (pv 1) (pa_cons (pv 3) (pa_cons (pe_call o_worth_text (hr.mono (by decide)) rfl g_worth_text kp_worth_text b_worth_text .nil pass0 (pa_cons (pv 7) pa_nil)) (pa_cons (pe_call o_long_text (hr.mono (by decide)) rfl g_long_text kp_long_text b_long_text .nil pass0 (pa_cons (pv 4) pa_nil)) pa_nil))))) pa_nil))))) pss_nil)
      (pss_one (ps_ret (pe_bm PySem.F.plainAttrs_str PySem.F.slot_str_join PySem.F.type_str_join mt_joinA (pe_str) (pa_cons (pe_op op_catLA (pe_lstA (pa_cons (pv 1) pa_nil)) (pe_lc (own := [("one", 8)]) (g := gName 8) (tt := tYes) (te := tIf (tB (tCB (rIsi K) (tCons (tVar 8) (tCons (tC (.ty "str")) tNil)))) (tVar 8) (tCall (sp_worth_text K) [] E0 (tCons (tVar 8) tNil))) rfl nd (pi_list (pv 2)) (blkOk_by (N := ["deed", "word", "rest", "path", "text", "own", "numbered", "count", "one"]) (sc := defScope s_deed_text) (by decide +kernel)) (fun _ _ _ _ _ => (pg_name (i := 8) nd rfl (Or.inl rfl))) (fun _ _ _ _ _ => pts_nil) (fun _ _ _ _ _ => (pe_ifExp (pt_val (pe_callB call_isi rfl n_isinstance (by decide +kernel) (pa_cons (pv 8) (pa_cons (pe_bltn (v := .ty "str") rfl n_str boot_str rfl) pa_nil)))) (pv 8) (pe_call o_worth_text (hr.mono (by decide)) rfl g_worth_text kp_worth_text b_worth_text .nil pass0 (pa_cons (pv 8) pa_nil)))))) pa_nil))))))))
  clear hr hu nd g0 F fd o_deed_text b_deed_text kp_deed_text g_deed_text fd_deed_text o_long_text b_long_text kp_long_text g_long_text fd_long_text o_worth_text b_worth_text kp_worth_text g_worth_text fd_worth_text n_isinstance n_len n_str
  try dsimp only [cxOf, Cx.nox, Cx.wish]
  obtain ⟨_, rfl, e, d, ok, q⟩ := h
  cases e with
  | plain p =>
    cases p with
    | make x t o n =>
      obtain ⟨l, rfl, d2⟩ := pl_make d
      obtain ⟨hp, hr, ht, hn⟩ := ok
      have h1 := hp.len
      have h2 := ht.1
      have h3 := num_le0 (small_big h2)
      have h4 := len_tb o
      have h5 := len_tb n
      have h6 := len_s (x := "make") 4
      have h7 := bj_le [num t.length, t]
      simp only [List.map_cons, List.map_nil, List.sum_cons, List.sum_nil, List.length_cons, List.length_nil] at h7
      have e : Nm (Str.join " " ["make", x, tbT o, tbT n, bj [num t.length, t]]) (bj (tokP (.make x t o n))) := ⟨rfl⟩
      fail "r"
      refine Or.inr (Or.inl ⟨o, rfl, ?_⟩)
      fail "r"
      refine Or.inr (Or.inl ⟨n, rfl, ?_⟩)
      fail "r"
      exact q _ (by fail "c")
    | put x t c =>
      obtain ⟨l, c', rfl, d2, dc⟩ := pl_put d
      obtain ⟨hp, ht, hc⟩ := ok
      have h1 := hp.len
      have h2 := ht.1
      have h3 := num_le0 (small_big h2)
      have h4 := len_cnt hc
      have h6 := len_s (x := "put") 4
      have h7 := bj_le [num t.length, t]
      simp only [List.map_cons, List.map_nil, List.sum_cons, List.sum_nil, List.length_cons, List.length_nil] at h7
      have e : Nm (Str.join " " ["put", x, cntT c, bj [num t.length, t]]) (bj (tokP (.put x t c))) := ⟨rfl⟩
      fail "r"
      refine Or.inl ⟨c, by fail "c", hc, ?_⟩
      fail "r"
      exact q _ (by fail "c")
    | drop x c =>
      obtain ⟨l, c', rfl, d2, dc⟩ := pl_drop d
      obtain ⟨hp, hr, hc⟩ := ok
      have h1 := hp.len
      have h4 := len_cnt hc
      have h6 := len_s (x := "drop") 4
      have e : Nm (Str.join " " ["drop", x, cntT c]) (bj (tokP (.drop x c))) := ⟨rfl⟩
      fail "r"
      refine lc_it (walk_list (xs := [V.str x, c'])) (fun i Hi => L2.Same H'_1 Hi ∧ Hi D = some (.lst (([x, cntT c].take i).map V.str))) ⟨sameUpd (by assumption), upd_same⟩ (fun _ _ _ h => by have := h.1; fail "c") (fun i y H2 H3 hi p' z => ?_) (fun H2 p' => ?_)
      · obtain ⟨rfl, z⟩ := z
        obtain ⟨s2, hD⟩ := p'
        match i, z, hD, hi with
        | 0, z, hD, _ =>
          obtain rfl := Option.some.inj z
          have hD : H3 D = some (HO.lst []) := hD
          fail "r"
          exact upd_same
        | 1, z, hD, _ =>
          obtain rfl := Option.some.inj z
          have hD : H3 D = some (HO.lst [V.str x]) := hD
          cases c with
          | none =>
            obtain rfl := dc.n
            fail "r"
            refine Or.inl ⟨none, .non, trivial, ?_⟩
            fail "r"
            exact upd_same
          | some n =>
            obtain rfl := dc.i
            fail "r"
            refine Or.inl ⟨some n, .int _, hc, ?_⟩
            fail "r"
            exact upd_same
      · obtain ⟨s2, hD⟩ := p'
        have hD : H2 D = some (HO.lst [V.str x, V.str (cntT c)]) := hD
        fail "r"
        exact q _ (by fail "c")
    | see x c =>
      obtain ⟨l, c', rfl, d2, dc⟩ := pl_see d
      obtain ⟨hp, hc⟩ := ok
      have h1 := hp.len
      have h4 := len_cnt hc
      have h6 := len_s (x := "see") 4
      have e : Nm (Str.join " " ["see", x, cntT c]) (bj (tokP (.see x c))) := ⟨rfl⟩
      fail "r"
      refine lc_it (walk_list (xs := [V.str x, c'])) (fun i Hi => L2.Same H'_1 Hi ∧ Hi D = some (.lst (([x, cntT c].take i).map V.str))) ⟨sameUpd (by assumption), upd_same⟩ (fun _ _ _ h => by have := h.1; fail "c") (fun i y H2 H3 hi p' z => ?_) (fun H2 p' => ?_)
      · obtain ⟨rfl, z⟩ := z
        obtain ⟨s2, hD⟩ := p'
        match i, z, hD, hi with
        | 0, z, hD, _ =>
          obtain rfl := Option.some.inj z
          have hD : H3 D = some (HO.lst []) := hD
          fail "r"
          exact upd_same
        | 1, z, hD, _ =>
          obtain rfl := Option.some.inj z
          have hD : H3 D = some (HO.lst [V.str x]) := hD
          cases c with
          | none =>
            obtain rfl := dc.n
            fail "r"
            refine Or.inl ⟨none, .non, trivial, ?_⟩
            fail "r"
            exact upd_same
          | some n =>
            obtain rfl := dc.i
            fail "r"
            refine Or.inl ⟨some n, .int _, hc, ?_⟩
            fail "r"
            exact upd_same
      · obtain ⟨s2, hD⟩ := p'
        have hD : H2 D = some (HO.lst [V.str x, V.str (cntT c)]) := hD
        fail "r"
        exact q _ (by fail "c")
  | all ps =>
    obtain ⟨l, x1, x2, rfl, ht, e1, e2⟩ := dt2 d
    obtain rfl := e1.s
    obtain ⟨l2, xs, rfl, ht2, dxs⟩ := e2.inv
    have hxl := dxs.lenM
    have hn : xs.length < big := small_big (m := 6) (by rw [hxl]; exact ok.2.1)
    have e : Nm (Str.join " " ("all" :: num xs.length :: ps.map fun p => bj (tokP p))) (bj (tokD (.all ps))) := ⟨by rw [hxl]; exact bj_all.symm⟩
    have hsum : ((("all" : Str) :: num xs.length :: ps.map fun p => bj (tokP p)).map (·.length)).sum + (("all" : Str) :: num xs.length :: ps.map fun p => bj (tokP p)).length * (" " : Str).length ≤ 16777216 := by
      have h2 := sum_le (f := fun x : Str => x.length) (m := 400) (l := ps.map fun p => bj (tokP p)) fun x hx => by
        obtain ⟨p, hp, rfl⟩ := List.mem_map.mp hx
        exact len_tokP (ok.2.2 p hp)
      have h1 := num_le0 hn
      have h3 := ok.2.1
      have h6 := len_s (x := "all") 4
      simp only [List.map_cons, List.sum_cons, List.length_cons, List.length_map, len_bl] at h2 ⊢
      omega
    fail "r"
    refine lc_it (walk_tup (xs := xs)) (fun i Hi => L2.Same H'_1 Hi ∧ Hi D = some (.lst (((ps.take i).map fun p => bj (tokP p)).map V.str))) ⟨sameUpd (by assumption), upd_same⟩ (fun _ _ _ h => by have := h.1; fail "c") (fun i y H2 H3 hi p' z => ?_) (fun H2 p' => ?_)
    · obtain ⟨rfl, z⟩ := z
      obtain ⟨s2, hD⟩ := p'
      obtain ⟨p, hp, dp⟩ := dxs.atM z
      have pk := ok.2.2 p (List.mem_of_getElem? hp)
      have hl : (((ps.take i).map fun p => bj (tokP p)).map V.str).length < sizeLine := small_size (m := 6) (by
        rw [List.length_map, List.length_map, List.length_take]
        have := ok.2.1
        omega)
      rw [take_at hp, List.map_append, List.map_append]
      fail "r"
      exact upd_same
    · obtain ⟨s2, hD⟩ := p'
      rw [hxl, List.take_length] at hD
      have hl : [V.str "all", V.str (num xs.length)].length + ((ps.map fun p => bj (tokP p)).map V.str).length ≤ sizeLine := by
        rw [List.length_map, List.length_map]
        exact Nat.le_trans (m := 8) (by have := ok.2.1; simp only [List.length_cons, List.length_nil]; omega) (by decide)
      fail "r"
      exact q _ (by fail "c")
  | opn n =>
    obtain ⟨l, x1, x2, rfl, ht, e1, e2⟩ := dt2 d
    obtain rfl := e1.s
    obtain rfl := e2.i
    have hn : n < big := small_big ok.2
    have h4 := num_le0 hn
    have h6 := len_s (x := "open") 4
    have e : Nm (Str.join " " ["open", num n]) (bj (tokD (.opn n))) := ⟨rfl⟩
    fail "r"
    refine lc_it (walk_list (xs := [V.int n])) (fun i Hi => L2.Same H'_1 Hi ∧ Hi D = some (.lst (([num n].take i).map V.str))) ⟨sameUpd (by assumption), upd_same⟩ (fun _ _ _ h => by have := h.1; fail "c") (fun i y H2 H3 hi p' z => ?_) (fun H2 p' => ?_)
    · obtain ⟨rfl, z⟩ := z
      obtain ⟨s2, hD⟩ := p'
      match i, z, hD, hi with
      | 0, z, hD, _ =>
        obtain rfl := Option.some.inj z
        have hD : H3 D = some (HO.lst []) := hD
        fail "r"
        refine Or.inl ⟨some n, .int _, hn, ?_⟩
        fail "r"
        exact upd_same
    · obtain ⟨s2, hD⟩ := p'
      have hD : H2 D = some (HO.lst [V.str (num n)]) := hD
      fail "r"
      exact q _ (by fail "c")
  | close =>
    obtain ⟨l, x1, rfl, ht, e1⟩ := dt1 d
    obtain rfl := e1.s
    have h6 := len_s (x := "close") 5
    have e : Nm (Str.join " " ["close"]) (bj (tokD .close)) := ⟨rfl⟩
    fail "r"
    refine lc_it (walk_list (xs := [])) (fun i Hi => L2.Same H'_1 Hi ∧ Hi D = some (.lst [])) ⟨sameUpd (by assumption), upd_same⟩ (fun _ _ _ h => by have := h.1; fail "c") (fun i y H2 H3 hi p' z => absurd hi (Nat.not_lt_zero _)) (fun H2 p' => ?_)
    obtain ⟨s2, hD⟩ := p'
    fail "r"
    exact q _ (by fail "c")
  | bring =>
    obtain ⟨l, x1, rfl, ht, e1⟩ := dt1 d
    obtain rfl := e1.s
    have h6 := len_s (x := "bring") 5
    have e : Nm (Str.join " " ["bring"]) (bj (tokD .bring)) := ⟨rfl⟩
    fail "r"
    refine lc_it (walk_list (xs := [])) (fun i Hi => L2.Same H'_1 Hi ∧ Hi D = some (.lst [])) ⟨sameUpd (by assumption), upd_same⟩ (fun _ _ _ h => by have := h.1; fail "c") (fun i y H2 H3 hi p' z => absurd hi (Nat.not_lt_zero _)) (fun H2 p' => ?_)
    obtain ⟨s2, hD⟩ := p'
    fail "r"
    exact q _ (by fail "c")
def sp_show_entry (K : PySem.W.Frag) : Sp := sp1 fun v H Q => ∃ e : En, Dt K H v e.d ∧ e.Ok ∧ ∀ H', L2.Same H H' → Q (.str (bj (tokE e))) H'
theorem sc_show_entry : FnScope ["entry", "word", "asker", "rest"] ["entry"] (defScope s_show_entry) := ⟨rfl, rfl, rfl, by decide +kernel, rfl, by decide +kernel, by decide +kernel⟩
theorem k_show_entry (B : Bag w K mg base) : Kept P w K mg base "show_entry" 4 ["entry"] (sp_show_entry K) := by
  obtain ⟨fd, F⟩ := B.c.def_ 37 (d := d_show_entry) rfl
  obtain ⟨f_deed_text, fd_deed_text, g_deed_text, kp_deed_text, b_deed_text, o_deed_text⟩ := k_deed_text (P := P) B
  have g0 := He.glo_ok B.X B.G (B.c.fact 37 (f := .glo "show_entry") rfl)
  refine ⟨_, fd, g0, F.kp, F.bindsN (fun _ _ _ _ _ _ us hl => match us, hl with | [_], _ => rfl), ?_⟩
  refine F.ok sc_show_entry (fun vs H Q E h => len1 h) (fun cdv A outer s H vs Q E hr h => ?_)
  have nd := sc_show_entry.nd
  have hu := hu_of hr
  refine' ⟨_, PSs.nox ?hT, ?hR⟩
  case hT => exact (pss_cons (ps_asg (pv 0) (pg_starA (i := 2) rfl (pgs_cons (pg_name (i := 1) nd rfl (Or.inl rfl)) (pgs_cons (pg_name (i := 2) nd rfl (Or.inl rfl)) (pgs_cons (pg_name (i := 3) nd rfl (Or.inl rfl)) pgs_nil)))))
      (pss_cons (ps_if (pt_cmpR op_eq (pv 1) (pe_str) (nomark _)) (pss_one (ps_ret (pe_op op_add_str (pe_op op_add_str (pv 1) (pe_str)) (pv 2)))) pss_nil)
      (pss_one (ps_ret (pe_joined (PJ.cons (pe_fmtS (pv 2)) (PJ.cons (pe_str) (PJ.cons (pe_fmtI (pe_ix ix_list (pv 3) (pe_int) (fun _ _ => rfl))) (PJ.cons (pe_str) (PJ.cons (pe_fmtS (pe_call o_deed_text hr rfl g_deed_text kp_deed_text b_deed_text .nil pass0 (pa_cons (pe_ix ix_list (pv 3) (pe_int) (fun _ _ => rfl)) pa_nil))) PJ.nil))))))))))
  clear hr hu nd g0 F fd o_deed_text b_deed_text kp_deed_text g_deed_text fd_deed_text
  try dsimp only [cxOf, Cx.nox, Cx.wish]
  obtain ⟨_, rfl, e, d, ok, q⟩ := h
  cases e with
  | ask who n e =>
    obtain ⟨l, x1, x2, x3, x4, rfl, ht, e1, e2, e3, e4⟩ := dt4 d
    obtain rfl := e1.s
    obtain rfl := e2.s
    obtain rfl := e3.i
    obtain ⟨hw, h1, h2, hdk⟩ := ok
    have h3 := num_le0 h2
    have h4 := hw.2.1
    have h5 := len_tokD hdk
    have h6 : who.length ≤ sizeLine := by fail "z"
    have e0 : (Str.empty : Str).length = 0 := rfl
    fail "r"
    show Q (.str (Str.empty ++ who ++ "." ++ num n ++ " " ++ bj (tokD e))) _
    rw [PySem.Str.empty_append, ← bj_cons (tokD_ne e)]
    exact q _ (by fail "c")
  | fin who =>
    obtain ⟨l, x1, x2, rfl, ht, e1, e2⟩ := dt2 d
    obtain rfl := e1.s
    obtain rfl := e2.s
    have hw : WordOk who := ok
    have h4 := hw.2.1
    have h6 := len_s (x := "end") 4
    fail "r"
    exact q _ (by fail "c")
def sp_show_row (K : PySem.W.Frag) : Sp := sp1 fun v H Q => ∃ (l : Addr) (xs : List V) (ts : List Thing), v = .ref l ∧ H l = some (.lst xs) ∧ DtA K H xs (ts.map thD) ∧ RowOk ts ∧ ∀ H', L2.Same H H' → Q (.str (rowT ts)) H'
theorem sc_show_row : FnScope ["row", "place", "entry"] ["row"] (defScope s_show_row) := ⟨rfl, rfl, rfl, by decide +kernel, rfl, by decide +kernel, by decide +kernel⟩
theorem k_show_row (B : Bag w K mg base) : Kept P w K mg base "show_row" 5 ["row"] (sp_show_row K) := by
  obtain ⟨fd, F⟩ := B.c.def_ 38 (d := d_show_row) rfl
  obtain ⟨f_place_text, fd_place_text, g_place_text, kp_place_text, b_place_text, o_place_text⟩ := k_place_text (P := P) B
  obtain ⟨f_show_entry, fd_show_entry, g_show_entry, kp_show_entry, b_show_entry, o_show_entry⟩ := k_show_entry (P := P) B
  have g0 := He.glo_ok B.X B.G (B.c.fact 38 (f := .glo "show_row") rfl)
  refine ⟨_, fd, g0, F.kp, F.bindsN (fun _ _ _ _ _ _ us hl => match us, hl with | [_], _ => rfl), ?_⟩
  refine F.ok sc_show_row (fun vs H Q E h => len1 h) (fun cdv A outer s H vs Q E hr h => ?_)
  have nd := sc_show_row.nd
  have hu := hu_of hr
  refine' ⟨_, PSs.nox ?hT, ?hR⟩
  case hT => exact (pss_one (ps_ret (pe_bm PySem.F.plainAttrs_str PySem.F.slot_str_join PySem.F.type_str_join mt_joinA (pe_str) (pa_cons (pe_lc (own := [("place", 1), ("entry", 2)]) (g := gTup K 2 (gCons (gName 1) (gCons (gName 2) gNil))) (tt := tYes) rfl nd (pi_list (pv 0)) (blkOk_by (N := ["row", "place", "entry"]) (sc := defScope s_show_row) (by decide +kernel)) (fun _ _ _ _ _ => (pg_tup rfl (pgs_cons (pg_name (i := 1) nd rfl (Or.inl rfl)) (pgs_cons (pg_name (i := 2) nd rfl (Or.inl rfl)) pgs_nil)))) (fun _ _ _ _ _ => pts_nil) (fun _ _ _ _ _ => (pe_op op_add_str (pe_op op_add_str (pe_call o_place_text (hr.mono (by decide)) rfl g_place_text kp_place_text b_place_text .nil pass0 (pa_cons (pv 1) pa_nil)) (pe_str)) (pe_call o_show_entry hr rfl g_show_entry kp_show_entry b_show_entry .nil pass0 (pa_cons (pv 2) pa_nil))))) pa_nil))))
  clear hr hu nd g0 F fd o_place_text b_place_text kp_place_text g_place_text fd_place_text o_show_entry b_show_entry kp_show_entry g_show_entry fd_show_entry
  try dsimp only [cxOf, Cx.nox, Cx.wish]
  obtain ⟨_, rfl, l, xs, ts, rfl, hl, hd, ok, q⟩ := h
  have hxl := hd.lenM
  have e : Nm (Str.join "\n" (ts.map fun t => bj (tokT t))) (rowT ts) := ⟨rfl⟩
  have hts := ok.2.2
  have hsum : ((ts.map fun t => bj (tokT t)).map (·.length)).sum + (ts.map fun t => bj (tokT t)).length * ("\n" : Str).length ≤ 16777216 := by
    have h2 := sum_le (f := fun x : Str => x.length) (m := 3500) (l := ts.map fun t => bj (tokT t)) fun x hx => by
      obtain ⟨t, ht, rfl⟩ := List.mem_map.mp hx
      exact len_tokT (ok.1 t ht)
    simp only [List.length_map, len_nl] at h2 ⊢
    omega
  fail "r"
  refine lc_it (walk_list (xs := xs)) (fun i Hi => L2.Same H Hi ∧ Hi D = some (.lst (((ts.take i).map fun t => bj (tokT t)).map V.str))) ⟨sameUpd (by assumption), upd_same⟩ (fun _ _ _ h => by have := h.1; fail "c") (fun i y H2 H3 hi p' z => ?_) (fun H2 p' => ?_)
  · obtain ⟨rfl, z⟩ := z
    obtain ⟨s2, hD⟩ := p'
    obtain ⟨t, ht, dt⟩ := hd.atM z
    have tk := ok.1 t (List.mem_of_getElem? ht)
    obtain ⟨lt, x1, x2, rfl, hlt, d1, d2⟩ := th_inv (dtS s2 dt)
    have hz : (((ts.take i).map fun t => bj (tokT t)).map V.str).length < sizeLine := small_size (m := 100) (by
      rw [List.length_map, List.length_map, List.length_take]
      omega)
    have tk1 := tk.1
    have tk2 := tk.2
    have h1 := len_plT tk1
    have h2 := len_tokE tk2
    have hb : ([t].map fun t => bj (tokT t)).map V.str = [V.str (plT t.1 ++ " " ++ bj (tokE t.2))] := by
      rw [← bj_cons (tokE_ne t.2)]
      rfl
    rw [take_at ht, List.map_append, List.map_append, hb]
    fail "r"
  · obtain ⟨s2, hD⟩ := p'
    rw [hxl, List.take_length] at hD
    fail "r"
    exact q _ (by fail "c")
def sp_show_nodes (K : PySem.W.Frag) : Sp := sp1 fun v H Q => ∃ (a : Addr) (W : Nds), v = .ref a ∧ Web K H a (ndsD W) ∧ W.length ≤ 60 ∧ (∀ p ∈ W, PathOk p.1 ∧ p.2.Ok) ∧ ∀ ps H', L2.Same H H' → Byp W ps → Q (.str (nodesT ps)) H'
theorem sc_show_nodes : FnScope ["nodes", "found", "path", "text", "count", "made", "owner"] ["nodes"] (defScope s_show_nodes) := ⟨rfl, rfl, rfl, by decide +kernel, rfl, by decide +kernel, by decide +kernel⟩
theorem k_show_nodes (B : Bag w K mg base) : Kept P w K mg base "show_nodes" 2 ["nodes"] (sp_show_nodes K) := by
  obtain ⟨fd, F⟩ := B.c.def_ 39 (d := d_show_nodes) rfl
  obtain ⟨f_long_text, fd_long_text, g_long_text, kp_long_text, b_long_text, o_long_text⟩ := k_long_text (P := P) B
  obtain ⟨f_worth_text, fd_worth_text, g_worth_text, kp_worth_text, b_worth_text, o_worth_text⟩ := k_worth_text (P := P) B
  have n_sorted := He.free_ok B.X B.G (B.c.fact 86 (f := .free "sorted") rfl)
  have n_str := He.free_ok B.X B.G (B.c.fact 80 (f := .free "str") rfl)
  have g0 := He.glo_ok B.X B.G (B.c.fact 39 (f := .glo "show_nodes") rfl)
  refine ⟨_, fd, g0, F.kp, F.bindsN (fun _ _ _ _ _ _ us hl => match us, hl with | [_], _ => rfl), ?_⟩
  refine F.ok sc_show_nodes (fun vs H Q E h => len1 h) (fun cdv A outer s H vs Q E hr h => ?_)
  have nd := sc_show_nodes.nd
  have hu := hu_of hr
  refine' ⟨_, PSs.nox ?hT, ?hR⟩
  case hT => exact (pss_cons (ps_set (i := 1) nd rfl (Or.inl rfl) (pe_lstA pa_nil))
      (pss_cons (ps_for PassesOwn.never rfl (pi_list (pe_sortIt rfl (pv 0) rfl n_sorted)) (pg_tup rfl (pgs_cons (pg_name (i := 2) nd rfl (Or.inl rfl)) (pgs_cons (pg_tup rfl (pgs_cons (pg_name (i := 3) nd rfl (Or.inl rfl)) (pgs_cons (pg_name (i := 4) nd rfl (Or.inl rfl)) (pgs_cons (pg_name (i := 5) nd rfl (Or.inl rfl)) (pgs_cons (pg_name (i := 6) nd rfl (Or.inl rfl)) pgs_nil))))) pgs_nil))) (pss_one (ps_expr (pe_bm PySem.F.plainAttrs_list PySem.F.slot_list_append PySem.F.type_list_append mt_appA (pv 1) (pa_cons (pe_bm PySem.F.plainAttrs_str PySem.F.slot_str_join PySem.F.type_str_join mt_joinA (pe_str) (pa_cons (pe_lstA (pa_cons (pv 2) (pa_cons (pe_callTy call_numN rfl n_str boot_str (pa_cons (pv 4) pa_nil)) (pa_cons (pe_callTy call_numN rfl n_str boot_str (pa_cons (pv 5) pa_nil)) (pa_cons (pe_call o_worth_text hr rfl g_worth_text kp_worth_text b_worth_text .nil pass0 (pa_cons (pv 6) pa_nil)) (pa_cons (pe_call o_long_text hr rfl g_long_text kp_long_text b_long_text .nil pass0 (pa_cons (pv 3) pa_nil)) pa_nil)))))) pa_nil)) pa_nil)))))
      (pss_one (ps_ret (pe_bm PySem.F.plainAttrs_str PySem.F.slot_str_join PySem.F.type_str_join mt_joinA (pe_str) (pa_cons (pv 1) pa_nil))))))
  clear hr hu nd g0 F fd o_long_text b_long_text kp_long_text g_long_text fd_long_text o_worth_text b_worth_text kp_worth_text g_worth_text fd_worth_text n_sorted n_str
  try dsimp only [cxOf, Cx.nox, Cx.wish]
  obtain ⟨_, rfl, a, W, rfl, hw, h60, hok, q⟩ := h
  obtain ⟨kvs, hd, he⟩ := hw
  obtain ⟨ks, hks, hkk⟩ := he.cut
  have hkl : ks.length < 64 := by
    have := congrArg List.length hkk
    unfold ndsD mapA at this
    rw [List.length_map, List.length_map, List.length_map] at this
    omega
  fail "r"
  obtain ⟨Ws, hb, hbl, hbd⟩ := byp_of (K := K) (H := H) he hks a_6 a_7
  have hps : ps.length ≤ 60 := by rw [hbl, hb.1.length_eq]; exact h60
  have e : Nm (Str.join "\n" (Ws.map fun p => bj (tokN p.1 p.2))) (nodesT Ws) := ⟨rfl⟩
  have hok2 : ∀ p ∈ Ws, PathOk p.1 ∧ p.2.Ok := fun p hp => hok p (hb.1.mem_iff.mp hp)
  have hsum : ((Ws.map fun p => bj (tokN p.1 p.2)).map (·.length)).sum + (Ws.map fun p => bj (tokN p.1 p.2)).length * ("\n" : Str).length ≤ 16777216 := by
    have h2 := sum_le (f := fun x : Str => x.length) (m := 600) (l := Ws.map fun p => bj (tokN p.1 p.2)) fun x hx => by
      obtain ⟨t, ht, rfl⟩ := List.mem_map.mp hx
      exact len_tokN (hok2 t ht).1 (hok2 t ht).2
    simp only [List.length_map, len_nl] at h2 ⊢
    omega
  have s1 : L2.Same H' H'_1 := a_4
  have hHp : H p = none := a_2
  refine for_it (walk_list (xs := ps.map fun z => V.ref z.1)) (fun i σ Hi => But p H'_1 Hi ∧ ∃ (u2 u3 u4 u5 u6 : Option V), σ = [some (.ref a), some (.ref p), u2, u3, u4, u5, u6] ∧ Hi p = some (.lst (((Ws.take i).map fun p => bj (tokN p.1 p.2)).map V.str)))
    ⟨But.refl _ _, none, none, none, none, none, rfl, by fail "c"⟩ (fun _ _ _ _ h => ?_) (fun i y σ H2 H3 hi p' z => ?_) (fun σ H2 p' => ?_)
  · have := SqL.of (K := K) (getB h.1 (neF a_5 a_3).symm a_8)
    exact this
  · obtain ⟨rfl, z⟩ := z
    obtain ⟨b2, u2, u3, u4, u5, u6, rfl, hp⟩ := p'
    rw [List.getElem?_map] at z
    obtain ⟨pz, hpz, rfl⟩ := Option.map_eq_some_iff.mp z
    have k3 : Kp H'_1 H3 := b2.kpL (s1 _ _ a_3)
    have htz := k3.t _ _ (a_9 pz (List.mem_of_getElem? hpz))
    obtain ⟨x, nd, hW, hx, dnd⟩ := hbd.at (kvs := kvs) (k := Sum.inr pz.2.1) (v := pz.2.2) i (by rw [List.getElem?_map, List.getElem?_map, hpz]; rfl)
    have hx := Sum.inr.inj hx
    have dnd := dtK k3 (dtS s1 (dtS a_1 dnd))
    obtain ⟨l2, o', e2, ht2, ho⟩ := nd_inv dnd
    rw [hx, e2] at htz
    obtain ⟨okx, okn⟩ : PathOk x ∧ nd.Ok := hok2 _ (List.mem_of_getElem? hW)
    have h1 := okx.len
    have h2 := okn.1.1
    have h3 := num_le0 (small_big h2)
    have h4 := num_le0 okn.2.1
    have h5 := num_le0 okn.2.2.1
    have h6 := len_own okn.2.2.2
    have h7 := bj_le [num nd.text.length, nd.text]
    simp only [List.map_cons, List.map_nil, List.sum_cons, List.sum_nil, List.length_cons, List.length_nil] at h7
    have h8 := okn.2.1
    have h9 := okn.2.2.1
    have e3 : Nm (Str.join " " [x, num nd.count, num nd.made, ownT nd.owner, bj [num nd.text.length, nd.text]]) (bj (tokN x nd)) := ⟨rfl⟩
    have hsum2 : ([x, num nd.count, num nd.made, ownT nd.owner, bj [num nd.text.length, nd.text]].map (fun x : Str => x.length)).sum + [x, num nd.count, num nd.made, ownT nd.owner, bj [num nd.text.length, nd.text]].length * (" " : Str).length ≤ 16777216 := by
      simp only [List.map_cons, List.map_nil, List.sum_cons, List.sum_nil, List.length_cons, List.length_nil, len_bl]
      omega
    have hil : i < ps.length := by rw [List.length_map] at hi; exact hi
    have hz : (((Ws.take i).map fun p => bj (tokN p.1 p.2)).map V.str).length < sizeLine := small_size (m := 60) (by
      rw [List.length_map, List.length_map, List.length_take]
      omega)
    rw [take_at hW, List.map_append, List.map_append]
    fail "r"
    refine Or.inr (Or.inr ⟨nd.owner, by fail "c", ?_⟩)
    fail "r"
  · obtain ⟨b2, u2, u3, u4, u5, u6, rfl, hp⟩ := p'
    rw [List.length_map, hbl, List.take_length] at hp
    fail "r"
    exact q _ _ (by fail "c") hb
def sp_number_in (K : PySem.W.Frag) : Sp := sp1 fun v H Q => ∃ n : Nat, v = .str (num n) ∧ n < big ∧ ∀ H', L2.Same H H' → Q (.int n) H'
theorem sc_number_in : FnScope ["word", "sign"] ["word"] (defScope s_number_in) := ⟨rfl, rfl, rfl, by decide +kernel, rfl, by decide +kernel, by decide +kernel⟩
theorem k_number_in (B : Bag w K mg base) : Kept P w K mg base "number_in" 1 ["word"] (sp_number_in K) := by
  obtain ⟨fd, F⟩ := B.c.def_ 40 (d := d_number_in) rfl
  have n_all := He.free_ok B.X B.G (B.c.fact 82 (f := .free "all") rfl)
  have n_int := He.free_ok B.X B.G (B.c.fact 78 (f := .free "int") rfl)
  obtain ⟨t_FIGURES, c_FIGURES⟩ := He.str_ok B.X B.G (B.c.fact 95 (f := .str "FIGURES" "0123456789") rfl)
  have g0 := He.glo_ok B.X B.G (B.c.fact 40 (f := .glo "number_in") rfl)
  refine ⟨_, fd, g0, F.kp, F.bindsN (fun _ _ _ _ _ _ us hl => match us, hl with | [_], _ => rfl), ?_⟩
  refine F.ok sc_number_in (fun vs H Q E h => len1 h) (fun cdv A outer s H vs Q E hr h => ?_)
  have nd := sc_number_in.nd
  have hu := hu_of hr
  refine' ⟨_, PSs.nox ?hT, ?hR⟩
  case hT => exact (pss_cons (ps_if (PW.pt (pw_or (pt_cmpR op_eq (pv 0) (pe_str) (nomark _)) (pw_or (pt_not (pt_val (pe_callB (cr_all rfl) rfl n_all (by decide +kernel) (pa_cons (pe_lc (own := [("sign", 1)]) (g := gName 1) (tt := tYes) rfl nd (pi_str (pv 0)) (blkOk_by (N := ["word", "sign"]) (sc := defScope s_number_in) (by decide +kernel)) (fun _ _ _ _ _ => (pg_name (i := 1) nd rfl (Or.inl rfl))) (fun _ _ _ _ _ => pts_nil) (fun _ _ _ _ _ => (pe_cmpR op_in_sign (pv 1) (pe_glob (v := .str "0123456789") rfl c_FIGURES ⟨_, rfl⟩) rfl))) pa_nil)))) (pw_or1 (PW.pt (pw_and (pt_cmpR op_eq (pe_ix ix_str (pv 0) (pe_int) (fun _ _ => rfl)) (pe_str) (nomark _)) (pw_and1 (pt_cmpR op_ne (pv 0) (pe_str) (nomark _))))))))) (pss_one (ps_never)) pss_nil)
      (pss_one (ps_ret (pe_callTy call_intN rfl n_int boot_int (pa_cons (pv 0) pa_nil)))))
  clear hr hu nd g0 F fd n_all n_int c_FIGURES t_FIGURES
  try dsimp only [cxOf, Cx.nox, Cx.wish]
  obtain ⟨_, rfl, n, rfl, hn, q⟩ := h
  have z1 : (num n).length ≤ sizeLine := Nat.le_trans (num_le0 hn) (by decide)
  have e1 : ¬ V.str (num n) = V.str "" := fun z => num_ne n (V.str.inj z)
  have z4 : (num n).length = (num n).cps.size := rfl
  have z5 := num_le0 hn
  fail "r"
  refine lc_it walk_str (AllP H D) (AllP.start (by assumption)) (fun _ _ _ _ => trivial) (fun i y H2 H3 hi p z => ?_) (fun H2 p => ?_)
  · obtain ⟨rfl, c, hc, rfl⟩ := z
    have hi2 : i < 100000 := by omega
    have hm : c ∈ tl (num n) := List.mem_of_getElem? (i := i) (by rw [← hc]; simp)
    have hl := decide_eq_true (mem_figures.mpr (num_signs n c hm))
    fail "r"
  · dsimp only [tNil]
    refine AllP.fin p fun H4 s4 => ?_
    obtain ⟨c, l, hcl, hc0⟩ := num_first n
    have e2 : atI (num n).cps.toList 0 = some c := atI_at (k := 0) (by rw [hcl]; rfl)
    by_cases h0 : n = 0
    · have e3 := hc0.mpr h0
      have e4 : V.str (num n) = V.str "0" := by rw [h0]; decide +kernel
      fail "r"
      exact q _ (by fail "c")
    · have e3 : ¬ V.str ⟨#[c]⟩ = V.str "0" := fun z => h0 (hc0.mp z)
      fail "r"
      exact q _ (by fail "c")
def sp_dotted_in (K : PySem.W.Frag) : Sp := sp1 fun v H Q => ∃ (x : Str) (n : Nat), v = .str (x ++ "." ++ num n) ∧ 46 ∉ tl x ∧ x.length ≤ 200 ∧ n < big ∧ ∀ r H', L2.Same H H' → H' r = some (.tup [.str x, .int n]) → Q (.ref r) H'
theorem sc_dotted_in : FnScope ["word", "first", "dot", "rest"] ["word"] (defScope s_dotted_in) := ⟨rfl, rfl, rfl, by decide +kernel, rfl, by decide +kernel, by decide +kernel⟩
theorem k_dotted_in (B : Bag w K mg base) : Kept P w K mg base "dotted_in" 2 ["word"] (sp_dotted_in K) := by
  obtain ⟨fd, F⟩ := B.c.def_ 41 (d := d_dotted_in) rfl
  obtain ⟨f_number_in, fd_number_in, g_number_in, kp_number_in, b_number_in, o_number_in⟩ := k_number_in (P := P) B
  have g0 := He.glo_ok B.X B.G (B.c.fact 41 (f := .glo "dotted_in") rfl)
  refine ⟨_, fd, g0, F.kp, F.bindsN (fun _ _ _ _ _ _ us hl => match us, hl with | [_], _ => rfl), ?_⟩
  refine F.ok sc_dotted_in (fun vs H Q E h => len1 h) (fun cdv A outer s H vs Q E hr h => ?_)
  have nd := sc_dotted_in.nd
  have hu := hu_of hr
  refine' ⟨_, PSs.nox ?hT, ?hR⟩
  case hT => exact (pss_cons (ps_asg (pe_bm PySem.F.plainAttrs_str PySem.F.slot_str_partition PySem.F.type_str_partition mt_partA (pv 0) (pa_cons (pe_str) pa_nil)) (pg_tup rfl (pgs_cons (pg_name (i := 1) nd rfl (Or.inl rfl)) (pgs_cons (pg_name (i := 2) nd rfl (Or.inl rfl)) (pgs_cons (pg_name (i := 3) nd rfl (Or.inl rfl)) pgs_nil)))))
      (pss_one (ps_ret (pe_tupA (pa_cons (pv 1) (pa_cons (pe_call o_number_in hr rfl g_number_in kp_number_in b_number_in .nil pass0 (pa_cons (pv 3) pa_nil)) pa_nil))))))
  clear hr hu nd g0 F fd o_number_in b_number_in kp_number_in g_number_in fd_number_in
  try dsimp only [cxOf, Cx.nox, Cx.wish]
  obtain ⟨_, rfl, x, n, rfl, hx, hl, hn, q⟩ := h
  have e1 := Nm.mk (partition_app tl_dot (a := x) (b := num n) hx)
  have z1 : (x ++ "." ++ num n).length ≤ sizeLine := by
    have e : ("." : Str).length = 1 := by decide +kernel
    rw [PySem.Str.length_append, PySem.Str.length_append, e]
    exact Nat.le_trans (m := 301) (by have := num_le0 hn; omega) (by decide)
  fail "r"
  exact q _ _ (by fail "c") (by fail "c")
def sp_W_init (K : PySem.W.Frag) : Sp := sp2 fun v u H Q => ∃ (i dx : Addr) (ts : List Str), v = .ref i ∧ H i = some (.ins (He.ga K "Words") dx []) ∧ u = .str (bj ts) ∧ ts ≠ [] ∧ (bj ts).length ≤ 100000 ∧ ∀ H', But i H H' → Kp H H' → WdAt K H' i dx ts → Q .non H'
theorem sc_W_init : FnScope ["self", "row"] ["self", "row"] (defScope s_W_init) := ⟨rfl, rfl, rfl, by decide +kernel, rfl, by decide +kernel, by decide +kernel⟩
theorem k_W_init (B : Bag w K mg base) : ∃ f fd, Mk K (He.ga K "Words") f ∧ Binds K fd ["self", "row"] [] ∧ FnOk P w K mg base CX0 1 f fd ["self", "row"] (sp_W_init K) := by
  obtain ⟨fd, F⟩ := B.c.def_ 42 (d := d_W_init) rfl
  have cW := He.cls_ok (B.c.fact 106 (f := .cls "Words") rfl)
  have nrest := He.noat_ok (B.c.fact 107 (f := .noat "Words" "rest") rfl)
  have nmore := He.noat_ok (B.c.fact 108 (f := .noat "Words" "more") rfl)
  have mm := He.mkr_ok (B.c.fact 109 (f := .mkr "Words") rfl)
  refine ⟨_, fd, mm, F.bindsN (fun _ _ _ _ _ _ us hl => match us, hl with | [_, _], _ => rfl), ?_⟩
  refine F.ok sc_W_init (fun vs H Q E h => len2 h) (fun cdv A outer s H vs Q E hr h => ?_)
  have nd := sc_W_init.nd
  have hu := hu_of hr
  refine' ⟨_, PSs.nox ?hT, ?hR⟩
  case hT => exact (pss_cons (ps_fldA (pv 0) (pv 1) rfl)
      (pss_one (ps_fldA (pv 0) (pe_bl) rfl)))
  clear hr hu nd mm F fd
  try dsimp only [cxOf, Cx.nox, Cx.wish]
  obtain ⟨_, _, rfl, i, dx, ts, rfl, hi, rfl, hn, hl, q⟩ := h
  fail "r"
  have a5 := a_5
  rw [putF0] at a5
  have hm : (!ts.isEmpty) = true := by
    cases ts with
    | nil => exact absurd rfl hn
    | cons t ts => rfl
  exact q _ (by fail "c") (by fail "c") ⟨by rw [hm]; exact a5, hl⟩
def sp_W_word (K : PySem.W.Frag) : Sp := sp1 fun v H Q => ∃ (i dx : Addr) (t : Str) (ts : List Str), v = .ref i ∧ WdAt K H i dx (t :: ts) ∧ 32 ∉ tl t ∧ ∀ H', But i H H' → Kp H H' → WdAt K H' i dx ts → Q (.str t) H'
theorem sc_W_word : FnScope ["self", "word", "blank"] ["self"] (defScope s_W_word) := ⟨rfl, rfl, rfl, by decide +kernel, rfl, by decide +kernel, by decide +kernel⟩
theorem k_W_word (B : Bag w K mg base) : KeptM P w K mg base "word" 1 ["self"] (sp_W_word K) := by
  obtain ⟨fd, F⟩ := B.c.def_ 43 (d := d_W_word) rfl
  have cW := He.cls_ok (B.c.fact 106 (f := .cls "Words") rfl)
  have nrest := He.noat_ok (B.c.fact 107 (f := .noat "Words" "rest") rfl)
  have nmore := He.noat_ok (B.c.fact 108 (f := .noat "Words" "more") rfl)
  have mm := He.meth_ok (B.c.fact 111 (f := .meth "Words" "word") rfl)
  refine ⟨_, fd, mm, F.bindsN (fun _ _ _ _ _ _ us hl => match us, hl with | [_], _ => rfl), ?_⟩
  refine F.ok sc_W_word (fun vs H Q E h => len1 h) (fun cdv A outer s H vs Q E hr h => ?_)
  have nd := sc_W_word.nd
  have hu := hu_of hr
  refine' ⟨_, PSs.nox ?hT, ?hR⟩
  case hT => exact (pss_cons (ps_if (pt_not (pt_val (pe_fld (pv 0) rfl))) (pss_one (ps_never)) pss_nil)
      (pss_cons (ps_asg (pe_bm PySem.F.plainAttrs_str PySem.F.slot_str_partition PySem.F.type_str_partition mt_partA (pe_fld (pv 0) rfl) (pa_cons (pe_str) pa_nil)) (pg_tup rfl (pgs_cons (pg_name (i := 1) nd rfl (Or.inl rfl)) (pgs_cons (pg_name (i := 2) nd rfl (Or.inl rfl)) (pgs_cons (pg_fldA (pv 0)) pgs_nil)))))
      (pss_cons (ps_fldA (pv 0) (pe_cmpR op_ne (pv 2) (pe_str) (nomark _)) rfl)
      (pss_one (ps_ret (pv 1))))))
  clear hr hu nd mm F fd
  try dsimp only [cxOf, Cx.nox, Cx.wish]
  obtain ⟨_, rfl, i, dx, t, ts, rfl, ⟨hi, hl⟩, h32, q⟩ := h
  have z1 : (bj (t :: ts)).length ≤ sizeLine := Nat.le_trans hl (by decide)
  cases ts with
  | nil =>
    have e1 := Nm.mk (partition_none tl_bl (a := t) h32)
    have z2 : t.length ≤ sizeLine := z1
    fail "r"
    have a8 := a_8
    rw [putF1, putF2, em_dec] at a8
    exact q _ (by fail "c") (by fail "c") ⟨a8, Nat.zero_le _⟩
  | cons u ts =>
    have e1 := Nm.mk (partition_app tl_bl (a := t) (b := bj (u :: ts)) h32)
    rw [bj_cons (by simp)] at z1 hi hl
    fail "r"
    have a8 := a_8
    rw [putF1, putF2, bl_dec] at a8
    exact q _ (by fail "c") (by fail "c") ⟨a8, by simp only [PySem.Str.length_append] at hl; omega⟩
def sp_W_number (K : PySem.W.Frag) : Sp := sp1 fun v H Q => ∃ (i dx : Addr) (n : Nat) (ts : List Str), v = .ref i ∧ WdAt K H i dx (num n :: ts) ∧ n < big ∧ ∀ H', But i H H' → Kp H H' → WdAt K H' i dx ts → Q (.int n) H'
theorem sc_W_number : FnScope ["self"] ["self"] (defScope s_W_number) := ⟨rfl, rfl, rfl, by decide +kernel, rfl, by decide +kernel, by decide +kernel⟩
theorem k_W_number (B : Bag w K mg base) : KeptM P w K mg base "number" 2 ["self"] (sp_W_number K) := by
  obtain ⟨fd, F⟩ := B.c.def_ 44 (d := d_W_number) rfl
  obtain ⟨f_number_in, fd_number_in, g_number_in, kp_number_in, b_number_in, o_number_in⟩ := k_number_in (P := P) B
  obtain ⟨f_W_word, fd_W_word, m_word, b_W_word, o_W_word⟩ := k_W_word (P := P) B
  have cW := He.cls_ok (B.c.fact 106 (f := .cls "Words") rfl)
  have nrest := He.noat_ok (B.c.fact 107 (f := .noat "Words" "rest") rfl)
  have nmore := He.noat_ok (B.c.fact 108 (f := .noat "Words" "more") rfl)
  have mm := He.meth_ok (B.c.fact 112 (f := .meth "Words" "number") rfl)
  refine ⟨_, fd, mm, F.bindsN (fun _ _ _ _ _ _ us hl => match us, hl with | [_], _ => rfl), ?_⟩
  refine F.ok sc_W_number (fun vs H Q E h => len1 h) (fun cdv A outer s H vs Q E hr h => ?_)
  have nd := sc_W_number.nd
  have hu := hu_of hr
  refine' ⟨_, PSs.nox ?hT, ?hR⟩
  case hT => exact (pss_one (ps_ret (pe_call o_number_in hr rfl g_number_in kp_number_in b_number_in .nil pass0 (pa_cons (pe_meth0 (pv 0) cW m_word o_W_word hr b_W_word .nil pass0) pa_nil))))
  clear hr hu nd mm F fd o_number_in b_number_in kp_number_in g_number_in fd_number_in o_W_word b_W_word m_word fd_W_word f_W_word
  try dsimp only [cxOf, Cx.nox, Cx.wish]
  obtain ⟨_, rfl, i, dx, n, ts, rfl, hi, hn, q⟩ := h
  have h32 := num_nb n
  fail "r"
  exact q _ (by fail "c") (by fail "c") (by fail "c")
def sp_W_count (K : PySem.W.Frag) : Sp := sp1 fun v H Q => ∃ (i dx : Addr) (c : Option Nat) (ts : List Str), v = .ref i ∧ WdAt K H i dx (cntT c :: ts) ∧ CntOk c ∧ ∀ H', But i H H' → Kp H H' → WdAt K H' i dx ts → Q (cntV c) H'
theorem sc_W_count : FnScope ["self", "word"] ["self"] (defScope s_W_count) := ⟨rfl, rfl, rfl, by decide +kernel, rfl, by decide +kernel, by decide +kernel⟩
theorem k_W_count (B : Bag w K mg base) : KeptM P w K mg base "count" 2 ["self"] (sp_W_count K) := by
  obtain ⟨fd, F⟩ := B.c.def_ 45 (d := d_W_count) rfl
  obtain ⟨f_number_in, fd_number_in, g_number_in, kp_number_in, b_number_in, o_number_in⟩ := k_number_in (P := P) B
  obtain ⟨f_W_word, fd_W_word, m_word, b_W_word, o_W_word⟩ := k_W_word (P := P) B
  obtain ⟨t_NONE, c_NONE⟩ := He.str_ok B.X B.G (B.c.fact 97 (f := .str "NONE" "-") rfl)
  have cW := He.cls_ok (B.c.fact 106 (f := .cls "Words") rfl)
  have nrest := He.noat_ok (B.c.fact 107 (f := .noat "Words" "rest") rfl)
  have nmore := He.noat_ok (B.c.fact 108 (f := .noat "Words" "more") rfl)
  have mm := He.meth_ok (B.c.fact 113 (f := .meth "Words" "count") rfl)
  refine ⟨_, fd, mm, F.bindsN (fun _ _ _ _ _ _ us hl => match us, hl with | [_], _ => rfl), ?_⟩
  refine F.ok sc_W_count (fun vs H Q E h => len1 h) (fun cdv A outer s H vs Q E hr h => ?_)
  have nd := sc_W_count.nd
  have hu := hu_of hr
  refine' ⟨_, PSs.nox ?hT, ?hR⟩
  case hT => exact (pss_cons (ps_set (i := 1) nd rfl (Or.inl rfl) (pe_meth0 (pv 0) cW m_word o_W_word hr b_W_word .nil pass0))
      (pss_one (ps_ret (pe_ifExp (pt_cmpR op_eq (pv 1) (pe_glob (v := .str "-") rfl c_NONE ⟨_, rfl⟩) (nomark _)) (pe_non) (pe_call o_number_in hr rfl g_number_in kp_number_in b_number_in .nil pass0 (pa_cons (pv 1) pa_nil))))))
  clear hr hu nd mm F fd o_number_in b_number_in kp_number_in g_number_in fd_number_in o_W_word b_W_word m_word fd_W_word f_W_word c_NONE t_NONE
  try dsimp only [cxOf, Cx.nox, Cx.wish]
  obtain ⟨_, rfl, i, dx, c, ts, rfl, hi, hc, q⟩ := h
  have h32 := cnt_nb c
  cases c with
  | none =>
    have e1 : V.str (cntT none) = V.str "-" := rfl
    fail "r"
    exact q _ (by fail "c") (by fail "c") (by fail "c")
  | some n =>
    have e1 : ¬ V.str (cntT (some n)) = V.str "-" := fun z => by
      have z2 := congrArg tl (V.str.inj z)
      have := num_signs n 45 (by show 45 ∈ tl (cntT (some n)); rw [z2, tl_da]; exact List.mem_singleton.mpr rfl)
      omega
    have hc : n < big := hc
    fail "r"
    exact q _ (by fail "c") (by fail "c") (by fail "c")
def sp_W_truth (K : PySem.W.Frag) : Sp := sp1 fun v H Q => ∃ (i dx : Addr) (b : Bool) (ts : List Str), v = .ref i ∧ WdAt K H i dx (tbT b :: ts) ∧ ∀ H', But i H H' → Kp H H' → WdAt K H' i dx ts → Q (.bl b) H'
theorem sc_W_truth : FnScope ["self", "word"] ["self"] (defScope s_W_truth) := ⟨rfl, rfl, rfl, by decide +kernel, rfl, by decide +kernel, by decide +kernel⟩
theorem k_W_truth (B : Bag w K mg base) : KeptM P w K mg base "truth" 2 ["self"] (sp_W_truth K) := by
  obtain ⟨fd, F⟩ := B.c.def_ 46 (d := d_W_truth) rfl
  obtain ⟨f_W_word, fd_W_word, m_word, b_W_word, o_W_word⟩ := k_W_word (P := P) B
  have c_TRUTHS := He.glo_ok B.X B.G (B.c.fact 73 (f := .glo "TRUTHS") rfl)
  have cW := He.cls_ok (B.c.fact 106 (f := .cls "Words") rfl)
  have nrest := He.noat_ok (B.c.fact 107 (f := .noat "Words" "rest") rfl)
  have nmore := He.noat_ok (B.c.fact 108 (f := .noat "Words" "more") rfl)
  have mm := He.meth_ok (B.c.fact 114 (f := .meth "Words" "truth") rfl)
  refine ⟨_, fd, mm, F.bindsN (fun _ _ _ _ _ _ us hl => match us, hl with | [_], _ => rfl), ?_⟩
  refine F.ok sc_W_truth (fun vs H Q E h => len1 h) (fun cdv A outer s H vs Q E hr h => ?_)
  have nd := sc_W_truth.nd
  have hu := hu_of hr
  refine' ⟨_, PSs.nox ?hT, ?hR⟩
  case hT => exact (pss_cons (ps_set (i := 1) nd rfl (Or.inl rfl) (pe_meth0 (pv 0) cW m_word o_W_word hr b_W_word .nil pass0))
      (pss_cons (ps_if (pt_cmpR op_notK (pv 1) (pe_glob (v := .ref (He.ga K "TRUTHS")) rfl c_TRUTHS rfl) rfl) (pss_one (ps_never)) pss_nil)
      (pss_one (ps_ret (pe_ix ix_hasK (pe_glob (v := .ref (He.ga K "TRUTHS")) rfl c_TRUTHS rfl) (pv 1) (fun _ _ => rfl))))))
  clear hr hu nd mm F fd o_W_word b_W_word m_word fd_W_word f_W_word c_TRUTHS
  try dsimp only [cxOf, Cx.nox, Cx.wish]
  have k1 : KHas K w (He.ga K "TRUTHS") "yes" (.bl true) := B.truthK (q := ("yes", .bl true)) (by simp)
  have k2 : KHas K w (He.ga K "TRUTHS") "no" (.bl false) := B.truthK (q := ("no", .bl false)) (by simp)
  obtain ⟨_, rfl, i, dx, b, ts, rfl, hi, q⟩ := h
  have h32 : 32 ∉ tl (tbT b) := by cases b <;> decide +kernel
  have kb : KHas K w (He.ga K "TRUTHS") (tbT b) (.bl b) := by cases b; exact k2; exact k1
  fail "r"
  exact q _ (by fail "c") (by fail "c") (by fail "c")
def sp_W_text (K : PySem.W.Frag) : Sp := sp1 fun v H Q => ∃ (i dx : Addr) (x : Str) (ts : List Str), v = .ref i ∧ WdAt K H i dx (num x.length :: x :: ts) ∧ x.length ≤ 40 ∧ ∀ H', But i H H' → Kp H H' → WdAt K H' i dx ts → Q (.str x) H'
theorem sc_W_text : FnScope ["self", "many", "found"] ["self"] (defScope s_W_text) := ⟨rfl, rfl, rfl, by decide +kernel, rfl, by decide +kernel, by decide +kernel⟩
theorem k_W_text (B : Bag w K mg base) : KeptM P w K mg base "text" 3 ["self"] (sp_W_text K) := by
  obtain ⟨fd, F⟩ := B.c.def_ 47 (d := d_W_text) rfl
  obtain ⟨f_W_number, fd_W_number, m_number, b_W_number, o_W_number⟩ := k_W_number (P := P) B
  have n_len := He.free_ok B.X B.G (B.c.fact 81 (f := .free "len") rfl)
  have cW := He.cls_ok (B.c.fact 106 (f := .cls "Words") rfl)
  have nrest := He.noat_ok (B.c.fact 107 (f := .noat "Words" "rest") rfl)
  have nmore := He.noat_ok (B.c.fact 108 (f := .noat "Words" "more") rfl)
  have mm := He.meth_ok (B.c.fact 115 (f := .meth "Words" "text") rfl)
  refine ⟨_, fd, mm, F.bindsN (fun _ _ _ _ _ _ us hl => match us, hl with | [_], _ => rfl), ?_⟩
  refine F.ok sc_W_text (fun vs H Q E h => len1 h) (fun cdv A outer s H vs Q E hr h => ?_)
  have nd := sc_W_text.nd
  have hu := hu_of hr
  refine' ⟨_, PSs.nox ?hT, ?hR⟩
  case hT => exact (pss_cons (ps_set (i := 1) nd rfl (Or.inl rfl) (pe_meth0 (pv 0) cW m_number o_W_number hr b_W_number .nil pass0))
      (pss_cons (ps_set (i := 2) nd rfl (Or.inl rfl) (pe_slice sl_strN (pe_fld (pv 0) rfl) po_none (po_some (pv 1))))
      (pss_cons (ps_if (PW.pt (pw_or (pt_not (pt_val (pe_fld (pv 0) rfl))) (pw_or1 (pt_cmpR op_lt (pe_callB call_len_str rfl n_len (by decide +kernel) (pa_cons (pv 2) pa_nil)) (pv 1) (nomark _))))) (pss_one (ps_never)) pss_nil)
      (pss_cons (ps_fldA (pv 0) (pe_slice sl_strN (pe_fld (pv 0) rfl) (po_some (pv 1)) po_none) rfl)
      (pss_cons (ps_fldA (pv 0) (pe_cmpR op_ne (pe_fld (pv 0) rfl) (pe_str) (nomark _)) rfl)
      (pss_cons (ps_if (PW.pt (pw_and (pt_val (pe_fld (pv 0) rfl)) (pw_and1 (pt_cmpR op_ne (pe_ix ix_str (pe_fld (pv 0) rfl) (pe_int) (fun _ _ => rfl)) (pe_str) (nomark _))))) (pss_one (ps_never)) pss_nil)
      (pss_cons (ps_fldA (pv 0) (pe_slice sl_strN (pe_fld (pv 0) rfl) (po_some (pe_int)) po_none) rfl)
      (pss_one (ps_ret (pv 2))))))))))
  clear hr hu nd mm F fd o_W_number b_W_number m_number fd_W_number f_W_number n_len
  try dsimp only [cxOf, Cx.nox, Cx.wish]
  obtain ⟨_, rfl, i, dx, x, ts, rfl, hi, hx, q⟩ := h
  have hn := small_big hx
  have hx2 : x.length ≤ sizeLine := by fail "z"
  have hz1 : (bj (x :: ts)).length ≤ 100000 := by
    have := hi.2
    rw [bj_cons (by simp)] at this
    simp only [PySem.Str.length_append] at this
    omega
  have hz : (bj (x :: ts)).length ≤ sizeLine := Nat.le_trans hz1 (by decide)
  cases ts with
  | nil =>
    have e1 : Nm (cutS (bj [x]) none (some (x.length : Int))) x := ⟨by have := cutS_to (x := x) (r := Str.empty); rw [PySem.Str.append_empty] at this; exact this⟩
    have e2 : Nm (cutS (bj [x]) (some (x.length : Int)) none) Str.empty := ⟨by have := cutS_behind (x := x) (r := Str.empty); rw [PySem.Str.append_empty] at this; exact this⟩
    have e3 : Nm (cutS Str.empty (some 1) none) Str.empty := ⟨by decide +kernel⟩
    have e4 : V.str Str.empty = V.str "" := by decide +kernel
    fail "r"
    have a11 := a_11
    rw [putF1, putF2, putF1, em_dec] at a11
    exact q _ (by fail "c") (by fail "c") ⟨a11, Nat.zero_le _⟩
  | cons u ts =>
    have e0 : bj (x :: u :: ts) = x ++ (" " ++ bj (u :: ts)) := by rw [bj_cons (by simp), PySem.Str.append_assoc]
    have e1 : Nm (cutS (bj (x :: u :: ts)) none (some (x.length : Int))) x := ⟨by rw [e0]; exact cutS_to⟩
    have e2 : Nm (cutS (bj (x :: u :: ts)) (some (x.length : Int)) none) (" " ++ bj (u :: ts)) := ⟨by rw [e0]; exact cutS_behind⟩
    have e3 : Nm (cutS (" " ++ bj (u :: ts)) (some 1) none) (bj (u :: ts)) := ⟨by have := cutS_behind (x := " ") (r := bj (u :: ts)); rw [len_bl] at this; exact this⟩
    have e4 : ¬ V.str (" " ++ bj (u :: ts)) = V.str "" := fun z => by
      have z2 := congrArg tl (V.str.inj z)
      rw [tl_append, tl_bl, em_str] at z2
      cases z2
    have hz2 : (" " ++ bj (u :: ts)).length ≤ sizeLine := by
      rw [e0, PySem.Str.length_append] at hz
      omega
    have e5 : atI (" " ++ bj (u :: ts)).cps.toList 0 = some 32 := atI_at (k := 0) (by
      show (tl (" " ++ bj (u :: ts)))[0]? = some 32
      rw [tl_append, tl_bl]
      rfl)
    have e6 : V.str ⟨#[32]⟩ = V.str " " := by decide +kernel
    fail "r"
    have a11 := a_11
    rw [putF1, putF2, putF1, decide_eq_false e4] at a11
    exact q _ (by fail "c") (by fail "c") ⟨a11, by
      rw [e0] at hz1
      simp only [PySem.Str.length_append] at hz1
      omega⟩
def sp_W_plain (K : PySem.W.Frag) : Sp := sp2 fun v u H Q => ∃ (i dx : Addr) (x : Str) (p : Pl) (as ts : List Str), v = .ref i ∧ u = .str x ∧ p.Ok ∧ tokP p = x :: as ∧ WdAt K H i dx (as ++ ts) ∧ ∀ r H', But i H H' → Kp H H' → WdAt K H' i dx ts → Dt K H' r p.d → Q r H'
theorem sc_W_plain : FnScope ["self", "word", "path", "count", "own", "numbered"] ["self", "word"] (defScope s_W_plain) := ⟨rfl, rfl, rfl, by decide +kernel, rfl, by decide +kernel, by decide +kernel⟩
theorem k_W_plain (B : Bag w K mg base) : KeptM P w K mg base "plain" 4 ["self", "word"] (sp_W_plain K) := by
  obtain ⟨fd, F⟩ := B.c.def_ 48 (d := d_W_plain) rfl
  obtain ⟨f_W_word, fd_W_word, m_word, b_W_word, o_W_word⟩ := k_W_word (P := P) B
  obtain ⟨f_W_truth, fd_W_truth, m_truth, b_W_truth, o_W_truth⟩ := k_W_truth (P := P) B
  obtain ⟨f_W_text, fd_W_text, m_text, b_W_text, o_W_text⟩ := k_W_text (P := P) B
  obtain ⟨f_W_count, fd_W_count, m_count, b_W_count, o_W_count⟩ := k_W_count (P := P) B
  have cW := He.cls_ok (B.c.fact 106 (f := .cls "Words") rfl)
  have nrest := He.noat_ok (B.c.fact 107 (f := .noat "Words" "rest") rfl)
  have nmore := He.noat_ok (B.c.fact 108 (f := .noat "Words" "more") rfl)
  have mm := He.meth_ok (B.c.fact 116 (f := .meth "Words" "plain") rfl)
  refine ⟨_, fd, mm, F.bindsN (fun _ _ _ _ _ _ us hl => match us, hl with | [_, _], _ => rfl), ?_⟩
  refine F.ok sc_W_plain (fun vs H Q E h => len2 h) (fun cdv A outer s H vs Q E hr h => ?_)
  have nd := sc_W_plain.nd
  have hu := hu_of hr
  refine' ⟨_, PSs.nox ?hT, ?hR⟩
  case hT => exact (pss_cons (ps_set (i := 2) nd rfl (Or.inl rfl) (pe_meth0 (pv 0) cW m_word o_W_word (hr.mono (by decide)) b_W_word .nil pass0))
      (pss_cons (ps_if (pt_cmpR op_eq (pv 1) (pe_str) (nomark _)) (pss_cons (ps_par (i := 4) (j := 5) rfl nd rfl rfl (by decide) rfl rfl (pa_cons (pe_meth0 (pv 0) cW m_truth o_W_truth (hr.mono (by decide)) b_W_truth .nil pass0) (pa_cons (pe_meth0 (pv 0) cW m_truth o_W_truth (hr.mono (by decide)) b_W_truth .nil pass0) pa_nil)) rfl)
      (pss_one (ps_ret (pe_tupA (pa_cons (pv 1) (pa_cons (pv 2) (pa_cons (pe_meth0 (pv 0) cW m_text o_W_text hr b_W_text .nil pass0) (pa_cons (pv 4) (pa_cons (pv 5) pa_nil))))))))) pss_nil)
      (pss_cons (ps_set (i := 3) nd rfl (Or.inl rfl) (pe_meth0 (pv 0) cW m_count o_W_count (hr.mono (by decide)) b_W_count .nil pass0))
      (pss_cons (ps_if (pt_cmpR op_eq (pv 1) (pe_str) (nomark _)) (pss_one (ps_ret (pe_tupA (pa_cons (pv 1) (pa_cons (pv 2) (pa_cons (pe_meth0 (pv 0) cW m_text o_W_text hr b_W_text .nil pass0) (pa_cons (pv 3) pa_nil))))))) pss_nil)
      (pss_one (ps_ret (pe_tupA (pa_cons (pv 1) (pa_cons (pv 2) (pa_cons (pv 3) pa_nil))))))))))
  clear hr hu nd mm F fd o_W_word b_W_word m_word fd_W_word f_W_word o_W_truth b_W_truth m_truth fd_W_truth f_W_truth o_W_text b_W_text m_text fd_W_text f_W_text o_W_count b_W_count m_count fd_W_count f_W_count
  try dsimp only [cxOf, Cx.nox, Cx.wish]
  obtain ⟨_, _, rfl, i, dx, x0, p, as, ts, rfl, rfl, ok, ht, hi, q⟩ := h
  cases p with
  | make x t o n =>
    obtain ⟨rfl, rfl⟩ := List.cons.inj ht
    have hi : WdAt K H i dx (x :: tbT o :: tbT n :: num t.length :: t :: ts) := hi
    have h1 := path_nb ok.1
    have h2 := ok.2.2.1.1
    fail "r"
    exact q _ _ (by fail "c") (by fail "c") (by fail "c") (Dt.tup (TpK.of (by fail "c")) (.cons (.str _) (.cons (.str _) (.cons (.str _) (.cons (.bl _) (.cons (.bl _) .nil))))))
  | put x t c =>
    obtain ⟨rfl, rfl⟩ := List.cons.inj ht
    have hi : WdAt K H i dx (x :: cntT c :: num t.length :: t :: ts) := hi
    have h1 := path_nb ok.1
    have h2 := ok.2.1.1
    have h3 := ok.2.2
    fail "r"
    exact q _ _ (by fail "c") (by fail "c") (by fail "c") (Dt.tup (TpK.of (by fail "c")) (.cons (.str _) (.cons (.str _) (.cons (.str _) (.cons dtCnt .nil)))))
  | drop x c =>
    obtain ⟨rfl, rfl⟩ := List.cons.inj ht
    have hi : WdAt K H i dx (x :: cntT c :: ts) := hi
    have h1 := path_nb ok.1
    have h3 := ok.2.2
    fail "r"
    exact q _ _ (by fail "c") (by fail "c") (by fail "c") (Dt.tup (TpK.of (by fail "c")) (.cons (.str _) (.cons (.str _) (.cons dtCnt .nil))))
  | see x c =>
    obtain ⟨rfl, rfl⟩ := List.cons.inj ht
    have hi : WdAt K H i dx (x :: cntT c :: ts) := hi
    have h1 := path_nb ok.1
    have h3 := ok.2
    fail "r"
    exact q _ _ (by fail "c") (by fail "c") (by fail "c") (Dt.tup (TpK.of (by fail "c")) (.cons (.str _) (.cons (.str _) (.cons dtCnt .nil))))
def sp_W_deed (K : PySem.W.Frag) : Sp := sp1 fun v H Q => ∃ (i dx : Addr) (d : De) (ts : List Str), v = .ref i ∧ d.Ok ∧ WdAt K H i dx (tokD d ++ ts) ∧ ∀ r H', But i H H' → Kp H H' → WdAt K H' i dx ts → Dt K H' r d.d → Q r H'
theorem sc_W_deed : FnScope ["self", "word", "turn"] ["self"] (defScope s_W_deed) := ⟨rfl, rfl, rfl, by decide +kernel, rfl, by decide +kernel, by decide +kernel⟩
theorem k_W_deed (B : Bag w K mg base) : KeptM P w K mg base "deed" 5 ["self"] (sp_W_deed K) := by
  obtain ⟨fd, F⟩ := B.c.def_ 49 (d := d_W_deed) rfl
  obtain ⟨f_W_word, fd_W_word, m_word, b_W_word, o_W_word⟩ := k_W_word (P := P) B
  obtain ⟨f_W_number, fd_W_number, m_number, b_W_number, o_W_number⟩ := k_W_number (P := P) B
  obtain ⟨f_W_plain, fd_W_plain, m_plain, b_W_plain, o_W_plain⟩ := k_W_plain (P := P) B
  have n_min := He.free_ok B.X B.G (B.c.fact 89 (f := .free "min") rfl)
  have n_range := He.free_ok B.X B.G (B.c.fact 91 (f := .free "range") rfl)
  have n_tuple := He.free_ok B.X B.G (B.c.fact 83 (f := .free "tuple") rfl)
  obtain ⟨t_MOST_NODES, c_MOST_NODES⟩ := He.int_ok B.X B.G (B.c.fact 101 (f := .int "MOST_NODES" 60) rfl)
  have cW := He.cls_ok (B.c.fact 106 (f := .cls "Words") rfl)
  have nrest := He.noat_ok (B.c.fact 107 (f := .noat "Words" "rest") rfl)
  have nmore := He.noat_ok (B.c.fact 108 (f := .noat "Words" "more") rfl)
  have mm := He.meth_ok (B.c.fact 117 (f := .meth "Words" "deed") rfl)
  refine ⟨_, fd, mm, F.bindsN (fun _ _ _ _ _ _ us hl => match us, hl with | [_], _ => rfl), ?_⟩
  refine F.ok sc_W_deed (fun vs H Q E h => len1 h) (fun cdv A outer s H vs Q E hr h => ?_)
  have nd := sc_W_deed.nd
  have hu := hu_of hr
  refine' ⟨_, PSs.nox ?hT, ?hR⟩
  case hT => exact (pss_cons (ps_set (i := 1) nd rfl (Or.inl rfl) (pe_meth0 (pv 0) cW m_word o_W_word (hr.mono (by decide)) b_W_word .nil pass0))
      (pss_cons (ps_if (pt_cmpR op_in_seq (pv 1) (pe_tupA (pa_cons (pe_str) (pa_cons (pe_str) pa_nil))) rfl) (pss_one (ps_ret (pe_tupA (pa_cons (pv 1) pa_nil)))) pss_nil)
      (pss_cons (ps_if (pt_cmpR op_eq (pv 1) (pe_str) (nomark _)) (pss_one (ps_ret (pe_tupA (pa_cons (pv 1) (pa_cons (pe_meth0 (pv 0) cW m_number o_W_number (hr.mono (by decide)) b_W_number .nil pass0) pa_nil))))) pss_nil)
      (pss_cons (ps_if (pt_cmpR op_eq (pv 1) (pe_str) (nomark _)) (pss_one (ps_ret (pe_tupA (pa_cons (pv 1) (pa_cons (pe_callTy call_tupleA rfl n_tuple boot_tuple (pa_cons (pe_lc (own := [("turn", 2)]) (g := gName 2) (tt := tYes) rfl nd (pi_range1 rfl n_range (pa_cons (pe_callB (call_min2 rfl) rfl n_min (by decide +kernel) (pa_cons (pe_meth0 (pv 0) cW m_number o_W_number (hr.mono (by decide)) b_W_number .nil pass0) (pa_cons (pe_glob (v := .int 60) rfl c_MOST_NODES ⟨_, rfl⟩) pa_nil))) pa_nil)) (blkOk_by (N := ["self", "word", "turn"]) (sc := defScope s_W_deed) (by decide +kernel)) (fun _ _ _ _ _ => (pg_name (i := 2) nd rfl (Or.inl rfl))) (fun _ _ _ _ _ => pts_nil) (fun _ _ _ _ _ => (pe_meth (pv 0) cW m_plain o_W_plain hr b_W_plain .nil pass0 (pa_cons (pe_meth0 (pv 0) cW m_word o_W_word (hr.mono (by decide)) b_W_word .nil pass0) pa_nil)))) pa_nil)) pa_nil))))) pss_nil)
      (pss_one (ps_ret (pe_meth (pv 0) cW m_plain o_W_plain hr b_W_plain .nil pass0 (pa_cons (pv 1) pa_nil))))))))
  clear hr hu nd mm F fd o_W_word b_W_word m_word fd_W_word f_W_word o_W_number b_W_number m_number fd_W_number f_W_number o_W_plain b_W_plain m_plain fd_W_plain f_W_plain n_min n_range n_tuple c_MOST_NODES t_MOST_NODES
  try dsimp only [cxOf, Cx.nox, Cx.wish]
  obtain ⟨_, rfl, i, dx, d, ts, rfl, ok, hi, q⟩ := h
  cases d with
  | plain p =>
    obtain ⟨x, as, ht, n1, n2, n3, n4⟩ := tokP_head p
    have hi : WdAt K H i dx (x :: (as ++ ts)) := by
      have : tokD (.plain p) ++ ts = x :: (as ++ ts) := by show tokP p ++ ts = _; rw [ht]; rfl
      rw [← this]
      exact hi
    have ok : p.Ok := ok
    fail "r"
    exact q _ _ (by fail "c") (by fail "c") (by fail "c") (by fail "c")
  | all ps =>
    have hi : WdAt K H i dx ("all" :: num ps.length :: ((ps.map tokP).flatten ++ ts)) := hi
    have h1 : 32 ∉ tl ("all" : Str) := by decide +kernel
    have h2 := small_big ok.2.1
    have h3 := num_nb ps.length
    have h6 : ps.length ≤ 6 := ok.2.1
    have hlt : ¬ (60 : Int) < ps.length := by omega
    have hpl : (List.replicate ps.length (0 : Nat)).length = ps.length := List.length_replicate
    fail "r"
    rw [if_neg hlt]
    refine lc_it (walk_range (lo := 0) (n := ps.length)) (fun k Hi => But i H'_2 Hi ∧ Kp H'_2 Hi ∧ WdAt K Hi i dx (((ps.drop k).map tokP).flatten ++ ts) ∧ ∃ xs, Hi D = some (.lst xs) ∧ DtA K Hi xs ((ps.take k).map Pl.d) ∧ xs.length ≤ k) ?_ (fun _ _ _ _ => trivial) (fun k y H2 H3 hk p' z => ?_) (fun H2 p' => ?_)
    · exact ⟨But.of (sameUpd a_9), kpSame (sameUpd a_9), wdS (sameUpd a_9) a_8, [], upd_same, .nil, Nat.le_refl _⟩
    · obtain ⟨rfl, rfl⟩ := z
      obtain ⟨b2, k2, w2, xs, hD, hxs, hxl⟩ := p'
      have hp : ps[k]? = some ps[k] := List.getElem?_eq_getElem hk
      have pk := ok.2.2 _ (List.mem_of_getElem? hp)
      obtain ⟨x, as, ht, n32, _, n3, n4⟩ := tokP_head ps[k]
      have e : ((ps.drop k).map tokP).flatten ++ ts = x :: (as ++ (((ps.drop (k + 1)).map tokP).flatten ++ ts)) := by
        rw [drop_at hp, List.map_cons, List.flatten_cons, ht, List.append_assoc (x :: as)]
        rfl
      rw [e] at w2
      have nDi : D ≠ i := (neF a_9 a_8.1).symm
      have hxl2 : xs.length < sizeLine := small_size (m := 6) (by omega)
      rw [take_at hp, List.map_append]
      fail "s"
      · exact butUP a_9 (by fail "c")
      have hD4 : H'_4 D = some (HO.lst xs) := by fail "c"
      exact ⟨kpUP a_9 (by fail "c"), wdB (But.upd _ _ _) nDi.symm (by fail "c"), _, upd_same, DtA.snoc (dtL hD4 (by fail "c")) (daL hD4 (by fail "c")), by rw [List.length_append]; show xs.length + 1 ≤ k + 1; omega⟩
    · obtain ⟨b2, k2, w2, xs, hD, hxs, hxl⟩ := p'
      rw [List.drop_length] at w2
      rw [List.take_length] at hxs
      have w2 : WdAt K H2 i dx ts := w2
      fail "r"
      exact q _ _ (by fail "c") (by fail "c") (by fail "c") (Dt.tup (TpK.of (by fail "c")) (.cons (.str _) (.cons (Dt.tup (TpK.of (by fail "c")) (by fail "c")) .nil)))
  | opn n =>
    have hi : WdAt K H i dx ("open" :: num n :: ts) := hi
    have h1 : 32 ∉ tl ("open" : Str) := by decide +kernel
    have h2 := small_big ok.2
    fail "r"
    exact q _ _ (by fail "c") (by fail "c") (by fail "c") (Dt.tup (TpK.of (by fail "c")) (.cons (.str _) (.cons (.int _) .nil)))
  | close =>
    have hi : WdAt K H i dx ("close" :: ts) := hi
    have h1 : 32 ∉ tl ("close" : Str) := by decide +kernel
    fail "r"
    exact q _ _ (by fail "c") (by fail "c") (by fail "c") (Dt.tup (TpK.of (by fail "c")) (.cons (.str _) .nil))
  | bring =>
    have hi : WdAt K H i dx ("bring" :: ts) := hi
    have h1 : 32 ∉ tl ("bring" : Str) := by decide +kernel
    fail "r"
    exact q _ _ (by fail "c") (by fail "c") (by fail "c") (Dt.tup (TpK.of (by fail "c")) (.cons (.str _) .nil))
def sp_W_entry (K : PySem.W.Frag) : Sp := sp1 fun v H Q => ∃ (i dx : Addr) (e : En) (ts : List Str), v = .ref i ∧ e.Ok ∧ WdAt K H i dx (tokE e ++ ts) ∧ ∀ r H', But i H H' → Kp H H' → WdAt K H' i dx ts → Dt K H' r e.d → Q r H'
theorem sc_W_entry : FnScope ["self", "word", "asker", "stamp"] ["self"] (defScope s_W_entry) := ⟨rfl, rfl, rfl, by decide +kernel, rfl, by decide +kernel, by decide +kernel⟩
theorem k_W_entry (B : Bag w K mg base) : KeptM P w K mg base "entry" 6 ["self"] (sp_W_entry K) := by
  obtain ⟨fd, F⟩ := B.c.def_ 50 (d := d_W_entry) rfl
  obtain ⟨f_dotted_in, fd_dotted_in, g_dotted_in, kp_dotted_in, b_dotted_in, o_dotted_in⟩ := k_dotted_in (P := P) B
  obtain ⟨f_W_word, fd_W_word, m_word, b_W_word, o_W_word⟩ := k_W_word (P := P) B
  obtain ⟨f_W_deed, fd_W_deed, m_deed, b_W_deed, o_W_deed⟩ := k_W_deed (P := P) B
  have cW := He.cls_ok (B.c.fact 106 (f := .cls "Words") rfl)
  have nrest := He.noat_ok (B.c.fact 107 (f := .noat "Words" "rest") rfl)
  have nmore := He.noat_ok (B.c.fact 108 (f := .noat "Words" "more") rfl)
  have mm := He.meth_ok (B.c.fact 118 (f := .meth "Words" "entry") rfl)
  refine ⟨_, fd, mm, F.bindsN (fun _ _ _ _ _ _ us hl => match us, hl with | [_], _ => rfl), ?_⟩
  refine F.ok sc_W_entry (fun vs H Q E h => len1 h) (fun cdv A outer s H vs Q E hr h => ?_)
  have nd := sc_W_entry.nd
  have hu := hu_of hr
  refine' ⟨_, PSs.nox ?hT, ?hR⟩
  case hT => exact (pss_cons (ps_set (i := 1) nd rfl (Or.inl rfl) (pe_meth0 (pv 0) cW m_word o_W_word (hr.mono (by decide)) b_W_word .nil pass0))
      (pss_cons (ps_if (pt_cmpR op_eq (pv 1) (pe_str) (nomark _)) (pss_one (ps_ret (pe_tupA (pa_cons (pv 1) (pa_cons (pe_meth0 (pv 0) cW m_word o_W_word (hr.mono (by decide)) b_W_word .nil pass0) pa_nil))))) pss_nil)
      (pss_cons (ps_asg (pe_call o_dotted_in (hr.mono (by decide)) rfl g_dotted_in kp_dotted_in b_dotted_in .nil pass0 (pa_cons (pv 1) pa_nil)) (pg_tup rfl (pgs_cons (pg_name (i := 2) nd rfl (Or.inl rfl)) (pgs_cons (pg_name (i := 3) nd rfl (Or.inl rfl)) pgs_nil))))
      (pss_one (ps_ret (pe_tupA (pa_cons (pe_str) (pa_cons (pv 2) (pa_cons (pv 3) (pa_cons (pe_meth0 (pv 0) cW m_deed o_W_deed hr b_W_deed .nil pass0) pa_nil))))))))))
  clear hr hu nd mm F fd o_dotted_in b_dotted_in kp_dotted_in g_dotted_in fd_dotted_in o_W_word b_W_word m_word fd_W_word f_W_word o_W_deed b_W_deed m_deed fd_W_deed f_W_deed
  try dsimp only [cxOf, Cx.nox, Cx.wish]
  obtain ⟨_, rfl, i, dx, e, ts, rfl, ok, hi, q⟩ := h
  cases e with
  | ask who n d =>
    have hi : WdAt K H i dx ((who ++ "." ++ num n) :: (tokD d ++ ts)) := hi
    obtain ⟨hw, h1, h2, hdk⟩ := ok
    have h3 : 32 ∉ tl (who ++ "." ++ num n) := nb_app (nb_app (word_nb hw) (by decide +kernel)) (num_nb n)
    have h4 := word_nd hw
    have h5 : who.length ≤ 200 := Nat.le_trans hw.2.1 (by decide)
    have e1 : ¬ V.str (who ++ "." ++ num n) = V.str "end" := fun z => by
      have z2 := congrArg tl (V.str.inj z)
      have z3 : 46 ∈ tl ("end" : Str) := by
        rw [← z2, tl_append, tl_append, tl_dot]
        simp
      exact absurd z3 (by decide +kernel)
    fail "r"
    exact q _ _ (by fail "c") (by fail "c") (by fail "c") (Dt.tup (TpK.of (by fail "c")) (.cons (.str _) (.cons (.str _) (.cons (.int _) (.cons (by fail "c") .nil)))))
  | fin who =>
    have hi : WdAt K H i dx ("end" :: who :: ts) := hi
    have h1 : 32 ∉ tl ("end" : Str) := by decide +kernel
    have h2 := word_nb (show WordOk who from ok)
    fail "r"
    exact q _ _ (by fail "c") (by fail "c") (by fail "c") (Dt.tup (TpK.of (by fail "c")) (.cons (.str _) (.cons (.str _) .nil)))
def sp_entry_in (K : PySem.W.Frag) : Sp := sp1 fun v H Q => ∃ (i dx : Addr) (e : En), v = .ref i ∧ e.Ok ∧ WdAt K H i dx (tokE e) ∧ ∀ r H', But i H H' → Kp H H' → Dt K H' r e.d → Q r H'
theorem sc_entry_in : FnScope ["words", "found"] ["words"] (defScope s_entry_in) := ⟨rfl, rfl, rfl, by decide +kernel, rfl, by decide +kernel, by decide +kernel⟩
theorem k_entry_in (B : Bag w K mg base) : Kept P w K mg base "entry_in" 7 ["words"] (sp_entry_in K) := by
  obtain ⟨fd, F⟩ := B.c.def_ 51 (d := d_entry_in) rfl
  obtain ⟨f_is_entry, fd_is_entry, g_is_entry, kp_is_entry, b_is_entry, o_is_entry⟩ := k_is_entry (P := P) B
  obtain ⟨f_W_entry, fd_W_entry, m_entry, b_W_entry, o_W_entry⟩ := k_W_entry (P := P) B
  have cW := He.cls_ok (B.c.fact 106 (f := .cls "Words") rfl)
  have nrest := He.noat_ok (B.c.fact 107 (f := .noat "Words" "rest") rfl)
  have nmore := He.noat_ok (B.c.fact 108 (f := .noat "Words" "more") rfl)
  have g0 := He.glo_ok B.X B.G (B.c.fact 43 (f := .glo "entry_in") rfl)
  refine ⟨_, fd, g0, F.kp, F.bindsN (fun _ _ _ _ _ _ us hl => match us, hl with | [_], _ => rfl), ?_⟩
  refine F.ok sc_entry_in (fun vs H Q E h => len1 h) (fun cdv A outer s H vs Q E hr h => ?_)
  have nd := sc_entry_in.nd
  have hu := hu_of hr
  refine' ⟨_, PSs.nox ?hT, ?hR⟩
  case hT => exact (pss_cons (ps_set (i := 1) nd rfl (Or.inl rfl) (pe_meth0 (pv 0) cW m_entry o_W_entry hr b_W_entry .nil pass0))
      (pss_cons (ps_if (PW.pt (pw_or (pt_val (pe_fld (pv 0) rfl)) (pw_or1 (pt_not (pt_val (pe_call o_is_entry hr rfl g_is_entry kp_is_entry b_is_entry .nil pass0 (pa_cons (pv 1) pa_nil))))))) (pss_one (ps_never)) pss_nil)
      (pss_one (ps_ret (pv 1)))))
  clear hr hu nd g0 F fd o_is_entry b_is_entry kp_is_entry g_is_entry fd_is_entry o_W_entry b_W_entry m_entry fd_W_entry f_W_entry
  try dsimp only [cxOf, Cx.nox, Cx.wish]
  obtain ⟨_, rfl, i, dx, e, rfl, ok, hi, q⟩ := h
  have hi : WdAt K H i dx (tokE e ++ []) := by rw [List.append_nil]; exact hi
  fail "r"
  exact q _ _ (by fail "c") (by fail "c") (by fail "c")
/-- a def that reads a row -/
abbrev spRd {α : Type} (K : PySem.W.Frag) (T : α → Str) (D : α → PyData) (ok : α → Prop) : Sp := sp1 fun v H Q => ∃ x : α, v = .str (T x) ∧ ok x ∧ ∀ r H', L2.Same H H' → Dt K H' r (D x) → Q r H'
abbrev sp_entry_of (K : PySem.W.Frag) : Sp := spRd K (fun e : En => bj (tokE e)) En.d En.Ok
theorem sc_entry_of : FnScope ["row"] ["row"] (defScope s_entry_of) := ⟨rfl, rfl, rfl, by decide +kernel, rfl, by decide +kernel, by decide +kernel⟩
theorem k_entry_of (B : Bag w K mg base) : Kept P w K mg base "entry_of" 8 ["row"] (sp_entry_of K) := by
  obtain ⟨fd, F⟩ := B.c.def_ 52 (d := d_entry_of) rfl
  obtain ⟨f_entry_in, fd_entry_in, g_entry_in, kp_entry_in, b_entry_in, o_entry_in⟩ := k_entry_in (P := P) B
  obtain ⟨f_W_init, fd_W_init, mkW, b_W_init, o_W_init⟩ := k_W_init (P := P) B
  have gW := He.glo_ok B.X B.G (B.c.fact 42 (f := .glo "Words") rfl)
  have cW := He.cls_ok (B.c.fact 106 (f := .cls "Words") rfl)
  have nrest := He.noat_ok (B.c.fact 107 (f := .noat "Words" "rest") rfl)
  have nmore := He.noat_ok (B.c.fact 108 (f := .noat "Words" "more") rfl)
  have g0 := He.glo_ok B.X B.G (B.c.fact 44 (f := .glo "entry_of") rfl)
  refine ⟨_, fd, g0, F.kp, F.bindsN (fun _ _ _ _ _ _ us hl => match us, hl with | [_], _ => rfl), ?_⟩
  refine F.ok sc_entry_of (fun vs H Q E h => len1 h) (fun cdv A outer s H vs Q E hr h => ?_)
  have nd := sc_entry_of.nd
  have hu := hu_of hr
  refine' ⟨_, PSs.nox ?hT, ?hR⟩
  case hT => exact (pss_one (ps_ret (pe_call o_entry_in hr rfl g_entry_in kp_entry_in b_entry_in .nil pass0 (pa_cons (pe_makeA mkW o_W_init (hr.mono (by decide)) rfl gW b_W_init .nil pass0 (pa_cons (pv 0) pa_nil)) pa_nil))))
  clear hr hu nd g0 F fd o_entry_in b_entry_in kp_entry_in g_entry_in fd_entry_in o_W_init b_W_init gW mkW fd_W_init f_W_init
  try dsimp only [cxOf, Cx.nox, Cx.wish]
  obtain ⟨_, rfl, e, rfl, ok, q⟩ := h
  have h1 := tokE_ne e
  have h2 : (bj (tokE e)).length ≤ 100000 := Nat.le_trans (len_tokE ok) (by decide)
  fail "r"
  exact q _ _ (by fail "c") (by fail "c")
abbrev sp_thing_of (K : PySem.W.Frag) : Sp := spRd K (fun t : Thing => bj (tokT t)) thD Thing.Ok
theorem sc_thing_of : FnScope ["row", "words", "epoch", "number"] ["row"] (defScope s_thing_of) := ⟨rfl, rfl, rfl, by decide +kernel, rfl, by decide +kernel, by decide +kernel⟩
theorem k_thing_of (B : Bag w K mg base) : Kept P w K mg base "thing_of" 8 ["row"] (sp_thing_of K) := by
  obtain ⟨fd, F⟩ := B.c.def_ 53 (d := d_thing_of) rfl
  obtain ⟨f_dotted_in, fd_dotted_in, g_dotted_in, kp_dotted_in, b_dotted_in, o_dotted_in⟩ := k_dotted_in (P := P) B
  obtain ⟨f_entry_in, fd_entry_in, g_entry_in, kp_entry_in, b_entry_in, o_entry_in⟩ := k_entry_in (P := P) B
  obtain ⟨f_number_in, fd_number_in, g_number_in, kp_number_in, b_number_in, o_number_in⟩ := k_number_in (P := P) B
  obtain ⟨f_W_word, fd_W_word, m_word, b_W_word, o_W_word⟩ := k_W_word (P := P) B
  obtain ⟨f_W_init, fd_W_init, mkW, b_W_init, o_W_init⟩ := k_W_init (P := P) B
  have gW := He.glo_ok B.X B.G (B.c.fact 42 (f := .glo "Words") rfl)
  have cW := He.cls_ok (B.c.fact 106 (f := .cls "Words") rfl)
  have nrest := He.noat_ok (B.c.fact 107 (f := .noat "Words" "rest") rfl)
  have nmore := He.noat_ok (B.c.fact 108 (f := .noat "Words" "more") rfl)
  have g0 := He.glo_ok B.X B.G (B.c.fact 45 (f := .glo "thing_of") rfl)
  refine ⟨_, fd, g0, F.kp, F.bindsN (fun _ _ _ _ _ _ us hl => match us, hl with | [_], _ => rfl), ?_⟩
  refine F.ok sc_thing_of (fun vs H Q E h => len1 h) (fun cdv A outer s H vs Q E hr h => ?_)
  have nd := sc_thing_of.nd
  have hu := hu_of hr
  refine' ⟨_, PSs.nox ?hT, ?hR⟩
  case hT => exact (pss_cons (ps_set (i := 1) nd rfl (Or.inl rfl) (pe_makeA mkW o_W_init (hr.mono (by decide)) rfl gW b_W_init .nil pass0 (pa_cons (pv 0) pa_nil)))
      (pss_cons (ps_asg (pe_call o_dotted_in (hr.mono (by decide)) rfl g_dotted_in kp_dotted_in b_dotted_in .nil pass0 (pa_cons (pe_meth0 (pv 1) cW m_word o_W_word (hr.mono (by decide)) b_W_word .nil pass0) pa_nil)) (pg_tup rfl (pgs_cons (pg_name (i := 2) nd rfl (Or.inl rfl)) (pgs_cons (pg_name (i := 3) nd rfl (Or.inl rfl)) pgs_nil))))
      (pss_one (ps_ret (pe_tupA (pa_cons (pe_tupA (pa_cons (pe_call o_number_in (hr.mono (by decide)) rfl g_number_in kp_number_in b_number_in .nil pass0 (pa_cons (pv 2) pa_nil)) (pa_cons (pv 3) pa_nil))) (pa_cons (pe_call o_entry_in hr rfl g_entry_in kp_entry_in b_entry_in .nil pass0 (pa_cons (pv 1) pa_nil)) pa_nil)))))))
  clear hr hu nd g0 F fd o_dotted_in b_dotted_in kp_dotted_in g_dotted_in fd_dotted_in o_entry_in b_entry_in kp_entry_in g_entry_in fd_entry_in o_number_in b_number_in kp_number_in g_number_in fd_number_in o_W_word b_W_word m_word fd_W_word f_W_word o_W_init b_W_init gW mkW fd_W_init f_W_init
  try dsimp only [cxOf, Cx.nox, Cx.wish]
  obtain ⟨_, rfl, t, hv, ok, q⟩ := h
  have hv : w_1 = .str (bj (plT t.1 :: tokE t.2)) := hv
  subst hv
  have h2 : (bj (plT t.1 :: tokE t.2)).length ≤ 100000 := Nat.le_trans (len_tokT ok) (by decide)
  have h3 := pl_nb t.1
  have h4 := ok.1
  have h5 := ok.2
  have h6 := num_nd t.1.1
  have h7 : (num t.1.1).length ≤ 200 := Nat.le_trans (num_le0 h4.1) (by decide)
  have h8 := h4.1
  have h9 := h4.2
  fail "r"
  exact q _ _ (by fail "c") (Dt.tup (TpK.of (by fail "c")) (.cons (dtPl (a := t.1.1) (b := t.1.2) (TpK.of (by fail "c")) rfl rfl) (.cons (by fail "c") .nil)))
abbrev sp_node_of (K : PySem.W.Frag) : Sp := spRd K (fun p : Str × Nd => bj (tokN p.1 p.2)) nodeD fun p => PathOk p.1 ∧ p.2.Ok
theorem sc_node_of : FnScope ["row", "words", "text", "path", "count", "made", "owner"] ["row"] (defScope s_node_of) := ⟨rfl, rfl, rfl, by decide +kernel, rfl, by decide +kernel, by decide +kernel⟩
theorem k_node_of (B : Bag w K mg base) : Kept P w K mg base "node_of" 4 ["row"] (sp_node_of K) := by
  obtain ⟨fd, F⟩ := B.c.def_ 54 (d := d_node_of) rfl
  obtain ⟨f_is_word, fd_is_word, g_is_word, kp_is_word, b_is_word, o_is_word⟩ := k_is_word (P := P) B
  obtain ⟨f_is_text, fd_is_text, g_is_text, kp_is_text, b_is_text, o_is_text⟩ := k_is_text (P := P) B
  obtain ⟨f_is_path, fd_is_path, g_is_path, kp_is_path, b_is_path, o_is_path⟩ := k_is_path (P := P) B
  obtain ⟨f_W_word, fd_W_word, m_word, b_W_word, o_W_word⟩ := k_W_word (P := P) B
  obtain ⟨f_W_number, fd_W_number, m_number, b_W_number, o_W_number⟩ := k_W_number (P := P) B
  obtain ⟨f_W_text, fd_W_text, m_text, b_W_text, o_W_text⟩ := k_W_text (P := P) B
  obtain ⟨f_W_init, fd_W_init, mkW, b_W_init, o_W_init⟩ := k_W_init (P := P) B
  have gW := He.glo_ok B.X B.G (B.c.fact 42 (f := .glo "Words") rfl)
  obtain ⟨t_NONE, c_NONE⟩ := He.str_ok B.X B.G (B.c.fact 97 (f := .str "NONE" "-") rfl)
  have cW := He.cls_ok (B.c.fact 106 (f := .cls "Words") rfl)
  have nrest := He.noat_ok (B.c.fact 107 (f := .noat "Words" "rest") rfl)
  have nmore := He.noat_ok (B.c.fact 108 (f := .noat "Words" "more") rfl)
  have g0 := He.glo_ok B.X B.G (B.c.fact 46 (f := .glo "node_of") rfl)
  refine ⟨_, fd, g0, F.kp, F.bindsN (fun _ _ _ _ _ _ us hl => match us, hl with | [_], _ => rfl), ?_⟩
  refine F.ok sc_node_of (fun vs H Q E h => len1 h) (fun cdv A outer s H vs Q E hr h => ?_)
  have nd := sc_node_of.nd
  have hu := hu_of hr
  refine' ⟨_, PSs.nox ?hT, ?hR⟩
  case hT => exact (pss_cons (ps_set (i := 1) nd rfl (Or.inl rfl) (pe_makeA mkW o_W_init (hr.mono (by decide)) rfl gW b_W_init .nil pass0 (pa_cons (pv 0) pa_nil)))
      (pss_cons (ps_asg (pe_tupA (pa_cons (pe_meth0 (pv 1) cW m_word o_W_word (hr.mono (by decide)) b_W_word .nil pass0) (pa_cons (pe_meth0 (pv 1) cW m_number o_W_number (hr.mono (by decide)) b_W_number .nil pass0) (pa_cons (pe_meth0 (pv 1) cW m_number o_W_number (hr.mono (by decide)) b_W_number .nil pass0) (pa_cons (pe_meth0 (pv 1) cW m_word o_W_word (hr.mono (by decide)) b_W_word .nil pass0) pa_nil))))) (pg_tup rfl (pgs_cons (pg_name (i := 3) nd rfl (Or.inl rfl)) (pgs_cons (pg_name (i := 4) nd rfl (Or.inl rfl)) (pgs_cons (pg_name (i := 5) nd rfl (Or.inl rfl)) (pgs_cons (pg_name (i := 6) nd rfl (Or.inl rfl)) pgs_nil))))))
      (pss_cons (ps_set (i := 2) nd rfl (Or.inl rfl) (pe_meth0 (pv 1) cW m_text o_W_text hr b_W_text .nil pass0))
      (pss_cons (ps_if (PW.pt (pw_or (pt_val (pe_fld (pv 1) rfl)) (pw_or (pt_not (pt_val (pe_call o_is_path hr rfl g_is_path kp_is_path b_is_path .nil pass0 (pa_cons (pv 3) pa_nil)))) (pw_or (pt_not (pt_val (pe_call o_is_text (hr.mono (by decide)) rfl g_is_text kp_is_text b_is_text .nil pass0 (pa_cons (pv 2) pa_nil)))) (pw_or1 (PW.pt (pw_and (pt_cmpR op_ne (pv 6) (pe_glob (v := .str "-") rfl c_NONE ⟨_, rfl⟩) (nomark _)) (pw_and1 (pt_not (pt_val (pe_call o_is_word (hr.mono (by decide)) rfl g_is_word kp_is_word b_is_word .nil pass0 (pa_cons (pv 6) pa_nil)))))))))))) (pss_one (ps_never)) pss_nil)
      (pss_one (ps_ret (pe_tupA (pa_cons (pv 3) (pa_cons (pe_tupA (pa_cons (pv 2) (pa_cons (pv 4) (pa_cons (pv 5) (pa_cons (pe_ifExp (pt_cmpR op_eq (pv 6) (pe_glob (v := .str "-") rfl c_NONE ⟨_, rfl⟩) (nomark _)) (pe_non) (pv 6)) pa_nil))))) pa_nil)))))))))
  clear hr hu nd g0 F fd o_is_word b_is_word kp_is_word g_is_word fd_is_word o_is_text b_is_text kp_is_text g_is_text fd_is_text o_is_path b_is_path kp_is_path g_is_path fd_is_path o_W_word b_W_word m_word fd_W_word f_W_word o_W_number b_W_number m_number fd_W_number f_W_number o_W_text b_W_text m_text fd_W_text f_W_text o_W_init b_W_init gW mkW fd_W_init f_W_init c_NONE t_NONE
  try dsimp only [cxOf, Cx.nox, Cx.wish]
  obtain ⟨_, rfl, p, hv, ⟨okx, okn⟩, q⟩ := h
  obtain ⟨x, nd⟩ := p
  have hv : w_1 = .str (bj [x, num nd.count, num nd.made, ownT nd.owner, num nd.text.length, nd.text]) := hv
  subst hv
  have okx : PathOk x := okx
  have okn : nd.Ok := okn
  have h2 : (bj [x, num nd.count, num nd.made, ownT nd.owner, num nd.text.length, nd.text]).length ≤ 100000 := Nat.le_trans (len_tokN okx okn) (by decide)
  have h3 := path_nb okx
  have h4 := num_nb nd.count
  have h5 := num_nb nd.made
  have h6 := own_nb okn.2.2.2
  have h7 := okn.2.1
  have h8 := okn.2.2.1
  have h9 := okn.1.1
  have h10 := okn.1
  cases ho : nd.owner with
  | none =>
    rw [ho] at h6 h2
    have e1 : V.str (ownT none) = V.str "-" := rfl
    fail "r"
    have t2 : H'_11 p_1 = some (HO.tup [V.str nd.text, V.int nd.count, V.int nd.made, V.non]) := by fail "c"
    have s2 : L2.Same H H'_7 := by fail "c"
    have s1 : L2.Same H H'_11 := by fail "c"
    exact q _ _ s1 (Dt.tup (TpK.of a_31) (.cons (.str _) (.cons (nd_mk (o' := .non) (ow := nd.owner) (TpK.of t2) rfl rfl (by rw [ho]; exact .non)) .nil)))
  | some who =>
    rw [ho] at h6 h2
    have hw := okn.2.2.2 who ho
    have e1 : ¬ V.str (ownT (some who)) = V.str "-" := fun z => word_ne_da hw (V.str.inj z)
    have hw2 : WordOk (ownT (some who)) := hw
    fail "r"
    have t2 : H'_12 p_1 = some (HO.tup [V.str nd.text, V.int nd.count, V.int nd.made, V.str (ownT (some who))]) := by fail "c"
    have s2 : L2.Same H H'_7 := by fail "c"
    have s1 : L2.Same H H'_12 := by fail "c"
    exact q _ _ s1 (Dt.tup (TpK.of a_32) (.cons (.str _) (.cons (nd_mk (o' := .str who) (ow := nd.owner) (TpK.of t2) rfl rfl (by rw [ho]; exact .str _)) .nil)))
/-- rows that are read by themselves -/
def RdsOk {α : Type} (T : α → Str) (ok : α → Prop) (l : List α) : Prop := ∀ x ∈ l, ok x ∧ (T x).length ≤ 100000 ∧ T x ≠ "" ∧ 10 ∉ tl (T x)
def sp_rows_of {α : Type} (T : α → Str) (D : α → PyData) (ok : α → Prop) (f : Addr) (K : PySem.W.Frag) : Sp := sp2 fun v u H Q => ∃ (l : List α), u = .ref f ∧ v = .str (nj (l.map T)) ∧ l.length ≤ 100 ∧ RdsOk T ok l ∧
  ∀ p xs H', L2.Same H H' → H' p = some (.lst xs) → DtA K H' xs (l.map D) → H p = none → Q (.ref p) H'
theorem sc_rows_of : FnScope ["text", "read", "found", "number", "row", "why"] ["text", "read"] (defScope s_rows_of) := ⟨rfl, rfl, rfl, by decide +kernel, rfl, by decide +kernel, by decide +kernel⟩
theorem k_rows_of (B : Bag w K mg base) {α : Type} {T : α → Str} {D : α → PyData} {ok : α → Prop} {f_r : Addr} {fd_r : FuncData} (kp_r : PySem.W.keepIn K (.ref f_r) = true) (b_r : Binds K fd_r ["row"] []) (o_r : FnOk P w K mg base CX0 8 f_r fd_r ["row"] (spRd K T D ok)) : Kept P w K mg base "rows_of" 9 ["text", "read"] (sp_rows_of T D ok f_r K) := by
  obtain ⟨fd, F⟩ := B.c.def_ 55 (d := d_rows_of) rfl
  have n_enumerate := He.free_ok B.X B.G (B.c.fact 87 (f := .free "enumerate") rfl)
  have n_isinstance := He.free_ok B.X B.G (B.c.fact 77 (f := .free "isinstance") rfl)
  have n_str := He.free_ok B.X B.G (B.c.fact 80 (f := .free "str") rfl)
  have g0 := He.glo_ok B.X B.G (B.c.fact 47 (f := .glo "rows_of") rfl)
  refine ⟨_, fd, g0, F.kp, F.bindsN (fun _ _ _ _ _ _ us hl => match us, hl with | [_, _], _ => rfl), ?_⟩
  refine F.ok sc_rows_of (fun vs H Q E h => len2 h) (fun cdv A outer s H vs Q E hr h => ?_)
  have nd := sc_rows_of.nd
  have hu := hu_of hr
  refine' ⟨_, PSs.nox ?hT, ?hR⟩
  case hT => exact (pss_cons (ps_if (pt_not (pt_val (pe_callB call_isi rfl n_isinstance (by decide +kernel) (pa_cons (pv 0) (pa_cons (pe_bltn (v := .ty "str") rfl n_str boot_str rfl) pa_nil))))) (pss_one (ps_never)) pss_nil)
      (pss_cons (ps_set (i := 2) nd rfl (Or.inl rfl) (pe_lstA pa_nil))
      (pss_cons (ps_for PassesOwn.never rfl (pi_enum rfl n_enumerate (pa_cons (pe_ifExp (pt_cmpR op_ne (pv 0) (pe_str) (nomark _)) (pe_bm PySem.F.plainAttrs_str PySem.F.slot_str_split PySem.F.type_str_split mt_splitA (pv 0) (pa_cons (pe_str) pa_nil)) (pe_lstA pa_nil)) pa_nil)) (pg_tup rfl (pgs_cons (pg_name (i := 3) nd rfl (Or.inl rfl)) (pgs_cons (pg_name (i := 4) nd rfl (Or.inl rfl)) pgs_nil))) (pss_one (ps_try_never (fun _ _ z => z) (pss_one (ps_expr (pe_bm PySem.F.plainAttrs_list PySem.F.slot_list_append PySem.F.type_list_append mt_appA (pv 2) (pa_cons (pe_callL o_r hr (i := 1) rfl (.inl rfl) kp_r b_r .nil pass0 (pa_cons (pv 4) pa_nil)) pa_nil)))) pss_nil)))
      (pss_one (ps_ret (pv 2))))))
  clear hr hu nd g0 F fd n_enumerate n_isinstance n_str
  try dsimp only [cxOf, Cx.nox, Cx.wish]
  obtain ⟨_, _, rfl, l, rfl, rfl, hl, hok, q⟩ := h
  by_cases hn : l = []
  · subst hn
    have e1 : V.str (nj (([] : List α).map T)) = V.str "" := by show V.str (Str.join "\n" []) = V.str ""; decide +kernel
    fail "r"
    refine for_it (walk_enum (xs := [])) (fun i σ Hi => σ = [some (V.str (nj (([] : List α).map T))), some (.ref f_r), some (.ref p), none, none, none] ∧ L2.Same H Hi ∧ Hi p = some (.lst []) ∧ Hi p_1 = some (.lst [])) ⟨rfl, by fail "c", by fail "c", by fail "c"⟩ (fun _ _ _ _ h => SqL.of h.2.2.2) (fun i y σ H2 H3 hi p' z => absurd hi (Nat.not_lt_zero _)) (fun σ H2 p' => ?_)
    obtain ⟨rfl, s2, h2, h3⟩ := p'
    fail "r"
    exact q _ [] _ (by fail "c") (by fail "c") .nil (by fail "c")
  · have hx0 : ∃ x r, l = x :: r := by
      cases l with
      | nil => exact absurd rfl hn
      | cons x r => exact ⟨x, r, rfl⟩
    have e1 : ¬ V.str (nj (l.map T)) = V.str "" := fun z => by
      obtain ⟨x, r, rfl⟩ := hx0
      have z2 := congrArg tl (V.str.inj z)
      have z3 := (hok x List.mem_cons_self).2.2.1
      unfold nj at z2
      rw [tl_join, em_str, tl_em, List.map_cons, List.map_cons] at z2
      exact joinL_ne (fun z4 => z3 (ext_tl (by rw [z4, em_str, tl_em]))) z2
    have e2 : Nm (Txt.split (nj (l.map T)) "\n") (l.map T) := ⟨nj_split (by simpa using hn) fun x hx => by
      obtain ⟨y, hy, rfl⟩ := List.mem_map.mp hx
      exact (hok y hy).2.2.2⟩
    have e3 : (nj (l.map T)).length + 2 ≤ sizeLine := by
      have := nj_le (l.map T) (m := 100000) fun x hx => by
        obtain ⟨y, hy, rfl⟩ := List.mem_map.mp hx
        exact (hok y hy).2.1
      rw [List.length_map] at this
      have h5 : l.length * 100001 ≤ 100 * 100001 := Nat.mul_le_mul_right _ hl
      exact Nat.le_trans (m := 10000102) (by omega) (by decide)
    fail "r"
    refine for_it (walk_enum (xs := (l.map T).map V.str)) (fun i σ Hi => L2.Same H Hi ∧ Hi p_1 = some (.lst ((l.map T).map V.str)) ∧ ∃ (xs : List V) (u3 u4 u5 : Option V), σ = [some (V.str (nj (l.map T))), some (.ref f_r), some (.ref p), u3, u4, u5] ∧ Hi p = some (.lst xs) ∧ DtA K Hi xs ((l.take i).map D) ∧ xs.length ≤ i)
      ⟨by fail "c", by fail "c", [], none, none, none, rfl, by fail "c", .nil, Nat.le_refl _⟩ (fun _ _ _ _ h => SqL.of h.2.1) (fun i y σ H2 H3 hi p' z => ?_) (fun σ H2 p' => ?_)
    · obtain ⟨T1, y1, y2, rfl, nT, rfl, hy1, hy2⟩ := z
      obtain rfl := Option.some.inj hy1
      obtain ⟨s2, hp1, xs, u3, u4, u5, rfl, hp, hxs, hxl⟩ := p'
      have hy2 : ((l.map T).map V.str)[i]? = some y2 := hy2
      rw [List.getElem?_map, List.getElem?_map] at hy2
      obtain ⟨z1, hz1, rfl⟩ := Option.map_eq_some_iff.mp hy2
      obtain ⟨x, hx, rfl⟩ := Option.map_eq_some_iff.mp hz1
      have okx := (hok x (List.mem_of_getElem? hx)).1
      have hT := upd_same (H := H2) (a := T1) (o := .tup [.int (i : Nat), .str (T x)])
      have sT := sameUpd (H := H2) (p := T1) (o := .tup [.int (i : Nat), .str (T x)]) nT
      generalize upd H2 T1 (.tup [.int (i : Nat), .str (T x)]) = H3 at hT sT ⊢
      have hil : i < 100 := by rw [List.length_map, List.length_map] at hi; omega
      have hxl2 : xs.length < sizeLine := small_size (m := 100) (by omega)
      have npp : p ≠ p_1 := by fail "c"
      rw [take_at hx, List.map_append]
      fail "s"
      · exact DtA.snoc (by fail "c") (by fail "c")
      rw [List.length_append]
      show xs.length + 1 ≤ i + 1
      omega
    · obtain ⟨s2, hp1, xs, u3, u4, u5, rfl, hp, hxs, hxl⟩ := p'
      rw [List.length_map, List.length_map, List.take_length] at hxs
      fail "r"
      exact q _ _ _ (by fail "c") (by fail "c") hxs (by fail "c")
abbrev sp_read_entry (K : PySem.W.Frag) : Sp := spRd K (fun e : En => bj (tokE e)) En.d En.Ok
theorem sc_read_entry : FnScope ["text", "why", "first", "found", "rest"] ["text"] (defScope s_read_entry) := ⟨rfl, rfl, rfl, by decide +kernel, rfl, by decide +kernel, by decide +kernel⟩
theorem k_read_entry (B : Bag w K mg base) : Kept P w K mg base "read_entry" 9 ["text"] (sp_read_entry K) := by
  obtain ⟨fd, F⟩ := B.c.def_ 56 (d := d_read_entry) rfl
  obtain ⟨f_entry_of, fd_entry_of, g_entry_of, kp_entry_of, b_entry_of, o_entry_of⟩ := k_entry_of (P := P) B
  have n_isinstance := He.free_ok B.X B.G (B.c.fact 77 (f := .free "isinstance") rfl)
  have n_str := He.free_ok B.X B.G (B.c.fact 80 (f := .free "str") rfl)
  have g0 := He.glo_ok B.X B.G (B.c.fact 48 (f := .glo "read_entry") rfl)
  refine ⟨_, fd, g0, F.kp, F.bindsN (fun _ _ _ _ _ _ us hl => match us, hl with | [_], _ => rfl), ?_⟩
  refine F.ok sc_read_entry (fun vs H Q E h => len1 h) (fun cdv A outer s H vs Q E hr h => ?_)
  have nd := sc_read_entry.nd
  have hu := hu_of hr
  refine' ⟨_, PSs.nox ?hT, ?hR⟩
  case hT => exact (pss_cons (ps_if (pt_not (pt_val (pe_callB call_isi rfl n_isinstance (by decide +kernel) (pa_cons (pv 0) (pa_cons (pe_bltn (v := .ty "str") rfl n_str boot_str rfl) pa_nil))))) (pss_one (ps_never)) pss_nil)
      (pss_cons (ps_asg (pe_bm PySem.F.plainAttrs_str PySem.F.slot_str_split PySem.F.type_str_split mt_splitA (pv 0) (pa_cons (pe_str) pa_nil)) (pg_starA (i := 1) rfl (pgs_cons (pg_name (i := 2) nd rfl (Or.inl rfl)) (pgs_cons (pg_name (i := 4) nd rfl (Or.inl rfl)) pgs_nil))))
      (pss_cons (ps_try_never (fun _ _ z => z) (pss_one (ps_set (i := 3) nd rfl (Or.inl rfl) (pe_call o_entry_of hr rfl g_entry_of kp_entry_of b_entry_of .nil pass0 (pa_cons (pv 2) pa_nil)))) pss_nil)
      (pss_cons (ps_if (pt_cmpR (op_neD (hu64_of hr)) (pv 4) (pe_lstA pa_nil) (nomark _)) (pss_one (ps_never)) pss_nil)
      (pss_one (ps_ret (pv 3)))))))
  clear hr hu nd g0 F fd o_entry_of b_entry_of kp_entry_of g_entry_of fd_entry_of n_isinstance n_str
  try dsimp only [cxOf, Cx.nox, Cx.wish]
  obtain ⟨_, rfl, e, rfl, ok, q⟩ := h
  have hl := len_tokE ok
  have e1 : Nm (Txt.split (bj (tokE e)) "\n") [bj (tokE e)] := ⟨nj_split (l := [bj (tokE e)]) (by simp) fun x hx => by rw [List.mem_singleton.mp hx]; exact bj_nonl (nl_tokE ok)⟩
  have e2 : (bj (tokE e)).length + 2 ≤ sizeLine := Nat.le_trans (m := 4000) (by omega) (by decide)
  fail "r"
  refine neNil (ys := []) (fun y hy => by cases hy) (by fail "c") (by fail "c") ?_
  fail "r"
  exact q _ _ (by fail "c") (by fail "c")
def sp_read_row (K : PySem.W.Frag) : Sp := sp1 fun v H Q => ∃ ts : List Thing, v = .str (rowT ts) ∧ RowOk ts ∧ ∀ p xs H', L2.Same H H' → H' p = some (.lst xs) → DtA K H' xs (ts.map thD) → H p = none → Q (.ref p) H'
theorem sc_read_row : FnScope ["text", "found"] ["text"] (defScope s_read_row) := ⟨rfl, rfl, rfl, by decide +kernel, rfl, by decide +kernel, by decide +kernel⟩
theorem k_read_row (B : Bag w K mg base) : Kept P w K mg base "read_row" 10 ["text"] (sp_read_row K) := by
  obtain ⟨fd, F⟩ := B.c.def_ 57 (d := d_read_row) rfl
  obtain ⟨f_thing_of, fd_thing_of, g_thing_of, kp_thing_of, b_thing_of, o_thing_of⟩ := k_thing_of (P := P) B
  obtain ⟨f_rows_of, fd_rows_of, g_rows_of, kp_rows_of, b_rows_of, o_rows_of⟩ := k_rows_of (P := P) B kp_thing_of b_thing_of (o_thing_of.mono (by decide))
  obtain ⟨f_is_row, fd_is_row, g_is_row, kp_is_row, b_is_row, o_is_row⟩ := k_is_row (P := P) B
  have g0 := He.glo_ok B.X B.G (B.c.fact 49 (f := .glo "read_row") rfl)
  refine ⟨_, fd, g0, F.kp, F.bindsN (fun _ _ _ _ _ _ us hl => match us, hl with | [_], _ => rfl), ?_⟩
  refine F.ok sc_read_row (fun vs H Q E h => len1 h) (fun cdv A outer s H vs Q E hr h => ?_)
  have nd := sc_read_row.nd
  have hu := hu_of hr
  refine' ⟨_, PSs.nox ?hT, ?hR⟩
  case hT => exact (pss_cons (ps_set (i := 1) nd rfl (Or.inl rfl) (pe_call o_rows_of hr rfl g_rows_of kp_rows_of b_rows_of .nil pass0 (pa_cons (pv 0) (pa_cons (pe_glob (v := .ref f_thing_of) rfl g_thing_of rfl) pa_nil))))
      (pss_cons (ps_if (pt_not (pt_val (pe_call o_is_row (hr.mono (by decide)) rfl g_is_row kp_is_row b_is_row .nil pass0 (pa_cons (pv 1) pa_nil)))) (pss_one (ps_never)) pss_nil)
      (pss_one (ps_ret (pv 1)))))
  clear hr hu nd g0 F fd o_rows_of b_rows_of kp_rows_of g_rows_of fd_rows_of o_thing_of b_thing_of kp_thing_of g_thing_of fd_thing_of o_is_row b_is_row kp_is_row g_is_row fd_is_row
  try dsimp only [cxOf, Cx.nox, Cx.wish]
  obtain ⟨_, rfl, ts, rfl, ok, q⟩ := h
  have hts := ok.2.2
  have hr : RdsOk (fun t : Thing => bj (tokT t)) Thing.Ok ts := fun t ht => ⟨ok.1 t ht, Nat.le_trans (len_tokT (ok.1 t ht)) (by decide), tokT_ne2 _, bj_nonl (nl_tokT (ok.1 t ht))⟩
  fail "r"
  exact q _ _ _ (by fail "c") (by fail "c") (by fail "c") (by fail "c")
def sp_read_nodes (K : PySem.W.Frag) : Sp := sp1 fun v H Q => ∃ ps : Nds, v = .str (nodesT ps) ∧ ps.length ≤ 60 ∧ (∀ p ∈ ps, PathOk p.1 ∧ p.2.Ok) ∧ ((ps.map (·.1)).Pairwise fun x y => x.cps.toList < y.cps.toList) ∧ Tree ps ∧
  ∀ p H', L2.Same H H' → Web K H' p (ndsD ps) → H p = none → Q (.ref p) H'
theorem sc_read_nodes : FnScope ["text", "some", "paths", "path", "node"] ["text"] (defScope s_read_nodes) := ⟨rfl, rfl, rfl, by decide +kernel, rfl, by decide +kernel, by decide +kernel⟩
theorem k_read_nodes (B : Bag w K mg base) : Kept P w K mg base "read_nodes" 10 ["text"] (sp_read_nodes K) := by
  obtain ⟨fd, F⟩ := B.c.def_ 58 (d := d_read_nodes) rfl
  obtain ⟨f_node_of, fd_node_of, g_node_of, kp_node_of, b_node_of, o_node_of⟩ := k_node_of (P := P) B
  obtain ⟨f_rows_of, fd_rows_of, g_rows_of, kp_rows_of, b_rows_of, o_rows_of⟩ := k_rows_of (P := P) B kp_node_of b_node_of (o_node_of.mono (by decide))
  obtain ⟨f_parent_of, fd_parent_of, g_parent_of, kp_parent_of, b_parent_of, o_parent_of⟩ := k_parent_of (P := P) B
  have n_all := He.free_ok B.X B.G (B.c.fact 82 (f := .free "all") rfl)
  have n_dict := He.free_ok B.X B.G (B.c.fact 85 (f := .free "dict") rfl)
  have n_len := He.free_ok B.X B.G (B.c.fact 81 (f := .free "len") rfl)
  have n_set := He.free_ok B.X B.G (B.c.fact 88 (f := .free "set") rfl)
  have n_sorted := He.free_ok B.X B.G (B.c.fact 86 (f := .free "sorted") rfl)
  obtain ⟨t_MOST_NODES, c_MOST_NODES⟩ := He.int_ok B.X B.G (B.c.fact 101 (f := .int "MOST_NODES" 60) rfl)
  obtain ⟨t_ROOT, c_ROOT⟩ := He.str_ok B.X B.G (B.c.fact 96 (f := .str "ROOT" "/") rfl)
  have g0 := He.glo_ok B.X B.G (B.c.fact 50 (f := .glo "read_nodes") rfl)
  refine ⟨_, fd, g0, F.kp, F.bindsN (fun _ _ _ _ _ _ us hl => match us, hl with | [_], _ => rfl), ?_⟩
  refine F.ok sc_read_nodes (fun vs H Q E h => len1 h) (fun cdv A outer s H vs Q E hr h => ?_)
  have nd := sc_read_nodes.nd
  have hu := hu_of hr
  refine' ⟨_, PSs.nox ?hT, ?hR⟩
  case hT => exact (pss_cons (ps_set (i := 1) nd rfl (Or.inl rfl) (pe_call o_rows_of hr rfl g_rows_of kp_rows_of b_rows_of .nil pass0 (pa_cons (pv 0) (pa_cons (pe_glob (v := .ref f_node_of) rfl g_node_of rfl) pa_nil))))
      (pss_cons (ps_set (i := 2) nd rfl (Or.inr rfl) (pe_lc (own := [("path", 3), ("node", 4)]) (g := gTup K 2 (gCons (gName 3) (gCons (gName 4) gNil))) (tt := tYes) rfl nd (pi_list (pv 1)) (blkOk_by (N := ["text", "some", "paths", "path", "node"]) (sc := defScope s_read_nodes) (by decide +kernel)) (fun _ _ _ _ _ => (pg_tup rfl (pgs_cons (pg_name (i := 3) nd rfl (Or.inl rfl)) (pgs_cons (pg_name (i := 4) nd rfl (Or.inl rfl)) pgs_nil)))) (fun _ _ _ _ _ => pts_nil) (fun _ _ _ _ _ => (pv 3))))
      (pss_cons (ps_if (PW.pt (pw_or (pt_cmpR (op_neD (hu64_of hr)) (pv 2) (pe_callB (cr_sortedXA rfl) rfl n_sorted (by decide +kernel) (pa_cons (pe_callTy (cr_setXA rfl) rfl n_set boot_set (pa_cons (pv 2) pa_nil)) pa_nil)) (nomark _)) (pw_or (pt_cmpR op_gt (pe_callB call_len_seq rfl n_len (by decide +kernel) (pa_cons (pv 2) pa_nil)) (pe_glob (v := .int 60) rfl c_MOST_NODES ⟨_, rfl⟩) (nomark _)) (pw_or1 (pt_cmpR op_notIn_seq (pe_glob (v := .str "/") rfl c_ROOT ⟨_, rfl⟩) (pv 2) rfl))))) (pss_one (ps_never)) pss_nil)
      (pss_cons (ps_if (pt_not (pt_val (pe_callB (cr_all rfl) rfl n_all (by decide +kernel) (pa_cons (pe_lc (own := [("path", 3)]) (g := gName 3) (tt := tYes) (te := tOrV (tOp rEq (tVar 3) (tC (.str "/"))) (tOp (rIn K false) (tCall (sp_parent_of K) [] E0 (tCons (tVar 3) tNil)) (tVar 2))) rfl nd (pi_list (pv 2)) (blkOk_by (N := ["text", "some", "paths", "path", "node"]) (sc := defScope s_read_nodes) (by decide +kernel)) (fun _ _ _ _ _ => (pg_name (i := 3) nd rfl (Or.inl rfl))) (fun _ _ _ _ _ => pts_nil) (fun _ _ _ _ _ => (pe_or (pe_cmpR op_eq (pv 3) (pe_glob (v := .str "/") rfl c_ROOT ⟨_, rfl⟩) (nomark _)) (pe_one (pe_cmpR op_in_seq (pe_call o_parent_of (hr.mono (by decide)) rfl g_parent_of kp_parent_of b_parent_of .nil pass0 (pa_cons (pv 3) pa_nil)) (pv 2) rfl))))) pa_nil)))) (pss_one (ps_never)) pss_nil)
      (pss_one (ps_ret (pe_callTy (call_dictPA rfl) rfl n_dict boot_dict (pa_cons (pv 1) pa_nil))))))))
  clear hr hu nd g0 F fd o_rows_of b_rows_of kp_rows_of g_rows_of fd_rows_of o_node_of b_node_of kp_node_of g_node_of fd_node_of o_parent_of b_parent_of kp_parent_of g_parent_of fd_parent_of n_all n_dict n_len n_set n_sorted c_MOST_NODES t_MOST_NODES c_ROOT t_ROOT
  try dsimp only [cxOf, Cx.nox, Cx.wish]
  obtain ⟨_, rfl, ps, hv, h60, hok, hpw, htr, q⟩ := h
  have hv : w_1 = .str (nj (ps.map fun p => bj (tokN p.1 p.2))) := hv
  subst hv
  have h100 : ps.length ≤ 100 := by omega
  have hr : RdsOk (fun p : Str × Nd => bj (tokN p.1 p.2)) (fun p => PathOk p.1 ∧ p.2.Ok) ps := fun p hp => ⟨hok p hp, Nat.le_trans (len_tokN (hok p hp).1 (hok p hp).2) (by decide), tokN_ne2 (hok p hp).1, bj_nonl (nl_tokN (hok p hp).1 (hok p hp).2)⟩
  have hnd := pw_nodup hpw
  have hkl : (ps.map (·.1)).length < 64 := by rw [List.length_map]; omega
  have hkl2 : (ps.map (·.1)).reverse.length < 64 := by rw [List.length_reverse]; exact hkl
  have hkl3 : ((ps.map (·.1)).map V.str).length ≤ 60 := by rw [List.length_map, List.length_map]; exact h60
  have hks : ∀ y ∈ ps.map (·.1), PyData.strOk y = true := fun y hy => by
    obtain ⟨p, hp, rfl⟩ := List.mem_map.mp hy
    exact (hok p hp).1.strOk
  have hfl := flat_str (ps.map (·.1))
  have hroot := inV_mem htr.1
  have hroot2 : (if true = true then !inV (V.str "/") ((ps.map (·.1)).map V.str) else inV (V.str "/") ((ps.map (·.1)).map V.str)) = false := by rw [hroot]; rfl
  fail "r"
  refine lc_it (walk_list (xs := xs)) (fun i Hi => L2.Same H' Hi ∧ Hi D = some (.lst (((ps.take i).map (·.1)).map V.str))) ⟨sameUpd a_4, upd_same⟩ (fun _ _ _ h => by have := h.1; fail "c") (fun i y H2 H3 hi p' z => ?_) (fun H2 p' => ?_)
  · obtain ⟨rfl, z⟩ := z
    obtain ⟨s2, hD⟩ := p'
    obtain ⟨p, hp, dp⟩ := a_2.atM z
    obtain ⟨l2, x1, x2, rfl, ht, e1, e2⟩ := dt2 (dtS s2 dp)
    obtain rfl := e1.s
    have hz : (((ps.take i).map (·.1)).map V.str).length < sizeLine := small_size (m := 60) (by
      rw [List.length_map, List.length_map, List.length_take]
      omega)
    rw [take_at hp, List.map_append, List.map_append]
    fail "r"
    exact upd_same
  · obtain ⟨s2, hD⟩ := p'
    rw [a_2.lenM, List.take_length] at hD
    fail "r"
    obtain rfl := sorted_uniq (a_8.trans (List.reverse_perm _)) hpw a_9
    have hD2 : H'_2 D = some (HO.lst ((ps.map (·.1)).map V.str)) := by fail "c"
    refine neLs hks hD2 a_12 ?_
    fail "r"
    refine lc_it (walk_list (xs := (ps.map (·.1)).map V.str)) (AllP H'_2 D_1) (AllP.start (by assumption)) (fun _ _ _ h => by have := h.1; fail "c") (fun i y H4 H5 hi p' z => ?_) (fun H4 p' => ?_)
    · obtain ⟨rfl, z⟩ := z
      rw [List.getElem?_map] at z
      obtain ⟨y, hy, rfl⟩ := Option.map_eq_some_iff.mp z
      have hi2 : i < 100000 := by rw [List.length_map, List.length_map] at hi; omega
      have s4 := p'.1
      have hym := List.mem_of_getElem? hy
      obtain ⟨p2, hp2, rfl⟩ := List.mem_map.mp hym
      have okp := (hok p2 hp2).1
      by_cases c : p2.1 = "/"
      · have e1 : V.str p2.1 = V.str "/" := by rw [c]
        fail "r"
        done
      · have e1 : ¬ V.str p2.1 = V.str "/" := fun z => c (V.str.inj z)
        have hpar : parentOf p2.1 ∈ ps.map (·.1) := (htr.2 p2 hp2).resolve_left c
        have hin := inV_mem hpar
        have hin2 : (if false = true then !inV (V.str (parentOf p2.1)) ((ps.map (·.1)).map V.str) else inV (V.str (parentOf p2.1)) ((ps.map (·.1)).map V.str)) = true := by rw [hin]; rfl
        fail "r"
        done
    · dsimp only [tNil]
      refine AllP.fin p' fun H5 s5 => ?_
      fail "r"
      exact q _ _ (by fail "c") (by fail "c") (by fail "c")
end

section
variable {P : Program} {w : World} {K : PySem.W.Frag} {mg : Str → Option Value} {base : Heap}
def sp_law_pool (K : PySem.W.Frag) : Sp := sp2 fun v u H Q => ∃ (l : Addr) (ns : List Int) (k : Nat), v = .ref l ∧ u = .int k ∧ SqL K H l (ns.map V.int) ∧ ns.length ≤ 63 ∧ k ≤ 8 ∧ ∀ p H', L2.Same H H' → H p = none → Pool H' p → Q (.ref p) H'
theorem sc_law_pool : FnScope ["_law_script", "_law_k", "_law_cell", "_law_size", "_law_mixed"] ["_law_script", "_law_k"] (defScope s_law_pool) := ⟨rfl, rfl, rfl, by decide +kernel, rfl, by decide +kernel, by decide +kernel⟩
theorem k_law_pool (B : Bag w K mg base) : Kept P w K mg base "_law_pool" 1 ["_law_script", "_law_k"] (sp_law_pool K) := by
  obtain ⟨fd, F⟩ := B.c.def_ 59 (d := d_law_pool) rfl
  have n_abs := He.free_ok B.X B.G (B.c.fact 93 (f := .free "abs") rfl)
  have n_int := He.free_ok B.X B.G (B.c.fact 78 (f := .free "int") rfl)
  have g0 := He.glo_ok B.X B.G (B.c.fact 51 (f := .glo "_law_pool") rfl)
  refine ⟨_, fd, g0, F.kp, F.bindsN (fun _ _ _ _ _ _ us hl => match us, hl with | [_, _], _ => rfl), ?_⟩
  refine F.ok sc_law_pool (fun vs H Q E h => len2 h) (fun cdv A outer s H vs Q E hr h => ?_)
  have nd := sc_law_pool.nd
  have hu := hu_of hr
  refine' ⟨_, PSs.nox ?hT, ?hR⟩
  case hT => exact (pss_cons (ps_set (i := 2) nd rfl (Or.inl rfl) (pe_ix ix_list (pe_op op_catLA (pe_slice sl_listA (pv 0) (po_some (pv 1)) (po_some (pe_op op_add (pv 1) (pe_int)))) (pe_lstA (pa_cons (pe_int) pa_nil))) (pe_int) (fun _ _ => rfl)))
      (pss_cons (ps_set (i := 3) nd rfl (Or.inl rfl) (pe_callB call_abs rfl n_abs (by decide +kernel) (pa_cons (pv 2) pa_nil)))
      (pss_cons (ps_set (i := 4) nd rfl (Or.inl rfl) (pe_op op_mod (pe_op op_mul (pe_op op_add (pe_op op_add (pe_op op_mod (pv 3) (pe_int)) (pe_op op_mul (pe_int) (pv 1))) (pe_int)) (pe_int)) (pe_int)))
      (pss_one (ps_ret (pe_lstA (pa_cons (pe_op op_mul (pv 3) (pe_callTy call_intB rfl n_int boot_int (pa_cons (pe_cmpR op_ge (pv 3) (pe_op op_pow (pe_int) (pe_int)) (nomark _)) pa_nil))) (pa_cons (pv 4) pa_nil))))))))
  clear hr hu nd g0 F fd n_abs n_int
  try dsimp only [cxOf, Cx.nox, Cx.wish]
  obtain ⟨_, _, rfl, l, ns, k, rfl, rfl, hl, hn, hk, q⟩ := h
  obtain ⟨ys, c, e1, e2, e3⟩ := cell_at ns k
  have e4 : Nm (cutV (ns.map V.int) (some (k : Int)) (some ((k : Int) + 1))) ys := ⟨e1⟩
  have e5 : ys.length + [V.int 0].length ≤ sizeLine := Nat.le_trans (m := 2) (by show ys.length + 1 ≤ 2; omega) (by decide)
  have e6 : CPow 10 18 := by unfold CPow; decide
  fail "r"
  refine q _ _ (by fail "c") (by fail "c") ⟨_, _, a_11, ?_, ?_, ?_⟩
  · have h1 : 0 ≤ (if c < 0 then -c else c) := by split <;> omega
    refine Int.mul_nonneg h1 ?_
    split <;> omega
  · show 0 ≤ (_ * 48271) % (2147483647 : Int)
    omega
  · show (_ * 48271) % (2147483647 : Int) < 2147483647
    omega
def sp_law_take (K : PySem.W.Frag) : Sp := sp2 fun v u H Q => ∃ (p : Addr) (n : Int), v = .ref p ∧ u = .int n ∧ Pool H p ∧ 0 < n ∧ n < 1000 ∧ TkRes H p n Q
theorem sc_law_take : FnScope ["_law_pool_here", "_law_many", "_law_found"] ["_law_pool_here", "_law_many"] (defScope s_law_take) := ⟨rfl, rfl, rfl, by decide +kernel, rfl, by decide +kernel, by decide +kernel⟩
theorem k_law_take (B : Bag w K mg base) : Kept P w K mg base "_law_take" 1 ["_law_pool_here", "_law_many"] (sp_law_take K) := by
  obtain ⟨fd, F⟩ := B.c.def_ 60 (d := d_law_take) rfl
  have g0 := He.glo_ok B.X B.G (B.c.fact 52 (f := .glo "_law_take") rfl)
  refine ⟨_, fd, g0, F.kp, F.bindsN (fun _ _ _ _ _ _ us hl => match us, hl with | [_, _], _ => rfl), ?_⟩
  refine F.ok sc_law_take (fun vs H Q E h => len2 h) (fun cdv A outer s H vs Q E hr h => ?_)
  have nd := sc_law_take.nd
  have hu := hu_of hr
  refine' ⟨_, PSs.nox ?hT, ?hR⟩
  case hT => exact (pss_cons (ps_if (pt_cmpR op_gt (pe_ix ix_list (pv 0) (pe_int) (fun _ _ => rfl)) (pe_int) (nomark _)) (pss_cons (ps_set (i := 2) nd rfl (Or.inl rfl) (pe_op op_mod (pe_ix ix_list (pv 0) (pe_int) (fun _ _ => rfl)) (pv 1)))
      (pss_cons (ps_asg (pe_op op_fdiv (pe_ix ix_list (pv 0) (pe_int) (fun _ _ => rfl)) (pv 1)) (pg_sub (pv 0) (pe_int) set_listA))
      (pss_one (ps_ret (pv 2))))) pss_nil)
      (pss_cons (ps_asg (pe_op op_mod (pe_op op_add (pe_op op_mul (pe_ix ix_list (pv 0) (pe_int) (fun _ _ => rfl)) (pe_int)) (pe_int)) (pe_int)) (pg_sub (pv 0) (pe_int) set_listA))
      (pss_one (ps_ret (pe_op op_mod (pe_op op_fdiv (pe_op op_mod (pe_op op_mul (pe_ix ix_list (pv 0) (pe_int) (fun _ _ => rfl)) (pe_ix ix_list (pv 0) (pe_int) (fun _ _ => rfl))) (pe_int)) (pe_int)) (pv 1))))))
  clear hr hu nd g0 F fd
  try dsimp only [cxOf, Cx.nox, Cx.wish]
  obtain ⟨_, _, rfl, p, n, rfl, rfl, ⟨a, b, hp, ha, hb, hb2⟩, hn, hn2, q⟩ := h
  by_cases c : 0 < a
  · have e1 : ixN [V.int a, V.int b].length 0 = some 0 := rfl
    have e2 : Nm ([V.int a, V.int b].set 0 ((fun i j => V.int (i / j)) a n)) [V.int (a / n), V.int b] := ⟨rfl⟩
    have h1 : 0 ≤ a / n := Int.ediv_nonneg ha (Int.le_of_lt hn)
    have h2 : 0 ≤ a % n := Int.emod_nonneg _ (by omega)
    have h3 : a % n < n := Int.emod_lt_of_pos _ hn
    fail "r"
    exact q _ _ (by fail "c") (by fail "c") ⟨_, _, by assumption, h1, hb, hb2⟩ h2 h3
  · have e1 : ixN [V.int a, V.int b].length 1 = some 1 := rfl
    have e2 : Nm ([V.int a, V.int b].set 1 ((fun i j => V.int (i % j)) (b * 39373 + 12011) 2147483647)) [V.int a, V.int ((b * 39373 + 12011) % 2147483647)] := ⟨rfl⟩
    have h1 : 0 ≤ (b * 39373 + 12011) % 2147483647 := by omega
    have h2 : (b * 39373 + 12011) % 2147483647 < 2147483647 := by omega
    obtain ⟨d, hd⟩ : ∃ d, (b * 39373 + 12011) % 2147483647 = d := ⟨_, rfl⟩
    rw [hd] at h1 h2
    have e3 : Nm ([V.int a, V.int b].set 1 ((fun i j => V.int (i % j)) (b * 39373 + 12011) 2147483647)) [V.int a, V.int d] := ⟨by rw [← hd]; rfl⟩
    clear e2
    fail "r"
    exact q _ _ (by fail "c") (by fail "c") ⟨_, _, by assumption, ha, h1, h2⟩ (Int.emod_nonneg _ (by omega)) (Int.emod_lt_of_pos _ hn)
/-- a drawn text -/
def WdRes (H : Hp) (p : Addr) (ok : Str → Prop) (Q : VK) : Prop := ∀ (x : Str) (H' : Hp), But p H H' → Kp H H' → Pool H' p → ok x → Q (.str x) H'
def sp_law_word (K : PySem.W.Frag) : Sp := sp1 fun v H Q => ∃ p, v = .ref p ∧ Pool H p ∧ WdRes H p WordOk Q
theorem sc_law_word : FnScope ["_law_pool_here", "_law_turn"] ["_law_pool_here"] (defScope s_law_word) := ⟨rfl, rfl, rfl, by decide +kernel, rfl, by decide +kernel, by decide +kernel⟩
theorem k_law_word (B : Bag w K mg base) : Kept P w K mg base "_law_word" 2 ["_law_pool_here"] (sp_law_word K) := by
  obtain ⟨fd, F⟩ := B.c.def_ 61 (d := d_law_word) rfl
  obtain ⟨f_law_take, fd_law_take, g_law_take, kp_law_take, b_law_take, o_law_take⟩ := k_law_take (P := P) B
  have n_range := He.free_ok B.X B.G (B.c.fact 91 (f := .free "range") rfl)
  have g0 := He.glo_ok B.X B.G (B.c.fact 53 (f := .glo "_law_word") rfl)
  refine ⟨_, fd, g0, F.kp, F.bindsN (fun _ _ _ _ _ _ us hl => match us, hl with | [_], _ => rfl), ?_⟩
  refine F.ok sc_law_word (fun vs H Q E h => len1 h) (fun cdv A outer s H vs Q E hr h => ?_)
  have nd := sc_law_word.nd
  have hu := hu_of hr
  refine' ⟨_, PSs.nox ?hT, ?hR⟩
  case hT => exact (pss_cons (ps_if (pt_cmpR op_eq (pe_call o_law_take hr rfl g_law_take kp_law_take b_law_take .nil pass0 (pa_cons (pv 0) (pa_cons (pe_int) pa_nil))) (pe_int) (nomark _)) (pss_one (ps_ret (pe_str))) pss_nil)
      (pss_one (ps_ret (pe_bm PySem.F.plainAttrs_str PySem.F.slot_str_join PySem.F.type_str_join mt_joinA (pe_str) (pa_cons (pe_lc (own := [("_law_turn", 1)]) (g := gName 1) (tt := tYes) rfl nd (pi_range1 rfl n_range (pa_cons (pe_op op_add (pe_int) (pe_call o_law_take hr rfl g_law_take kp_law_take b_law_take .nil pass0 (pa_cons (pv 0) (pa_cons (pe_int) pa_nil)))) pa_nil)) (blkOk_by (N := ["_law_pool_here", "_law_turn"]) (sc := defScope s_law_word) (by decide +kernel)) (fun _ _ _ _ _ => (pg_name (i := 1) nd rfl (Or.inl rfl))) (fun _ _ _ _ _ => pts_nil) (fun _ _ _ _ _ => (pe_ix ix_str (pe_str) (pe_call o_law_take hr rfl g_law_take kp_law_take b_law_take .nil pass0 (pa_cons (pv 0) (pa_cons (pe_int) pa_nil))) (fun _ _ => rfl)))) pa_nil)))))
  clear hr hu nd g0 F fd o_law_take b_law_take kp_law_take g_law_take fd_law_take n_range
  try dsimp only [cxOf, Cx.nox, Cx.wish]
  obtain ⟨_, rfl, p, rfl, hp, q⟩ := h
  fail "s"
  intro r H1 b1 k1 p1 r0 r12
  by_cases c : r = 0
  · have e1 : V.int r = V.int 0 := by rw [c]
    fail "r"
    exact q _ _ (by fail "c") (by fail "c") (by fail "c") wordA
  · have e1 : ¬ V.int r = V.int 0 := fun z => c (V.int.inj z)
    fail "s"
    intro rr HX b2 k2 p2 rr0 rr3
    fail "r"
    refine lc_it (walk_range (lo := 0) (n := (1 + rr).toNat)) (fun i Hi => But p HX Hi ∧ Kp HX Hi ∧ Pool Hi p ∧ ∃ cs : List Nat, Hi D = some (.lst (cs.map fun c => V.str ⟨#[c]⟩)) ∧ cs.length = i ∧ ∀ c ∈ cs, 97 ≤ c ∧ c ≤ 122) ?_ (fun _ _ _ _ => trivial) (fun i y H2 H3 hi p' z => ?_) (fun H2 p' => ?_)
    · exact ⟨But.of (sameUpd (by assumption)), kpSame (sameUpd (by assumption)), poolS (sameUpd (by assumption)) (by assumption), [], upd_same, rfl, fun c hc => by cases hc⟩
    · obtain ⟨rfl, rfl⟩ := z
      obtain ⟨b2, k2, p2, cs, hD, hcl, hcs⟩ := p'
      have nD : HX D = none := by assumption
      have nDp : D ≠ p := by
        obtain ⟨x, y, e, _⟩ := (show Pool HX p by assumption)
        exact (neF nD e).symm
      have hcz : (cs.map fun c => V.str ⟨#[c]⟩).length < sizeLine := small_size (m := 10) (by rw [List.length_map]; omega)
      fail "s"
      intro r2 H4 b4 k4 p4 r0 r4
      obtain ⟨c, hc, hc1⟩ := abcz_at r0 r4
      have hD4 : H4 D = some (HO.lst (cs.map fun c => V.str ⟨#[c]⟩)) := by fail "c"
      refine ⟨_, _, _, rfl, rfl, by decide +kernel, hc, _, hD4, hcz, butUP nD (butB b4 b2), kpUP nD (kpTr k4 k2), poolB (But.upd _ _ _) nDp.symm p4, cs ++ [c], ?_, by rw [List.length_append, hcl]; rfl, fun c2 h2 => ?_⟩
      · rw [upd_same, List.map_append]
        rfl
      · rcases List.mem_append.mp h2 with h2 | h2
        · exact hcs c2 h2
        · rw [List.mem_singleton.mp h2]
          exact hc1
    · obtain ⟨b2, k2, p2, cs, hD, hcl, hcs⟩ := p'
      have hl : cs.length ≤ 3 := by omega
      have e2 : Nm (Str.join "" (cs.map fun c => (⟨#[c]⟩ : Str))) (Str.join "" (cs.map fun c => (⟨#[c]⟩ : Str))) := ⟨rfl⟩
      have hsum : ((cs.map fun c => (⟨#[c]⟩ : Str)).map (fun x : Str => x.length)).sum + (cs.map fun c => (⟨#[c]⟩ : Str)).length * ("" : Str).length ≤ 16777216 := by
        rw [sum_signs, em_str, show (Str.empty : Str).length = 0 from rfl, Nat.mul_zero]
        omega
      have hD2 : H2 D = some (HO.lst ((cs.map fun c => (⟨#[c]⟩ : Str)).map V.str)) := by rw [List.map_map]; exact hD
      fail "r"
      refine q _ _ (by fail "c") (by fail "c") (by fail "c") ⟨by rw [len_tl, tl_signs]; omega, by rw [len_tl, tl_signs]; omega, fun c hc => by rw [tl_signs] at hc; exact hcs c hc⟩
def sp_law_part (K : PySem.W.Frag) : Sp := sp1 fun v H Q => ∃ p, v = .ref p ∧ Pool H p ∧ WdRes H p PartOk Q
theorem sc_law_part : FnScope ["_law_pool_here", "_law_word_here"] ["_law_pool_here"] (defScope s_law_part) := ⟨rfl, rfl, rfl, by decide +kernel, rfl, by decide +kernel, by decide +kernel⟩
theorem k_law_part (B : Bag w K mg base) : Kept P w K mg base "_law_part" 3 ["_law_pool_here"] (sp_law_part K) := by
  obtain ⟨fd, F⟩ := B.c.def_ 62 (d := d_law_part) rfl
  obtain ⟨f_law_word, fd_law_word, g_law_word, kp_law_word, b_law_word, o_law_word⟩ := k_law_word (P := P) B
  obtain ⟨f_law_take, fd_law_take, g_law_take, kp_law_take, b_law_take, o_law_take⟩ := k_law_take (P := P) B
  have n_str := He.free_ok B.X B.G (B.c.fact 80 (f := .free "str") rfl)
  have g0 := He.glo_ok B.X B.G (B.c.fact 54 (f := .glo "_law_part") rfl)
  refine ⟨_, fd, g0, F.kp, F.bindsN (fun _ _ _ _ _ _ us hl => match us, hl with | [_], _ => rfl), ?_⟩
  refine F.ok sc_law_part (fun vs H Q E h => len1 h) (fun cdv A outer s H vs Q E hr h => ?_)
  have nd := sc_law_part.nd
  have hu := hu_of hr
  refine' ⟨_, PSs.nox ?hT, ?hR⟩
  case hT => exact (pss_cons (ps_set (i := 1) nd rfl (Or.inl rfl) (pe_call o_law_word hr rfl g_law_word kp_law_word b_law_word .nil pass0 (pa_cons (pv 0) pa_nil)))
      (pss_cons (ps_if (pt_cmpR op_eq (pe_call o_law_take (hr.mono (by decide)) rfl g_law_take kp_law_take b_law_take .nil pass0 (pa_cons (pv 0) (pa_cons (pe_int) pa_nil))) (pe_int) (nomark _)) (pss_one (ps_ret (pe_op op_add_str (pe_op op_add_str (pv 1) (pe_str)) (pe_bm PySem.F.plainAttrs_str PySem.F.slot_str_rjust PySem.F.type_str_rjust mt_rjustF (pe_callTy call_numN rfl n_str boot_str (pa_cons (pe_call o_law_take (hr.mono (by decide)) rfl g_law_take kp_law_take b_law_take .nil pass0 (pa_cons (pv 0) (pa_cons (pe_int) pa_nil))) pa_nil)) (pa_cons (pe_int) (pa_cons (pe_str) pa_nil)))))) pss_nil)
      (pss_one (ps_ret (pv 1)))))
  clear hr hu nd g0 F fd o_law_word b_law_word kp_law_word g_law_word fd_law_word o_law_take b_law_take kp_law_take g_law_take fd_law_take n_str
  try dsimp only [cxOf, Cx.nox, Cx.wish]
  obtain ⟨_, rfl, p, rfl, hp, q⟩ := h
  fail "s"
  intro x H1 b1 k1 p1 ok1
  fail "s"
  intro r H2 b2 k2 p2 r0 r4
  have h8 := ok1.2.1
  by_cases c : r = 0
  · have e1 : V.int r = V.int 0 := by rw [c]
    fail "s"
    intro r3 H3 b3 k3 p3 r30 r34
    obtain ⟨n, rfl⟩ := Int.eq_ofNat_of_zero_le r30
    have hn : n ≤ 999999 := by omega
    have hnb := small_big hn
    have h6 := (pad6_figs hn).1
    have e3 : Nm (Txt.rjustF (num n) 6 (("0" : Str).cps.getD 0 0)) (pad6 n) := ⟨by unfold pad6; rw [show ("0" : Str).cps.getD 0 0 = 48 by decide +kernel]⟩
    have e5 : PadOk 6 = true := by decide
    have e6 : ("0" : Str).length = 1 := by decide +kernel
    fail "r"
    exact q _ _ (by fail "c") (by fail "c") (by fail "c") (.inr ⟨x, pad6 n, rfl, ok1, (pad6_figs hn).1, (pad6_figs hn).2⟩)
  · have e1 : ¬ V.int r = V.int 0 := fun z => c (V.int.inj z)
    fail "r"
    exact q _ _ (by fail "c") (by fail "c") (by fail "c") (.inl ok1)
def sp_law_line (K : PySem.W.Frag) : Sp := sp1 fun v H Q => ∃ p, v = .ref p ∧ Pool H p ∧ WdRes H p TextOk Q
theorem sc_law_line : FnScope ["_law_pool_here", "_law_turn"] ["_law_pool_here"] (defScope s_law_line) := ⟨rfl, rfl, rfl, by decide +kernel, rfl, by decide +kernel, by decide +kernel⟩
theorem k_law_line (B : Bag w K mg base) : Kept P w K mg base "_law_line" 2 ["_law_pool_here"] (sp_law_line K) := by
  obtain ⟨fd, F⟩ := B.c.def_ 63 (d := d_law_line) rfl
  obtain ⟨f_law_take, fd_law_take, g_law_take, kp_law_take, b_law_take, o_law_take⟩ := k_law_take (P := P) B
  have n_range := He.free_ok B.X B.G (B.c.fact 91 (f := .free "range") rfl)
  have g0 := He.glo_ok B.X B.G (B.c.fact 55 (f := .glo "_law_line") rfl)
  refine ⟨_, fd, g0, F.kp, F.bindsN (fun _ _ _ _ _ _ us hl => match us, hl with | [_], _ => rfl), ?_⟩
  refine F.ok sc_law_line (fun vs H Q E h => len1 h) (fun cdv A outer s H vs Q E hr h => ?_)
  have nd := sc_law_line.nd
  have hu := hu_of hr
  refine' ⟨_, PSs.nox ?hT, ?hR⟩
  case hT => exact (pss_one (ps_ret (pe_bm PySem.F.plainAttrs_str PySem.F.slot_str_join PySem.F.type_str_join mt_joinA (pe_str) (pa_cons (pe_lc (own := [("_law_turn", 1)]) (g := gName 1) (tt := tYes) rfl nd (pi_range1 rfl n_range (pa_cons (pe_call o_law_take hr rfl g_law_take kp_law_take b_law_take .nil pass0 (pa_cons (pv 0) (pa_cons (pe_int) pa_nil))) pa_nil)) (blkOk_by (N := ["_law_pool_here", "_law_turn"]) (sc := defScope s_law_line) (by decide +kernel)) (fun _ _ _ _ _ => (pg_name (i := 1) nd rfl (Or.inl rfl))) (fun _ _ _ _ _ => pts_nil) (fun _ _ _ _ _ => (pe_ix ix_str (pe_str) (pe_call o_law_take hr rfl g_law_take kp_law_take b_law_take .nil pass0 (pa_cons (pv 0) (pa_cons (pe_int) pa_nil))) (fun _ _ => rfl)))) pa_nil))))
  clear hr hu nd g0 F fd o_law_take b_law_take kp_law_take g_law_take fd_law_take n_range
  try dsimp only [cxOf, Cx.nox, Cx.wish]
  obtain ⟨_, rfl, p, rfl, hp, q⟩ := h
  fail "s"
  intro rr HX b2 k2 p2 rr0 rr3
  fail "r"
  refine lc_it (walk_range (lo := 0) (n := (rr).toNat)) (fun i Hi => But p HX Hi ∧ Kp HX Hi ∧ Pool Hi p ∧ ∃ cs : List Nat, Hi D = some (.lst (cs.map fun c => V.str ⟨#[c]⟩)) ∧ cs.length = i ∧ ∀ c ∈ cs, 32 ≤ c ∧ c ≤ 126) ?_ (fun _ _ _ _ => trivial) (fun i y H2 H3 hi p' z => ?_) (fun H2 p' => ?_)
  · exact ⟨But.of (sameUpd (by assumption)), kpSame (sameUpd (by assumption)), poolS (sameUpd (by assumption)) (by assumption), [], upd_same, rfl, fun c hc => by cases hc⟩
  · obtain ⟨rfl, rfl⟩ := z
    obtain ⟨b2, k2, p2, cs, hD, hcl, hcs⟩ := p'
    have nD : HX D = none := by assumption
    have nDp : D ≠ p := by
      obtain ⟨x, y, e, _⟩ := (show Pool HX p by assumption)
      exact (neF nD e).symm
    have hcz : (cs.map fun c => V.str ⟨#[c]⟩).length < sizeLine := small_size (m := 10) (by rw [List.length_map]; omega)
    fail "s"
    intro r2 H4 b4 k4 p4 r0 r4
    obtain ⟨c, hc, hc1⟩ := line_at r0 r4
    have hD4 : H4 D = some (HO.lst (cs.map fun c => V.str ⟨#[c]⟩)) := by fail "c"
    refine ⟨_, _, _, rfl, rfl, by decide +kernel, hc, _, hD4, hcz, butUP nD (butB b4 b2), kpUP nD (kpTr k4 k2), poolB (But.upd _ _ _) nDp.symm p4, cs ++ [c], ?_, by rw [List.length_append, hcl]; rfl, fun c2 h2 => ?_⟩
    · rw [upd_same, List.map_append]
      rfl
    · rcases List.mem_append.mp h2 with h2 | h2
      · exact hcs c2 h2
      · rw [List.mem_singleton.mp h2]
        exact hc1
  · obtain ⟨b2, k2, p2, cs, hD, hcl, hcs⟩ := p'
    have hl : cs.length ≤ 4 := by omega
    have e2 : Nm (Str.join "" (cs.map fun c => (⟨#[c]⟩ : Str))) (Str.join "" (cs.map fun c => (⟨#[c]⟩ : Str))) := ⟨rfl⟩
    have hsum : ((cs.map fun c => (⟨#[c]⟩ : Str)).map (fun x : Str => x.length)).sum + (cs.map fun c => (⟨#[c]⟩ : Str)).length * ("" : Str).length ≤ 16777216 := by
      rw [sum_signs, em_str, show (Str.empty : Str).length = 0 from rfl, Nat.mul_zero]
      omega
    have hD2 : H2 D = some (HO.lst ((cs.map fun c => (⟨#[c]⟩ : Str)).map V.str)) := by rw [List.map_map]; exact hD
    fail "r"
    refine q _ _ (by fail "c") (by fail "c") (by fail "c") ⟨by rw [len_tl, tl_signs]; omega, fun c hc => by rw [tl_signs] at hc; exact hcs c hc⟩
/-- the law's own web -/
structure LOk (B : Nat) (W : Nds) : Prop where
  nd : (W.map (·.1)).Nodup
  path : ∀ p ∈ W, PathOk p.1
  size : W.length ≤ 60
  cnt : ∀ p ∈ W, p.2.count ≤ B ∧ p.2.made ≤ B
  root : ∃ e, lkA W "/" = some e ∧ e.owner = none
def LWeb (K : PySem.W.Frag) (H : Hp) (a : Addr) (B : Nat) (W : Nds) : Prop := Web K H a (ndsD W) ∧ LOk B W
def sp_law_path (K : PySem.W.Frag) : Sp := sp3 fun v1 v2 v3 H Q => ∃ (p a : Addr) (B : Nat) (W : Nds) (n : Int), v1 = .ref p ∧ v2 = .ref a ∧ v3 = .int n ∧ Pool H p ∧ LWeb K H a B W ∧ WdRes H p PathOk Q
theorem sc_law_path : FnScope ["_law_pool_here", "_law_web", "_law_many", "_law_some", "_law_road"] ["_law_pool_here", "_law_web", "_law_many"] (defScope s_law_path) := ⟨rfl, rfl, rfl, by decide +kernel, rfl, by decide +kernel, by decide +kernel⟩
theorem k_law_path (B : Bag w K mg base) : Kept P w K mg base "_law_path" 4 ["_law_pool_here", "_law_web", "_law_many"] (sp_law_path K) := by
  obtain ⟨fd, F⟩ := B.c.def_ 64 (d := d_law_path) rfl
  obtain ⟨f_law_take, fd_law_take, g_law_take, kp_law_take, b_law_take, o_law_take⟩ := k_law_take (P := P) B
  obtain ⟨f_law_part, fd_law_part, g_law_part, kp_law_part, b_law_part, o_law_part⟩ := k_law_part (P := P) B
  have n_int := He.free_ok B.X B.G (B.c.fact 78 (f := .free "int") rfl)
  have n_len := He.free_ok B.X B.G (B.c.fact 81 (f := .free "len") rfl)
  have n_sorted := He.free_ok B.X B.G (B.c.fact 86 (f := .free "sorted") rfl)
  have g0 := He.glo_ok B.X B.G (B.c.fact 56 (f := .glo "_law_path") rfl)
  refine ⟨_, fd, g0, F.kp, F.bindsN (fun _ _ _ _ _ _ us hl => match us, hl with | [_, _, _], _ => rfl), ?_⟩
  refine F.ok sc_law_path (fun vs H Q E h => len3 h) (fun cdv A outer s H vs Q E hr h => ?_)
  have nd := sc_law_path.nd
  have hu := hu_of hr
  refine' ⟨_, PSs.nox ?hT, ?hR⟩
  case hT => exact (pss_cons (ps_set (i := 3) nd rfl (Or.inl rfl) (pe_callB (call_sortDA rfl) rfl n_sorted (by decide +kernel) (pa_cons (pv 1) pa_nil)))
      (pss_cons (ps_set (i := 4) nd rfl (Or.inl rfl) (pe_ix ix_list (pv 3) (pe_call o_law_take (hr.mono (by decide)) rfl g_law_take kp_law_take b_law_take .nil pass0 (pa_cons (pv 0) (pa_cons (pe_callB call_len_seq rfl n_len (by decide +kernel) (pa_cons (pv 3) pa_nil)) pa_nil))) (fun _ _ => rfl)))
      (pss_cons (ps_if (PW.pt (pw_and (pt_cmpR op_lt (pe_bm PySem.F.plainAttrs_str PySem.F.slot_str_count PySem.F.type_str_count mt_count (pv 4) (pa_cons (pe_str) pa_nil)) (pe_int) (nomark _)) (pw_and1 (pt_cmpR op_lt (pe_call o_law_take (hr.mono (by decide)) rfl g_law_take kp_law_take b_law_take .nil pass0 (pa_cons (pv 0) (pa_cons (pe_int) pa_nil))) (pv 2) (nomark _))))) (pss_one (ps_set (i := 4) nd rfl (Or.inl rfl) (pe_op op_add_str (pe_op op_add_str (pe_ix ix_list (pe_lstA (pa_cons (pv 4) (pa_cons (pe_str) pa_nil))) (pe_callTy call_intB rfl n_int boot_int (pa_cons (pe_cmpR op_eq (pv 4) (pe_str) (nomark _)) pa_nil)) (fun _ _ => rfl)) (pe_str)) (pe_call o_law_part hr rfl g_law_part kp_law_part b_law_part .nil pass0 (pa_cons (pv 0) pa_nil))))) pss_nil)
      (pss_one (ps_ret (pv 4))))))
  clear hr hu nd g0 F fd o_law_take b_law_take kp_law_take g_law_take fd_law_take o_law_part b_law_part kp_law_part g_law_part fd_law_part n_int n_len n_sorted
  try dsimp only [cxOf, Cx.nox, Cx.wish]
  obtain ⟨_, _, _, rfl, p, a, B, W, n, rfl, rfl, rfl, hp, ⟨hw, hok⟩, q⟩ := h
  obtain ⟨kvs, hd, he⟩ := hw
  have hsz := hok.size
  have hks : Nm (kvs.map (·.1)) ((W.map (·.1)).map Sum.inr) := ⟨he.keysN⟩
  have h64 : (W.map (·.1)).length < 64 := by rw [List.length_map]; omega
  obtain ⟨e0, he0, _⟩ := hok.root
  have hW1 : 1 ≤ W.length := List.length_pos_of_mem (lkA_mem he0)
  fail "s"
  · rw [List.length_map, a_1.length_eq, List.length_map]
    omega
  refine ⟨by rw [List.length_map, a_1.length_eq, List.length_map]; omega, ?_⟩
  intro r H1 b1 k1 p1 r0 rn
  obtain ⟨y, hy, hyW⟩ : ∃ y, atI (ys.map V.str) r = some (V.str y) ∧ y ∈ W.map (·.1) := by
    obtain ⟨k, rfl⟩ := Int.eq_ofNat_of_zero_le r0
    rw [List.length_map] at rn
    have hk : k < ys.length := by omega
    refine ⟨ys[k], atI_at (by rw [List.getElem?_map, List.getElem?_eq_getElem hk]; rfl), a_1.mem_iff.mp (List.getElem_mem hk)⟩
  obtain ⟨py, hpy, rfl⟩ := List.mem_map.mp hyW
  obtain ⟨ps, okp, eps⟩ := hok.path py hpy
  have hpth : PathOk py.1 := ⟨ps, okp, eps⟩
  have npp : p_1 ≠ p := by
    obtain ⟨x, y, e, _⟩ := hp
    exact (neF a_4 e).symm
  have hl1 : H1 p_1 = some (HO.lst (ys.map V.str)) := getB b1 npp a_5
  by_cases c5 : (Txt.count py.1 "/" : Int) < 5
  · have hps : ps.length ≤ 4 := by rw [eps] at c5; exact count_lt okp c5
    fail "s"
    intro r2 H2 b2 k2 p2 r20 r23
    by_cases cn : r2 < n
    · have hlp := hpth.len
      by_cases cr : py.1 = "/"
      · have e7 : atI [V.str py.1, V.str ""] (if decide (V.str py.1 = V.str "/") = true then 1 else 0) = some (V.str "") := by
          rw [if_pos (decide_eq_true (by rw [cr]))]
          rfl
        have hl0 : ("" : Str).length = 0 := by decide +kernel
        fail "s"
        intro x H3 b3 k3 p3 okx
        have hlx := okx.len
        have hps0 : ps = [] := (pathT_root okp.2).mp (eps ▸ cr)
        fail "r"
        refine q _ _ (by fail "c") (by fail "c") (by fail "c") ⟨[x], partsOk_snoc (ps := []) ⟨by decide, fun _ h => by cases h⟩ (by decide) okx, ?_⟩
        show "" ++ "/" ++ x = "/" ++ x
        rw [em_str, PySem.Str.empty_append]
      · have e7 : atI [V.str py.1, V.str ""] (if decide (V.str py.1 = V.str "/") = true then 1 else 0) = some (V.str py.1) := by
          rw [if_neg (by rw [decide_eq_false (fun z => cr (V.str.inj z))]; decide)]
          rfl
        fail "s"
        intro x H3 b3 k3 p3 okx
        have hlx := okx.len
        have hps0 : ps ≠ [] := fun z => cr (by rw [eps]; exact (pathT_root okp.2).mpr z)
        fail "r"
        refine q _ _ (by fail "c") (by fail "c") (by fail "c") ⟨ps ++ [x], partsOk_snoc okp hps okx, ?_⟩
        rw [eps]
        exact pathT_more hps0
    · fail "s"
      exact q _ _ (by fail "c") (by fail "c") (by fail "c") hpth
  · fail "r"
    exact q _ _ (by fail "c") (by fail "c") (by fail "c") hpth
/-- a drawn count -/
def CtRes (K : PySem.W.Frag) (H : Hp) (p : Addr) (Q : VK) : Prop := ∀ u c H', But p H H' → Kp H H' → Pool H' p → Dt K H' u (cntD c) → CntOk c → Q u H'
/-- drawn data -/
def DtRes {α : Type} (K : PySem.W.Frag) (H : Hp) (p : Addr) (D : α → PyData) (ok : α → Prop) (Q : VK) : Prop := ∀ u d H', But p H H' → Kp H H' → Pool H' p → Dt K H' u (D d) → ok d → Q u H'
def sp_law_count (K : PySem.W.Frag) : Sp := sp3 fun v1 v2 v3 H Q => ∃ (p a : Addr) (B : Nat) (W : Nds) (x : Str), v1 = .ref p ∧ v2 = .ref a ∧ v3 = .str x ∧ Pool H p ∧ LWeb K H a B W ∧ B + 1 < big ∧ CtRes K H p Q
theorem sc_law_count : FnScope ["_law_pool_here", "_law_web", "_law_road", "_law_count_here"] ["_law_pool_here", "_law_web", "_law_road"] (defScope s_law_count) := ⟨rfl, rfl, rfl, by decide +kernel, rfl, by decide +kernel, by decide +kernel⟩
theorem k_law_count (B : Bag w K mg base) : Kept P w K mg base "_law_count" 2 ["_law_pool_here", "_law_web", "_law_road"] (sp_law_count K) := by
  obtain ⟨fd, F⟩ := B.c.def_ 65 (d := d_law_count) rfl
  obtain ⟨f_law_take, fd_law_take, g_law_take, kp_law_take, b_law_take, o_law_take⟩ := k_law_take (P := P) B
  have g0 := He.glo_ok B.X B.G (B.c.fact 57 (f := .glo "_law_count") rfl)
  refine ⟨_, fd, g0, F.kp, F.bindsN (fun _ _ _ _ _ _ us hl => match us, hl with | [_, _, _], _ => rfl), ?_⟩
  refine F.ok sc_law_count (fun vs H Q E h => len3 h) (fun cdv A outer s H vs Q E hr h => ?_)
  have nd := sc_law_count.nd
  have hu := hu_of hr
  refine' ⟨_, PSs.nox ?hT, ?hR⟩
  case hT => exact (pss_cons (ps_set (i := 3) nd rfl (Or.inl rfl) (pe_ix ix_tup (pe_dget2 hu (pv 1) (pv 2) (pe_tupA (pa_cons (pe_str) (pa_cons (pe_int) pa_nil))) ⟨rfl, rfl, rfl, rfl⟩) (pe_int) (fun _ _ => rfl)))
      (pss_one (ps_ret (pe_ix ix_list (pe_lstA (pa_cons (pe_non) (pa_cons (pe_non) (pa_cons (pv 3) (pa_cons (pv 3) (pa_cons (pe_op op_add (pv 3) (pe_int)) (pa_cons (pe_int) pa_nil))))))) (pe_call o_law_take hr rfl g_law_take kp_law_take b_law_take .nil pass0 (pa_cons (pv 0) (pa_cons (pe_int) pa_nil))) (fun _ _ => rfl)))))
  clear hr hu nd g0 F fd o_law_take b_law_take kp_law_take g_law_take fd_law_take
  try dsimp only [cxOf, Cx.nox, Cx.wish]
  obtain ⟨_, _, _, rfl, p, a, B, W, x, rfl, rfl, rfl, hp, ⟨hw, hok⟩, hB, q⟩ := h
  obtain ⟨kvs, hd, he⟩ := hw
  have pick : ∀ (c : Nat) (r : Int) (H1 : Hp), c + 1 < big → 0 ≤ r → r < 6 → ∃ u cc, atI [V.non, V.non, V.int c, V.int c, V.int ((c : Int) + 1), V.int 0] r = some u ∧ Dt K H1 u (cntD cc) ∧ CntOk cc := by
    intro c r H1 hc h0 h6
    have : r = 0 ∨ r = 1 ∨ r = 2 ∨ r = 3 ∨ r = 4 ∨ r = 5 := by omega
    rcases this with rfl | rfl | rfl | rfl | rfl | rfl
    · exact ⟨_, none, rfl, .non, trivial⟩
    · exact ⟨_, none, rfl, .non, trivial⟩
    · exact ⟨_, some c, rfl, .int _, Nat.lt_of_succ_lt hc⟩
    · exact ⟨_, some c, rfl, .int _, Nat.lt_of_succ_lt hc⟩
    · exact ⟨_, some (c + 1), rfl, .int _, hc⟩
    · exact ⟨_, some 0, rfl, .int _, Nat.lt_of_le_of_lt (Nat.zero_le _) hc⟩
  cases hk : lkA W x with
  | none =>
    have hv := he.getN0 hk
    fail "s"
    intro r H2 b2 k2 p2 r0 r6
    obtain ⟨u, cc, h1, h2, h3⟩ := pick 1 r H2 (by decide) r0 r6
    have npp : p_2 ≠ p := by
      obtain ⟨x, y, e, _⟩ := (show Pool H' p by fail "c")
      exact (neF a_5 e).symm
    refine ⟨p_2, _, _, _, rfl, rfl, SqL.of (getB b2 npp a_6), h1, q _ cc _ (by fail "c") (by fail "c") p2 h2 h3⟩
  | some e =>
    obtain ⟨v, hv, dv⟩ := he.getN hk
    obtain ⟨l2, o', rfl, ht, ho⟩ := nd_inv dv
    have hcb := (hok.cnt _ (lkA_mem hk)).1
    have hcb : e.count ≤ B := hcb
    fail "s"
    intro r H2 b2 k2 p2 r0 r6
    obtain ⟨u, cc, h1, h2, h3⟩ := pick e.count r H2 (by omega) r0 r6
    have npp : p_2 ≠ p := by
      obtain ⟨x, y, e, _⟩ := (show Pool H' p by fail "c")
      exact (neF a_5 e).symm
    refine ⟨p_2, _, _, _, rfl, rfl, SqL.of (getB b2 npp a_6), h1, q _ cc _ (by fail "c") (by fail "c") p2 h2 h3⟩
def sp_law_deed (K : PySem.W.Frag) : Sp := sp2 fun v1 v2 H Q => ∃ (p a : Addr) (B : Nat) (W : Nds), v1 = .ref p ∧ v2 = .ref a ∧ Pool H p ∧ LWeb K H a B W ∧ B + 1 < big ∧ DtRes K H p Pl.d Pl.Ok Q
theorem sc_law_deed : FnScope ["_law_pool_here", "_law_web", "_law_way", "_law_road", "_law_count_here", "_law_numbered"] ["_law_pool_here", "_law_web"] (defScope s_law_deed) := ⟨rfl, rfl, rfl, by decide +kernel, rfl, by decide +kernel, by decide +kernel⟩
theorem k_law_deed (B : Bag w K mg base) : Kept P w K mg base "_law_deed" 5 ["_law_pool_here", "_law_web"] (sp_law_deed K) := by
  obtain ⟨fd, F⟩ := B.c.def_ 66 (d := d_law_deed) rfl
  obtain ⟨f_law_take, fd_law_take, g_law_take, kp_law_take, b_law_take, o_law_take⟩ := k_law_take (P := P) B
  obtain ⟨f_law_path, fd_law_path, g_law_path, kp_law_path, b_law_path, o_law_path⟩ := k_law_path (P := P) B
  obtain ⟨f_law_line, fd_law_line, g_law_line, kp_law_line, b_law_line, o_law_line⟩ := k_law_line (P := P) B
  obtain ⟨f_law_count, fd_law_count, g_law_count, kp_law_count, b_law_count, o_law_count⟩ := k_law_count (P := P) B
  have n_int := He.free_ok B.X B.G (B.c.fact 78 (f := .free "int") rfl)
  have g0 := He.glo_ok B.X B.G (B.c.fact 58 (f := .glo "_law_deed") rfl)
  refine ⟨_, fd, g0, F.kp, F.bindsN (fun _ _ _ _ _ _ us hl => match us, hl with | [_, _], _ => rfl), ?_⟩
  refine F.ok sc_law_deed (fun vs H Q E h => len2 h) (fun cdv A outer s H vs Q E hr h => ?_)
  have nd := sc_law_deed.nd
  have hu := hu_of hr
  refine' ⟨_, PSs.nox ?hT, ?hR⟩
  case hT => exact (pss_cons (ps_set (i := 2) nd rfl (Or.inl rfl) (pe_call o_law_take (hr.mono (by decide)) rfl g_law_take kp_law_take b_law_take .nil pass0 (pa_cons (pv 0) (pa_cons (pe_int) pa_nil))))
      (pss_cons (ps_set (i := 3) nd rfl (Or.inl rfl) (pe_call o_law_path hr rfl g_law_path kp_law_path b_law_path .nil pass0 (pa_cons (pv 0) (pa_cons (pv 1) (pa_cons (pe_op op_add (pe_int) (pe_callTy call_intB rfl n_int boot_int (pa_cons (pe_cmpR op_lt (pv 2) (pe_int) (nomark _)) pa_nil))) pa_nil)))))
      (pss_cons (ps_if (PW.pt (pw_and (pt_cmpR op_lt (pv 2) (pe_int) (nomark _)) (pw_and1 (pt_cmpR op_ne (pv 3) (pe_str) (nomark _))))) (pss_cons (ps_set (i := 5) nd rfl (Or.inl rfl) (pe_and (pe_cmpR op_eq (pe_call o_law_take (hr.mono (by decide)) rfl g_law_take kp_law_take b_law_take .nil pass0 (pa_cons (pv 0) (pa_cons (pe_int) pa_nil))) (pe_int) (nomark _)) (pe_one (pe_cmpR op_notIn_sign (pe_str) (pe_ix ix_list (pe_bm PySem.F.plainAttrs_str PySem.F.slot_str_split PySem.F.type_str_split mt_splitA (pv 3) (pa_cons (pe_str) pa_nil)) (pe_un un_neg (pe_int)) (fun _ _ => rfl)) rfl))))
      (pss_one (ps_ret (pe_tupA (pa_cons (pe_str) (pa_cons (pv 3) (pa_cons (pe_call o_law_line (hr.mono (by decide)) rfl g_law_line kp_law_line b_law_line .nil pass0 (pa_cons (pv 0) pa_nil)) (pa_cons (pe_cmpR op_eq (pe_call o_law_take (hr.mono (by decide)) rfl g_law_take kp_law_take b_law_take .nil pass0 (pa_cons (pv 0) (pa_cons (pe_int) pa_nil))) (pe_int) (nomark _)) (pa_cons (pv 5) pa_nil))))))))) pss_nil)
      (pss_cons (ps_set (i := 4) nd rfl (Or.inl rfl) (pe_call o_law_count (hr.mono (by decide)) rfl g_law_count kp_law_count b_law_count .nil pass0 (pa_cons (pv 0) (pa_cons (pv 1) (pa_cons (pv 3) pa_nil)))))
      (pss_cons (ps_if (PW.pt (pw_or (pt_cmpR op_eq (pv 2) (pe_int) (nomark _)) (pw_or1 (PW.pt (pw_and (pt_cmpR op_eq (pv 3) (pe_str) (nomark _)) (pw_and1 (pt_cmpR op_gt (pv 2) (pe_int) (nomark _)))))))) (pss_one (ps_ret (pe_tupA (pa_cons (pe_str) (pa_cons (pv 3) (pa_cons (pe_call o_law_line (hr.mono (by decide)) rfl g_law_line kp_law_line b_law_line .nil pass0 (pa_cons (pv 0) pa_nil)) (pa_cons (pv 4) pa_nil))))))) pss_nil)
      (pss_cons (ps_if (pt_cmpR op_gt (pv 2) (pe_int) (nomark _)) (pss_one (ps_ret (pe_tupA (pa_cons (pe_str) (pa_cons (pv 3) (pa_cons (pv 4) pa_nil)))))) pss_nil)
      (pss_one (ps_ret (pe_tupA (pa_cons (pe_str) (pa_cons (pv 3) (pa_cons (pv 4) pa_nil))))))))))))
  clear hr hu nd g0 F fd o_law_take b_law_take kp_law_take g_law_take fd_law_take o_law_path b_law_path kp_law_path g_law_path fd_law_path o_law_line b_law_line kp_law_line g_law_line fd_law_line o_law_count b_law_count kp_law_count g_law_count fd_law_count n_int
  try dsimp only [cxOf, Cx.nox, Cx.wish]
  obtain ⟨_, _, rfl, p, a, B, W, rfl, rfl, hp, hw, hB, q⟩ := h
  have hw0 := hw.1
  have hok := hw.2
  fail "s"
  intro r H1 b1 k1 p1 r0 r8
  fail "s"
  intro x H2 b2 k2 p2 okx
  have e45 : V.str "-" = V.str ⟨#[45]⟩ := by decide +kernel
  by_cases c1 : r < 4
  · have n4 : ¬ V.int r = V.int 4 := fun z => by have := V.int.inj z; omega
    by_cases c2 : x = "/"
    · have e2 : V.str x = V.str "/" := by rw [c2]
      fail "s"
      intro u cc H3 b3 k3 p3 du okc
      fail "s"
      exact q _ (.see x cc) _ (by fail "c") (by fail "c") (by fail "c") (Dt.tup (TpK.of (by fail "c")) (.cons (.str _) (.cons (.str _) (.cons (by fail "c") .nil)))) ⟨okx, okc⟩
    · have e2 : ¬ V.str x = V.str "/" := fun z => c2 (V.str.inj z)
      obtain ⟨qs, y, rfl, okq⟩ := path_last okx c2
      have hyp := okq.2 y (by simp)
      have e3 : Nm (Txt.split (pathT (qs ++ [y])) "/") (Str.empty :: (qs ++ [y])) := ⟨pathT_split (by simp) okq.2⟩
      have e4 : atI ((Str.empty :: (qs ++ [y])).map V.str) (-1) = some (V.str y) := by rw [← List.cons_append, List.map_append]; exact atI_last
      have e5 : (pathT (qs ++ [y])).length + 2 ≤ sizeLine := Nat.le_trans (Nat.add_le_add_right okx.len 2) (by decide)
      fail "s"
      intro r3 H3 b3 k3 p3 r30 r32
      by_cases c3 : r3 = 0
      · have e6 : V.int r3 = V.int 0 := by rw [c3]
        fail "s"
        intro t H4 b4 k4 p4 okt
        fail "s"
        intro r5 H5 b5 k5 p5 r50 r53
        fail "s"
        exact q _ (.make (pathT (qs ++ [y])) t (decide (V.int r5 = V.int 0)) (!decide (45 ∈ y.cps.toList))) _ (by fail "c") (by fail "c") (by fail "c") (Dt.tup (TpK.of (by fail "c")) (.cons (.str _) (.cons (.str _) (.cons (.str _) (.cons (.bl _) (.cons (.bl _) .nil))))))
          ⟨okx, c2, okt, fun hn => ⟨qs, y, rfl, okq, by
            rcases hyp with hyp | ⟨w1, f, rfl, _⟩
            · exact hyp
            · exfalso
              have h45 : 45 ∈ tl (w1 ++ "-" ++ f) := by rw [tl_append, tl_append, tl_da]; simp
              rw [decide_eq_true (show 45 ∈ (w1 ++ "-" ++ f).cps.toList from h45)] at hn
              cases hn⟩⟩
      · have e6 : ¬ V.int r3 = V.int 0 := fun z => c3 (V.int.inj z)
        fail "s"
        intro t H4 b4 k4 p4 okt
        fail "s"
        intro r5 H5 b5 k5 p5 r50 r53
        fail "s"
        exact q _ (.make (pathT (qs ++ [y])) t (decide (V.int r5 = V.int 0)) false) _ (by fail "c") (by fail "c") (by fail "c") (Dt.tup (TpK.of (by fail "c")) (.cons (.str _) (.cons (.str _) (.cons (.str _) (.cons (.bl _) (.cons (.bl _) .nil))))))
          ⟨okx, c2, okt, fun hn => by cases hn⟩
  · by_cases c4 : r = 4
    · have e4 : V.int r = V.int 4 := by rw [c4]
      fail "s"
      intro u cc H3 b3 k3 p3 du okc
      fail "s"
      intro t H4 b4 k4 p4 okt
      fail "s"
      exact q _ (.put x t cc) _ (by fail "c") (by fail "c") (by fail "c") (Dt.tup (TpK.of (by fail "c")) (.cons (.str _) (.cons (.str _) (.cons (.str _) (.cons (by fail "c") .nil))))) ⟨okx, okt, okc⟩
    · have n4 : ¬ V.int r = V.int 4 := fun z => c4 (V.int.inj z)
      by_cases cr : x = "/"
      · have e2 : V.str x = V.str "/" := by rw [cr]
        by_cases c5 : 5 < r
        · fail "s"
          intro u cc H3 b3 k3 p3 du okc
          fail "s"
          intro t H4 b4 k4 p4 okt
          fail "s"
          exact q _ (.put x t cc) _ (by fail "c") (by fail "c") (by fail "c") (Dt.tup (TpK.of (by fail "c")) (.cons (.str _) (.cons (.str _) (.cons (.str _) (.cons (by fail "c") .nil))))) ⟨okx, okt, okc⟩
        · fail "s"
          intro u cc H3 b3 k3 p3 du okc
          fail "s"
          exact q _ (.see x cc) _ (by fail "c") (by fail "c") (by fail "c") (Dt.tup (TpK.of (by fail "c")) (.cons (.str _) (.cons (.str _) (.cons (by fail "c") .nil)))) ⟨okx, okc⟩
      · have e2 : ¬ V.str x = V.str "/" := fun z => cr (V.str.inj z)
        by_cases c5 : 5 < r
        · fail "s"
          intro u cc H3 b3 k3 p3 du okc
          fail "s"
          exact q _ (.drop x cc) _ (by fail "c") (by fail "c") (by fail "c") (Dt.tup (TpK.of (by fail "c")) (.cons (.str _) (.cons (.str _) (.cons (by fail "c") .nil)))) ⟨okx, cr, okc⟩
        · fail "s"
          intro u cc H3 b3 k3 p3 du okc
          fail "s"
          exact q _ (.see x cc) _ (by fail "c") (by fail "c") (by fail "c") (Dt.tup (TpK.of (by fail "c")) (.cons (.str _) (.cons (.str _) (.cons (by fail "c") .nil)))) ⟨okx, okc⟩
def sp_law_above (K : PySem.W.Frag) : Sp := sp1 fun v H Q => ∃ x, v = .str x ∧ PathOk x ∧ ∀ H', L2.Same H H' → Q (.str (parentOf x)) H'
theorem sc_law_above : FnScope ["_law_road"] ["_law_road"] (defScope s_law_above) := ⟨rfl, rfl, rfl, by decide +kernel, rfl, by decide +kernel, by decide +kernel⟩
theorem k_law_above (B : Bag w K mg base) : Kept P w K mg base "_law_above" 1 ["_law_road"] (sp_law_above K) := by
  obtain ⟨fd, F⟩ := B.c.def_ 67 (d := d_law_above) rfl
  have g0 := He.glo_ok B.X B.G (B.c.fact 59 (f := .glo "_law_above") rfl)
  refine ⟨_, fd, g0, F.kp, F.bindsN (fun _ _ _ _ _ _ us hl => match us, hl with | [_], _ => rfl), ?_⟩
  refine F.ok sc_law_above (fun vs H Q E h => len1 h) (fun cdv A outer s H vs Q E hr h => ?_)
  have nd := sc_law_above.nd
  have hu := hu_of hr
  refine' ⟨_, PSs.nox ?hT, ?hR⟩
  case hT => exact (pss_one (ps_ret (pe_orT (pe_bm PySem.F.plainAttrs_str PySem.F.slot_str_join PySem.F.type_str_join mt_joinA (pe_str) (pa_cons (pe_slice sl_listA (pe_bm PySem.F.plainAttrs_str PySem.F.slot_str_split PySem.F.type_str_split mt_splitA (pv 0) (pa_cons (pe_str) pa_nil)) po_none (po_some (pe_un un_neg (pe_int)))) pa_nil)) (pe_one (pe_str)))))
  clear hr hu nd g0 F fd
  try dsimp only [cxOf, Cx.nox, Cx.wish]
  obtain ⟨_, rfl, x, rfl, ⟨ps, ok, rfl⟩, q⟩ := h
  have e1 : (pathT ps).length + 2 ≤ sizeLine := Nat.le_trans (Nat.add_le_add_right (PathOk.len ⟨ps, ok, rfl⟩) 2) (by decide)
  rw [parentOf_pathT ok.2] at q
  by_cases hps : ps = []
  · subst hps
    have q : ∀ H', L2.Same H H' → Q (.str "/") H' := by
      rw [show ([] : List Str).dropLast = [] from rfl, pathT_nil] at q
      exact q
    have e2 : Nm (Txt.split (pathT []) "/") [Str.empty, Str.empty] := ⟨by rw [pathT_nil]; decide +kernel⟩
    have e3 : Nm (cutV ([Str.empty, Str.empty].map V.str) none (some (-1))) ([Str.empty].map V.str) := ⟨by rw [cutV_init]; rfl⟩
    have e4 : Nm (Str.join "/" [Str.empty]) Str.empty := ⟨by decide +kernel⟩
    fail "r"
    exact q _ (by fail "c")
  have e2 : Nm (Txt.split (pathT ps) "/") (Str.empty :: ps) := ⟨pathT_split hps ok.2⟩
  have e3 : Nm (cutV ((Str.empty :: ps).map V.str) none (some (-1))) ((Str.empty :: ps.dropLast).map V.str) := ⟨by rw [cutV_init, ← List.map_dropLast, List.dropLast_cons_of_ne_nil hps]⟩
  have ok2 : PartsOk ps.dropLast := ⟨by rw [List.length_dropLast]; have := ok.1; omega, fun p hp => ok.2 p (List.dropLast_subset _ hp)⟩
  have hsum : ((Str.empty :: ps.dropLast).map (fun x : Str => x.length)).sum + (Str.empty :: ps.dropLast).length * ("/" : Str).length ≤ 16777216 := by
    have h2 := sum_le (f := fun x : Str => x.length) (m := 15) (l := ps.dropLast) fun x hx => (ok2.2 x hx).len.2
    have h3 := ok2.1
    have h4 : (Str.empty : Str).length = 0 := rfl
    simp only [List.map_cons, List.sum_cons, List.length_cons, len_sl] at h2 ⊢
    omega
  by_cases hq : ps.dropLast = []
  · rw [hq] at q e3 hsum
    have q : ∀ H', L2.Same H H' → Q (.str "/") H' := by
      rw [pathT_nil] at q
      exact q
    have e4 : Nm (Str.join "/" [Str.empty]) Str.empty := ⟨by decide +kernel⟩
    fail "r"
    exact q _ (by fail "c")
  · have e4 : Nm (Str.join "/" (Str.empty :: ps.dropLast)) (pathT ps.dropLast) := ⟨by rw [pathT_join hq, join_eq]⟩
    have h1 := (PathOk.len ⟨_, ok2, rfl⟩ : (pathT ps.dropLast).length ≤ 81)
    have e5 : (pathT ps.dropLast).length ≤ sizeLine := Nat.le_trans h1 (by decide)
    have e6 : (((pathT ps.dropLast).length : Int) != 0) = true := by
      have h2 : (pathT ps.dropLast).length = 1 + (Str.join "/" ps.dropLast).length := by
        unfold pathT
        rw [PySem.Str.length_append, len_sl]
      simp only [bne_iff_ne, ne_eq]
      omega
    fail "r"
    exact q _ (by fail "c")
def sp_law_kids (K : PySem.W.Frag) : Sp := sp2 fun v1 v2 H Q => ∃ (a : Addr) (B : Nat) (W : Nds) (x : Str), v1 = .ref a ∧ v2 = .str x ∧ LWeb K H a B W ∧ PathOk x ∧ ∀ (l : Addr) (ys : List Str) (H' : Hp), L2.Same H H' → H' l = some (.lst (ys.map V.str)) → (∀ y ∈ ys, PyData.strOk y = true) → Q (.ref l) H'
structure LKidP (HF : Hp) (D : Addr) (i : Nat) (H : Hp) : Prop where
  s : L2.Same HF H
  e : ∃ ys : List Str, H D = some (.lst (ys.map V.str)) ∧ ys.length ≤ i ∧ ∀ y ∈ ys, PyData.strOk y = true
theorem sc_law_kids : FnScope ["_law_web", "_law_road", "_law_one"] ["_law_web", "_law_road"] (defScope s_law_kids) := ⟨rfl, rfl, rfl, by decide +kernel, rfl, by decide +kernel, by decide +kernel⟩
theorem k_law_kids (B : Bag w K mg base) : Kept P w K mg base "_law_kids" 2 ["_law_web", "_law_road"] (sp_law_kids K) := by
  obtain ⟨fd, F⟩ := B.c.def_ 68 (d := d_law_kids) rfl
  obtain ⟨f_law_above, fd_law_above, g_law_above, kp_law_above, b_law_above, o_law_above⟩ := k_law_above (P := P) B
  have n_sorted := He.free_ok B.X B.G (B.c.fact 86 (f := .free "sorted") rfl)
  have g0 := He.glo_ok B.X B.G (B.c.fact 60 (f := .glo "_law_kids") rfl)
  refine ⟨_, fd, g0, F.kp, F.bindsN (fun _ _ _ _ _ _ us hl => match us, hl with | [_, _], _ => rfl), ?_⟩
  refine F.ok sc_law_kids (fun vs H Q E h => len2 h) (fun cdv A outer s H vs Q E hr h => ?_)
  have nd := sc_law_kids.nd
  have hu := hu_of hr
  refine' ⟨_, PSs.nox ?hT, ?hR⟩
  case hT => exact (pss_one (ps_lockA (ps_ret (pe_callB cr_sortSA rfl n_sorted (by decide +kernel) (pa_cons (pe_lc (own := [("_law_one", 2)]) (g := gName 2) (te := tOp (rIxL K) (tBM K "str" rSplitA (tVar 2) (tCons (tC (.str "/")) tNil)) (tUn (rU fun i => .int (-i)) (tC (.int 1)))) rfl nd (pi_keys (pv 0)) (blkOk_by (N := ["_law_web", "_law_road", "_law_one"]) (sc := defScope s_law_kids) (by decide +kernel)) (fun _ _ _ _ _ => (pg_name (i := 2) nd rfl (Or.inl rfl))) (fun _ _ _ _ _ => pts_one (PW.pt (pw_and (pt_cmpR op_ne (pv 2) (pe_str) (nomark _)) (pw_and1 (pt_cmpR op_eq (pe_call o_law_above hr rfl g_law_above kp_law_above b_law_above .nil pass0 (pa_cons (pv 2) pa_nil)) (pv 1) (nomark _)))))) (fun _ _ _ _ _ => (pe_ix ix_list (pe_bm PySem.F.plainAttrs_str PySem.F.slot_str_split PySem.F.type_str_split mt_splitA (pv 2) (pa_cons (pe_str) pa_nil)) (pe_un un_neg (pe_int)) (fun _ _ => rfl)))) pa_nil)))))
  clear hr hu nd g0 F fd o_law_above b_law_above kp_law_above g_law_above fd_law_above n_sorted
  try dsimp only [cxOf, Cx.nox, Cx.wish]
  obtain ⟨_, _, rfl, a, B, W, x, rfl, rfl, ⟨hw, hok⟩, hx, q⟩ := h
  obtain ⟨kvs, hd, he⟩ := hw
  have hsz := hok.size
  have hlk := he.lenN
  fail "r"
  refine .inl ⟨kvs, a_3, fun D nD => ?_⟩
  refine lc_it (walk_keys (kvs := kvs)) (LKidP HF D) ⟨sameUpd nD, [], upd_same, Nat.le_refl _, fun y hy => by cases hy⟩ (fun i H i1 kp => kp.s _ _ a_3) (fun i y H2 H3 hi kp z => ?_) (fun H2 kp => ?_)
  · obtain ⟨rfl, k, u, hku, rfl⟩ := z
    obtain ⟨y, nd, hW, rfl, dy⟩ := Ents.at (kvs := kvs) i he hku
    obtain ⟨s3, ys, hD, hl, hys⟩ := kp
    have py := hok.path _ (List.mem_of_getElem? hW)
    have hlen : (ys.map V.str).length < sizeLine := small_size (m := 60) (by rw [List.length_map]; omega)
    by_cases c1 : y = "/"
    · have e1 : (!decide (V.str y = V.str "/")) = false := by rw [c1]; rfl
      fail "r"
      exact ⟨by fail "c", ys, by fail "c", by omega, hys⟩
    · have e1 : (!decide (V.str y = V.str "/")) = true := notT (decide_eq_false fun z => c1 (V.str.inj z))
      obtain ⟨ps, z, hy, hps⟩ := path_last py c1
      by_cases c2 : parentOf y = x
      · have e2 : V.str (parentOf y) = V.str x := by rw [c2]
        subst hy
        have e3 : Nm (Txt.split (pathT (ps ++ [z])) "/") (Str.empty :: (ps ++ [z])) := ⟨pathT_split (by simp) hps.2⟩
        have e4 : atI ((Str.empty :: (ps ++ [z])).map V.str) (-1) = some (V.str z) := by rw [← List.cons_append, List.map_append]; exact atI_last
        have e5 : (pathT (ps ++ [z])).length + 2 ≤ sizeLine := Nat.le_trans (Nat.add_le_add_right (PathOk.len py) 2) (by decide)
        fail "r"
        refine ⟨sameUP nD (by fail "c"), ys ++ [z], ?_, ?_, ?_⟩
        · rw [upd_same, List.map_append]; rfl
        · rw [List.length_append]; simp; omega
        · intro y hy
          rcases List.mem_append.mp hy with hy | hy
          · exact hys y hy
          · rw [List.mem_singleton.mp hy]; exact (hps.2 z (by simp)).strOk
      · have e2 : ¬ V.str (parentOf y) = V.str x := fun z => c2 (V.str.inj z)
        fail "r"
        exact ⟨by fail "c", ys, by fail "c", by omega, hys⟩
  · obtain ⟨s3, ys, hD, hl, hys⟩ := kp
    have h64 : ys.length < 64 := by omega
    fail "r"
    have hpa : p ≠ a := fun z => by subst z; rw [a_6 _ _ (s3 _ _ a_3)] at a_8; cases a_8
    refine q _ ys_1 _ ?_ ?_ ?_
    · exact sameLock hd (by assumption) (by fail "c")
    · exact getB (by assumption) hpa (by fail "c")
    · exact fun y hy => hys y (a_4.mem_iff.mp hy)
theorem LOk.sub {B : Nat} {W W' : Nds} (h : LOk B W) (s : W'.Sublist W) (r : ∃ e, lkA W' "/" = some e ∧ e.owner = none) : LOk B W' :=
  ⟨List.Nodup.sublist (List.Sublist.map _ s) h.nd, fun p hp => h.path p (s.subset hp), Nat.le_trans s.length_le h.size, fun p hp => h.cnt p (s.subset hp), r⟩
theorem LOk.put {B B' : Nat} {W : Nds} {x : Str} {e e' : Nd} (h : LOk B W) (hk : lkA W x = some e) (ho : e'.owner = e.owner) (hc : e'.count ≤ B') (hm : e'.made ≤ B') (hb : B ≤ B') : LOk B' (putA W x e') := by
  have n : NdsOk B W := ⟨h.nd, h.path, h.size, h.cnt⟩
  have z := n.put hk hc hm hb
  refine ⟨z.nd, z.path, z.size, z.cnt, ?_⟩
  obtain ⟨e0, h0, o0⟩ := h.root
  rw [putA_lk]
  split
  · rename_i c
    subst c
    rw [h0] at hk
    cases hk
    exact ⟨_, rfl, by rw [ho]; exact o0⟩
  · exact ⟨e0, h0, o0⟩
theorem LOk.putM {B : Nat} {W : Nds} {who x t q : Str} {o : Bool} {e : Nd} (h : LOk B W) (hk : lkA W (parentOf x) = some e) (hq : PathOk q) (hl : W.length < 60) (hqn : lkA W q = none) : LOk (B + 1) (putM W who x t o e q) := by
  have n : NdsOk B W := ⟨h.nd, h.path, h.size, h.cnt⟩
  have z := n.putM (who := who) (t := t) (o := o) hk hq hl
  refine ⟨z.nd, z.path, z.size, z.cnt, ?_⟩
  obtain ⟨e0, h0, o0⟩ := h.root
  unfold Wn.putM
  rw [putA_lk, if_neg (fun c => by rw [← c, h0] at hqn; cases hqn), putA_lk]
  split
  · rename_i c
    rw [← c, h0] at hk
    cases hk
    exact ⟨_, rfl, o0⟩
  · exact ⟨e0, h0, o0⟩
theorem lok0 : LOk 0 root0 := by
  refine ⟨by simp [root0], fun p hp => ?_, by decide, fun p hp => ?_, ⟨_, by simp [root0, lkA]; rfl, rfl⟩⟩ <;> rcases List.mem_singleton.mp hp with rfl
  · exact rootOk
  · exact ⟨Nat.le_refl _, Nat.le_refl _⟩
/-- the law's web then, its answer, its events -/
def LRes (K : PySem.W.Frag) (H : Hp) (Q : VK) (a0 : Addr) (B : Nat) : Prop :=
  ∀ (r w1 a ev : Addr) (W : Nds) (s : Str) (x : V) (zs : List V) (H' : Hp), L2.Same H H' → H' r = some (.tup [.ref w1, .ref a, .ref ev]) → LWeb K H' w1 B W → H' a = some (.tup [.str s, x]) → H' ev = some (.lst zs) → zs.length ≤ 2 → H ev = none → (w1 = a0 ∨ H w1 = none) → Q (.ref r) H'
theorem LRes.use {H H' : Hp} {Q : VK} {a0 : Addr} {B : Nat} {W : Nds} {r w1 a ev : Addr} {s : Str} {x : V} {zs : List V} (q : LRes K H Q a0 B) (h1 : L2.Same H H') (h2 : H' r = some (.tup [.ref w1, .ref a, .ref ev])) (h3 : Web K H' w1 (ndsD W)) (h3' : LOk B W) (h4 : H' a = some (.tup [.str s, x])) (h5 : H' ev = some (.lst zs)) (h6 : zs.length ≤ 2) (h7 : H ev = none) (h8 : w1 = a0 ∨ H w1 = none) : Q (.ref r) H' :=
  q r w1 a ev W s x zs H' h1 h2 ⟨h3, h3'⟩ h4 h5 h6 h7 h8
theorem LOk.mono {B B' : Nat} {W : Nds} (h : LOk B W) (hb : B ≤ B') : LOk B' W := ⟨h.nd, h.path, h.size, fun p hp => ⟨Nat.le_trans (h.cnt p hp).1 hb, Nat.le_trans (h.cnt p hp).2 hb⟩, h.root⟩
def sp_law_make (K : PySem.W.Frag) : Sp := sp3 fun v1 v2 v3 H Q => ∃ (a : Addr) (B : Nat) (W : Nds) (x t who : Str) (o n : Bool), v1 = .ref a ∧ v3 = .str who ∧ Dt K H v2 (Pl.make x t o n).d ∧ (Pl.make x t o n).Ok ∧ LWeb K H a B W ∧ B + 1 < big ∧ LRes K H Q a (B + 1)
theorem sc_law_make : FnScope ["_law_web", "_law_task_here", "_law_who", "_law_above_here", "_law_elder", "_law_found", "_law_word_here", "_law_road", "_law_text", "_law_own", "_law_numbered"] ["_law_web", "_law_task_here", "_law_who"] (defScope s_law_make) := ⟨rfl, rfl, rfl, by decide +kernel, rfl, by decide +kernel, by decide +kernel⟩
theorem k_law_make (B : Bag w K mg base) : Kept P w K mg base "_law_make" 2 ["_law_web", "_law_task_here", "_law_who"] (sp_law_make K) := by
  obtain ⟨fd, F⟩ := B.c.def_ 69 (d := d_law_make) rfl
  obtain ⟨f_law_above, fd_law_above, g_law_above, kp_law_above, b_law_above, o_law_above⟩ := k_law_above (P := P) B
  have n_dict := He.free_ok B.X B.G (B.c.fact 85 (f := .free "dict") rfl)
  have n_int := He.free_ok B.X B.G (B.c.fact 78 (f := .free "int") rfl)
  have n_len := He.free_ok B.X B.G (B.c.fact 81 (f := .free "len") rfl)
  have n_str := He.free_ok B.X B.G (B.c.fact 80 (f := .free "str") rfl)
  have g0 := He.glo_ok B.X B.G (B.c.fact 61 (f := .glo "_law_make") rfl)
  refine ⟨_, fd, g0, F.kp, F.bindsN (fun _ _ _ _ _ _ us hl => match us, hl with | [_, _, _], _ => rfl), ?_⟩
  refine F.ok sc_law_make (fun vs H Q E h => len3 h) (fun cdv A outer s H vs Q E hr h => ?_)
  have nd := sc_law_make.nd
  have hu := hu_of hr
  refine' ⟨_, PSs.nox ?hT, ?hR⟩
  case hT => exact (pss_cons (ps_asg (pv 1) (pg_tup rfl (pgs_cons (pg_name (i := 6) nd rfl (Or.inl rfl)) (pgs_cons (pg_name (i := 7) nd rfl (Or.inl rfl)) (pgs_cons (pg_name (i := 8) nd rfl (Or.inl rfl)) (pgs_cons (pg_name (i := 9) nd rfl (Or.inl rfl)) (pgs_cons (pg_name (i := 10) nd rfl (Or.inl rfl)) pgs_nil)))))))
      (pss_cons (ps_set (i := 3) nd rfl (Or.inl rfl) (pe_call o_law_above hr rfl g_law_above kp_law_above b_law_above .nil pass0 (pa_cons (pv 7) pa_nil)))
      (pss_cons (ps_if (pt_cmp (pc_dnotin hu (pv 3) (pv 0))) (pss_one (ps_ret (pe_tupA (pa_cons (pv 0) (pa_cons (pe_tupA (pa_cons (pe_str) (pa_cons (pe_str) pa_nil))) (pa_cons (pe_lstA pa_nil) pa_nil)))))) pss_nil)
      (pss_cons (ps_set (i := 4) nd rfl (Or.inl rfl) (pe_dget hu (pv 0) (pv 3) (fun _ _ => rfl)))
      (pss_cons (ps_if (pt_cmp (pc_notN (pe_ix ix_tup (pv 4) (pe_int) (fun _ _ => rfl)))) (pss_one (ps_ret (pe_tupA (pa_cons (pv 0) (pa_cons (pe_tupA (pa_cons (pe_str) (pa_cons (pe_str) pa_nil))) (pa_cons (pe_lstA pa_nil) pa_nil)))))) pss_nil)
      (pss_cons (ps_if (pt_val (pv 10)) (pss_one (ps_set (i := 7) nd rfl (Or.inl rfl) (pe_op op_add_str (pe_op op_add_str (pv 7) (pe_str)) (pe_slice sl_strN (pe_op op_add_str (pe_str) (pe_callTy call_numN rfl n_str boot_str (pa_cons (pe_ix ix_tup (pv 4) (pe_int) (fun _ _ => rfl)) pa_nil))) (po_some (pe_un un_neg (pe_int))) po_none)))) pss_nil)
      (pss_cons (ps_if (pt_cmp (pc_din hu (pv 7) (pv 0))) (pss_one (ps_ret (pe_tupA (pa_cons (pv 0) (pa_cons (pe_tupA (pa_cons (pe_str) (pa_cons (pe_str) pa_nil))) (pa_cons (pe_lstA pa_nil) pa_nil)))))) pss_nil)
      (pss_cons (ps_if (pt_cmpR op_gt (pe_callB call_lenD rfl n_len (by decide +kernel) (pa_cons (pv 0) pa_nil)) (pe_int) (nomark _)) (pss_one (ps_ret (pe_tupA (pa_cons (pv 0) (pa_cons (pe_tupA (pa_cons (pe_str) (pa_cons (pe_str) pa_nil))) (pa_cons (pe_lstA pa_nil) pa_nil)))))) pss_nil)
      (pss_cons (ps_set (i := 5) nd rfl (Or.inl rfl) (pe_callTy call_dictA rfl n_dict boot_dict (pa_cons (pv 0) pa_nil)))
      (pss_cons (ps_dputA hu (pv 5) (pv 3) (pe_op op_catTA (pe_op op_catTA (pe_slice sl_tupA2 (pv 4) po_none (po_some (pe_int))) (pe_tupA (pa_cons (pe_op op_add (pe_ix ix_tup (pv 4) (pe_int) (fun _ _ => rfl)) (pe_int)) pa_nil))) (pe_slice sl_tupA2 (pv 4) (po_some (pe_int)) po_none)) rfl)
      (pss_cons (ps_dputA hu (pv 5) (pv 7) (pe_tupA (pa_cons (pv 8) (pa_cons (pe_int) (pa_cons (pe_int) (pa_cons (pe_ix ix_list (pe_lstA (pa_cons (pe_non) (pa_cons (pv 2) pa_nil))) (pe_callTy call_intB rfl n_int boot_int (pa_cons (pv 9) pa_nil)) (fun _ _ => rfl)) pa_nil))))) rfl)
      (pss_one (ps_ret (pe_tupA (pa_cons (pv 5) (pa_cons (pe_tupA (pa_cons (pe_str) (pa_cons (pv 7) pa_nil))) (pa_cons (pe_lstA (pa_cons (pe_tupA (pa_cons (pe_str) (pa_cons (pv 7) pa_nil))) (pa_cons (pe_tupA (pa_cons (pe_str) (pa_cons (pv 3) pa_nil))) pa_nil))) pa_nil)))))))))))))))))
  clear hr hu nd g0 F fd o_law_above b_law_above kp_law_above g_law_above fd_law_above n_dict n_int n_len n_str
  try dsimp only [cxOf, Cx.nox, Cx.wish]
  obtain ⟨_, _, _, rfl, a, B, W, x, t, who, o, n, rfl, rfl, ht, ok, ⟨hw, hok⟩, hB, q⟩ := h
  obtain ⟨kvs, hd, he⟩ := id hw
  obtain ⟨l, rfl, hl⟩ := pl_make ht
  have hx := ok.1
  have hlk := he.lenN
  have hokm := hok.mono (Nat.le_succ B)
  cases hk : lkA W (parentOf x) with
  | none =>
    have hv := he.getN0 hk
    fail "r"
    apply LRes.use q <;> fail "c"
  | some e =>
    obtain ⟨v, hv, dv⟩ := he.getN hk
    obtain ⟨l2, o', rfl, hl2, ho⟩ := nd_inv dv
    obtain rfl := own_inv ho
    cases hown : e.owner with
    | some z =>
      rw [hown] at hl2
      fail "r"
      apply LRes.use q <;> fail "c"
    | none =>
      rw [hown] at hl2
      have n1 : ¬ (HT.sIx [V.str e.text, V.int e.count, V.int e.made, ownV none].length 0 none = 0 ∧ HT.sIx [V.str e.text, V.int e.count, V.int e.made, ownV none].length [V.str e.text, V.int e.count, V.int e.made, ownV none].length (some 2) = [V.str e.text, V.int e.count, V.int e.made, ownV none].length) := fun z => absurd z.2 (by show ¬ HT.sIx 4 4 (some 2) = 4; decide)
      have n2 : ¬ (HT.sIx [V.str e.text, V.int e.count, V.int e.made, ownV none].length 0 (some 3) = 0 ∧ HT.sIx [V.str e.text, V.int e.count, V.int e.made, ownV none].length [V.str e.text, V.int e.count, V.int e.made, ownV none].length none = [V.str e.text, V.int e.count, V.int e.made, ownV none].length) := fun z => absurd z.1 (by show ¬ HT.sIx 4 0 (some 3) = 0; decide)
      have m1 : Nm (cutV [V.str e.text, V.int e.count, V.int e.made, ownV none] none (some 2)) [V.str e.text, V.int e.count] := ⟨cutV_to _ 2⟩
      have m2 : Nm (cutV [V.str e.text, V.int e.count, V.int e.made, ownV none] (some 3) none) [ownV none] := ⟨cutV_three _⟩
      have hmb : e.made < big := by have : e.made ≤ B := (hok.cnt _ (lkA_mem hk)).2; omega
      have hxl := hx.len
      have hml := num_le0 hmb
      have l5 : ("00000" : Str).length = 5 := by decide +kernel
      cases n with
      | false =>
        have hq := hx
        cases hkq : lkA W x with
        | some e2 =>
          obtain ⟨v2, hv2, dv2⟩ := he.getN hkq
          fail "r"
          apply LRes.use q <;> fail "c"
        | none =>
          have hv2 := he.getN0 hkq
          by_cases h59 : 59 < kvs.length
          · fail "r"
            apply LRes.use q <;> fail "c"
          · have hlen : kvs.length < sizeLine := small_size (m := 60) (by omega)
            have hlen2 : ∀ v, (putK kvs (Sum.inr (parentOf x) : Key) v).length < sizeLine := fun v => small_size (m := 61) (Nat.le_trans (putK_len _ _ _) (by omega))
            have hokp := hok.putM (who := who) (t := t) (o := o) hk hq (by omega) hkq
            have ho1 : atI [V.non, V.str who] (if o = true then 1 else 0) = some (ownV (if o = true then some who else none)) := by cases o <;> rfl
            fail "r"
            · exact hlen2 _
            fail "r"
            have a19 : H'_6 p_5 = some (HO.tup [V.str e.text, V.int e.count, V.int ((e.made : Int) + 1), V.non]) := by assumption
            refine LRes.use q (by fail "c") (by fail "c") (Web.mk (kvs := putK (putK kvs (Sum.inr (parentOf x)) (V.ref p_5)) (Sum.inr (x)) (V.ref p_7)) (by fail "c") (Ents.putN (nd_mk (o' := ownV (if o = true then some who else none)) (TpK.of (by fail "c")) rfl rfl dtOwn) (Ents.putN (nd_mk (o' := .non) (ow := e.owner) (TpK.of (by fail "c")) rfl (by fail "i") (by rw [hown]; exact .non)) (by fail "c")))) hokp (by fail "c") (by fail "c") (Nat.le_of_ble_eq_true rfl) (by fail "c") (by fail "c")
      | true =>
        obtain ⟨ps, w1, rfl, h1, h2⟩ := ok.2.2.2 rfl
        obtain ⟨f, hf, hf6, hfg⟩ := last6 e.made
        have m3 : Nm (cutS ("00000" ++ num e.made) (some (-6)) none) f := ⟨hf⟩
        have hq := numbered_ok h1 h2 hf6 hfg
        cases hkq : lkA W (pathT (ps ++ [w1]) ++ "-" ++ f) with
        | some e2 =>
          obtain ⟨v2, hv2, dv2⟩ := he.getN hkq
          fail "r"
          apply LRes.use q <;> fail "c"
        | none =>
          have hv2 := he.getN0 hkq
          by_cases h59 : 59 < kvs.length
          · fail "r"
            apply LRes.use q <;> fail "c"
          · have hlen : kvs.length < sizeLine := small_size (m := 60) (by omega)
            have hlen2 : ∀ v, (putK kvs (Sum.inr (parentOf (pathT (ps ++ [w1]))) : Key) v).length < sizeLine := fun v => small_size (m := 61) (Nat.le_trans (putK_len _ _ _) (by omega))
            have hokp := hok.putM (who := who) (t := t) (o := o) hk hq (by omega) hkq
            have ho1 : atI [V.non, V.str who] (if o = true then 1 else 0) = some (ownV (if o = true then some who else none)) := by cases o <;> rfl
            fail "r"
            · exact hlen2 _
            fail "r"
            have a19 : H'_6 p_5 = some (HO.tup [V.str e.text, V.int e.count, V.int ((e.made : Int) + 1), V.non]) := by assumption
            refine LRes.use q (by fail "c") (by fail "c") (Web.mk (kvs := putK (putK kvs (Sum.inr (parentOf (pathT (ps ++ [w1])))) (V.ref p_5)) (Sum.inr (pathT (ps ++ [w1]) ++ "-" ++ f)) (V.ref p_7)) (by fail "c") (Ents.putN (nd_mk (o' := ownV (if o = true then some who else none)) (TpK.of (by fail "c")) rfl rfl dtOwn) (Ents.putN (nd_mk (o' := .non) (ow := e.owner) (TpK.of (by fail "c")) rfl (by fail "i") (by rw [hown]; exact .non)) (by fail "c")))) hokp (by fail "c") (by fail "c") (Nat.le_of_ble_eq_true rfl) (by fail "c") (by fail "c")
def sp_law_plainly (K : PySem.W.Frag) : Sp := sp3 fun v1 v2 v3 H Q => ∃ (a : Addr) (B : Nat) (W : Nds) (p : Pl) (who : Str), v1 = .ref a ∧ v3 = .str who ∧ Dt K H v2 p.d ∧ p.Ok ∧ LWeb K H a B W ∧ B + 1 < big ∧ LRes K H Q a (B + 1)
theorem sc_law_plainly : FnScope ["_law_web", "_law_task_here", "_law_who", "_law_node", "_law_found", "_law_road", "_law_wanted"] ["_law_web", "_law_task_here", "_law_who"] (defScope s_law_plainly) := ⟨rfl, rfl, rfl, by decide +kernel, rfl, by decide +kernel, by decide +kernel⟩
theorem k_law_plainly (B : Bag w K mg base) : Kept P w K mg base "_law_plainly" 3 ["_law_web", "_law_task_here", "_law_who"] (sp_law_plainly K) := by
  obtain ⟨fd, F⟩ := B.c.def_ 70 (d := d_law_plainly) rfl
  obtain ⟨f_law_make, fd_law_make, g_law_make, kp_law_make, b_law_make, o_law_make⟩ := k_law_make (P := P) B
  obtain ⟨f_law_kids, fd_law_kids, g_law_kids, kp_law_kids, b_law_kids, o_law_kids⟩ := k_law_kids (P := P) B
  obtain ⟨f_law_above, fd_law_above, g_law_above, kp_law_above, b_law_above, o_law_above⟩ := k_law_above (P := P) B
  have n_dict := He.free_ok B.X B.G (B.c.fact 85 (f := .free "dict") rfl)
  have g0 := He.glo_ok B.X B.G (B.c.fact 62 (f := .glo "_law_plainly") rfl)
  refine ⟨_, fd, g0, F.kp, F.bindsN (fun _ _ _ _ _ _ us hl => match us, hl with | [_, _, _], _ => rfl), ?_⟩
  refine F.ok sc_law_plainly (fun vs H Q E h => len3 h) (fun cdv A outer s H vs Q E hr h => ?_)
  have nd := sc_law_plainly.nd
  have hu := hu_of hr
  refine' ⟨_, PSs.nox ?hT, ?hR⟩
  case hT => exact (pss_cons (ps_if (pt_cmpR op_eq (pe_ix ix_tup (pv 1) (pe_int) (fun _ _ => rfl)) (pe_str) (nomark _)) (pss_one (ps_ret (pe_call o_law_make hr rfl g_law_make kp_law_make b_law_make .nil pass0 (pa_cons (pv 0) (pa_cons (pv 1) (pa_cons (pv 2) pa_nil)))))) pss_nil)
      (pss_cons (ps_par (i := 5) (j := 6) rfl nd rfl rfl (by decide) rfl rfl (pa_cons (pe_ix ix_tup (pv 1) (pe_int) (fun _ _ => rfl)) (pa_cons (pe_ix ix_tup (pv 1) (pe_un un_neg (pe_int)) (fun _ _ => rfl)) pa_nil)) rfl)
      (pss_cons (ps_if (pt_cmp (pc_dnotin hu (pv 5) (pv 0))) (pss_one (ps_ret (pe_tupA (pa_cons (pv 0) (pa_cons (pe_tupA (pa_cons (pe_str) (pa_cons (pe_str) pa_nil))) (pa_cons (pe_lstA pa_nil) pa_nil)))))) pss_nil)
      (pss_cons (ps_set (i := 3) nd rfl (Or.inl rfl) (pe_dget hu (pv 0) (pv 5) (fun _ _ => rfl)))
      (pss_cons (ps_if (PW.pt (pw_and (pt_cmp (pc_notN (pv 6))) (pw_and1 (pt_cmpR op_ne (pv 6) (pe_ix ix_tup (pv 3) (pe_int) (fun _ _ => rfl)) (nomark _))))) (pss_one (ps_ret (pe_tupA (pa_cons (pv 0) (pa_cons (pe_tupA (pa_cons (pe_str) (pa_cons (pe_str) pa_nil))) (pa_cons (pe_lstA pa_nil) pa_nil)))))) pss_nil)
      (pss_cons (ps_if (pt_cmpR op_eq (pe_ix ix_tup (pv 1) (pe_int) (fun _ _ => rfl)) (pe_str) (nomark _)) (pss_one (ps_ret (pe_tupA (pa_cons (pv 0) (pa_cons (pe_tupA (pa_cons (pe_str) (pa_cons (pe_ix ix_tup (pv 3) (pe_int) (fun _ _ => rfl)) pa_nil))) (pa_cons (pe_lstA pa_nil) pa_nil)))))) pss_nil)
      (pss_cons (ps_set (i := 4) nd rfl (Or.inl rfl) (pe_callTy call_dictA rfl n_dict boot_dict (pa_cons (pv 0) pa_nil)))
      (pss_cons (ps_if (pt_cmpR op_eq (pe_ix ix_tup (pv 1) (pe_int) (fun _ _ => rfl)) (pe_str) (nomark _)) (pss_cons (ps_dputA hu (pv 4) (pv 5) (pe_op op_catTA (pe_tupA (pa_cons (pe_ix ix_tup (pv 1) (pe_int) (fun _ _ => rfl)) (pa_cons (pe_op op_add (pe_ix ix_tup (pv 3) (pe_int) (fun _ _ => rfl)) (pe_int)) pa_nil))) (pe_slice sl_tupA2 (pv 3) (po_some (pe_int)) po_none)) rfl)
      (pss_one (ps_ret (pe_tupA (pa_cons (pv 4) (pa_cons (pe_tupA (pa_cons (pe_str) (pa_cons (pe_op op_add (pe_ix ix_tup (pv 3) (pe_int) (fun _ _ => rfl)) (pe_int)) pa_nil))) (pa_cons (pe_lstA (pa_cons (pe_tupA (pa_cons (pe_str) (pa_cons (pv 5) pa_nil))) pa_nil)) pa_nil))))))) pss_nil)
      (pss_cons (ps_if (pt_cmpR (op_neD (hu64_of hr)) (pe_call o_law_kids hr rfl g_law_kids kp_law_kids b_law_kids .nil pass0 (pa_cons (pv 0) (pa_cons (pv 5) pa_nil))) (pe_lstA pa_nil) (nomark _)) (pss_one (ps_ret (pe_tupA (pa_cons (pv 0) (pa_cons (pe_tupA (pa_cons (pe_str) (pa_cons (pe_str) pa_nil))) (pa_cons (pe_lstA pa_nil) pa_nil)))))) pss_nil)
      (pss_cons (ps_expr (pe_dpop1A (pv 4) (pv 5) ⟨rfl, rfl, rfl, rfl⟩))
      (pss_one (ps_ret (pe_tupA (pa_cons (pv 4) (pa_cons (pe_tupA (pa_cons (pe_str) (pa_cons (pe_non) pa_nil))) (pa_cons (pe_lstA (pa_cons (pe_tupA (pa_cons (pe_str) (pa_cons (pv 5) pa_nil))) (pa_cons (pe_tupA (pa_cons (pe_str) (pa_cons (pe_call o_law_above (hr.mono (by decide)) rfl g_law_above kp_law_above b_law_above .nil pass0 (pa_cons (pv 5) pa_nil)) pa_nil))) pa_nil))) pa_nil))))))))))))))))
  clear hr hu nd g0 F fd o_law_make b_law_make kp_law_make g_law_make fd_law_make o_law_kids b_law_kids kp_law_kids g_law_kids fd_law_kids o_law_above b_law_above kp_law_above g_law_above fd_law_above n_dict
  try dsimp only [cxOf, Cx.nox, Cx.wish]
  obtain ⟨_, _, _, rfl, a, B, W, p, who, rfl, rfl, hd, pok, hw, hB, q⟩ := h
  obtain ⟨hw, hok⟩ := hw
  obtain ⟨kvs, hda, he⟩ := id hw
  have hokm := hok.mono (Nat.le_succ B)
  have hsz := hok.size
  have hlen : kvs.length < sizeLine := small_size (m := 60) (by rw [he.lenN]; exact hsz)
  cases p with
  | make x t o n =>
    obtain ⟨l, rfl, d2⟩ := pl_make hd
    clear hokm
    fail "r"
  | put x t c =>
    obtain ⟨l, c', rfl, d2, dc⟩ := pl_put hd
    obtain rfl := cnt_inv dc
    have hl4 : atI [V.str "put", V.str x, V.str t, cntV c] (-1) = some (cntV c) := rfl
    cases hk : lkA W x with
    | none =>
      have hv := he.getN0 hk
      fail "r"
      apply LRes.use q <;> fail "c"
    | some e =>
      obtain ⟨v, hv, dv⟩ := he.getN hk
      obtain ⟨l2, o', rfl, ht, ho⟩ := nd_inv dv
      have ne5 : ¬ (HT.sIx [V.str e.text, V.int e.count, V.int e.made, o'].length 0 (some 2) = 0 ∧ HT.sIx [V.str e.text, V.int e.count, V.int e.made, o'].length [V.str e.text, V.int e.count, V.int e.made, o'].length none = [V.str e.text, V.int e.count, V.int e.made, o'].length) := fun z => absurd z.1 (by show ¬ HT.sIx 4 0 (some 2) = 0; decide)
      have e6 : Nm (cutV [V.str e.text, V.int e.count, V.int e.made, o'] (some 2) none) [V.int e.made, o'] := ⟨cutV_two _⟩
      have hokp : LOk (B + 1) (putA W x { e with text := t, count := e.count + 1 }) := hok.put hk rfl (Nat.succ_le_succ (hok.cnt _ (lkA_mem hk)).1) (Nat.le_succ_of_le (hok.cnt _ (lkA_mem hk)).2) (Nat.le_succ _)
      by_cases cc : c = none ∨ c = some e.count
      · rcases cc with rfl | rfl
        · fail "r"
          have a12 : H'_3 p_3 = some (HO.tup [V.str t, V.int ((e.count : Int) + 1), V.int e.made, o']) := a_12
          refine LRes.use q (by fail "c") (by fail "c") (Web.mk (kvs := putK kvs (Sum.inr x) (V.ref p_3)) (by fail "c") (Ents.putN (nd_mk (o' := o') (ow := e.owner) (TpK.of (by fail "c")) rfl rfl (by fail "c")) (by fail "c"))) hokp (by fail "c") (by fail "c") (Nat.le_of_ble_eq_true rfl) (by fail "c") (by fail "c")
        · fail "r"
          have a12 : H'_3 p_3 = some (HO.tup [V.str t, V.int ((e.count : Int) + 1), V.int e.made, o']) := a_12
          refine LRes.use q (by fail "c") (by fail "c") (Web.mk (kvs := putK kvs (Sum.inr x) (V.ref p_3)) (by fail "c") (Ents.putN (nd_mk (o' := o') (ow := e.owner) (TpK.of (by fail "c")) rfl rfl (by fail "c")) (by fail "c"))) hokp (by fail "c") (by fail "c") (Nat.le_of_ble_eq_true rfl) (by fail "c") (by fail "c")
      · cases c with
        | none => exact absurd (.inl rfl) cc
        | some n =>
          have ne : ¬ V.int n = V.int e.count := fun z => cc (.inr (by have z := V.int.inj z; congr 1; omega))
          fail "r"
          apply LRes.use q <;> fail "c"
  | drop x c =>
    obtain ⟨l, c', rfl, d2, dc⟩ := pl_drop hd
    obtain rfl := cnt_inv dc
    have hx := pok.1
    cases hk : lkA W x with
    | none =>
      have hv := he.getN0 hk
      fail "r"
      apply LRes.use q <;> fail "c"
    | some e =>
      obtain ⟨v, hv, dv⟩ := he.getN hk
      obtain ⟨l2, o', rfl, ht, ho⟩ := nd_inv dv
      have hrt : ∃ e0, lkA (delA W x) "/" = some e0 ∧ e0.owner = none := by
        rw [delA_lk, if_neg fun z => pok.2.1 z.symm]
        exact hok.root
      have hokd : LOk (B + 1) (delA W x) := (hok.sub List.filter_sublist hrt).mono (Nat.le_succ _)
      by_cases cc : c = none ∨ c = some e.count
      · rcases cc with rfl | rfl
        all_goals
          fail "r"
          refine neNil (by assumption) ?_ ?_ ?_
          · fail "c"
          · fail "c"
          by_cases cy : ys = []
          · have e1 : (!decide (ys = [])) = false := by rw [decide_eq_true cy]; rfl
            fail "r"
            refine LRes.use q (by fail "c") (by fail "c") (Web.mk (kvs := dropK kvs (Sum.inr x)) (by fail "c") (Ents.ts (H := H'_3) (kpSame (show L2.Same H'_3 H'_9 by fail "c")).t (Ents.delN (by fail "c")))) hokd (by fail "c") (by fail "c") (Nat.le_of_ble_eq_true rfl) (by fail "c") (by fail "c")
          · have e1 : (!decide (ys = [])) = true := notT (decide_eq_false cy)
            fail "r"
            apply LRes.use q <;> fail "c"
      · cases c with
        | none => exact absurd (.inl rfl) cc
        | some n =>
          have ne : ¬ V.int n = V.int e.count := fun z => cc (.inr (by have z := V.int.inj z; congr 1; omega))
          fail "r"
          apply LRes.use q <;> fail "c"
  | see x c =>
    obtain ⟨l, c', rfl, d2, dc⟩ := pl_see hd
    obtain rfl := cnt_inv dc
    cases hk : lkA W x with
    | none =>
      have hv := he.getN0 hk
      fail "r"
      apply LRes.use q <;> fail "c"
    | some e =>
      obtain ⟨v, hv, dv⟩ := he.getN hk
      obtain ⟨l2, o', rfl, ht, ho⟩ := nd_inv dv
      by_cases cc : c = none ∨ c = some e.count
      · rcases cc with rfl | rfl
        · fail "r"
          apply LRes.use q <;> fail "c"
        · fail "r"
          apply LRes.use q <;> fail "c"
      · cases c with
        | none => exact absurd (.inl rfl) cc
        | some n =>
          have ne : ¬ V.int n = V.int e.count := fun z => cc (.inr (by have z := V.int.inj z; congr 1; omega))
          fail "r"
          apply LRes.use q <;> fail "c"
def sp_law_left (K : PySem.W.Frag) : Sp := sp2 fun v1 v2 H Q => ∃ (a : Addr) (B : Nat) (W : Nds) (who : Str), v1 = .ref a ∧ v2 = .str who ∧ LWeb K H a B W ∧
  ∀ (r w1 ev : Addr) (W' : Nds) (zs : List V) (H' : Hp), L2.Same H H' → H' r = some (.tup [.ref w1, .ref ev]) → LWeb K H' w1 B W' → H' ev = some (.lst zs) → zs.length ≤ 200 → H w1 = none → Q (.ref r) H'
theorem sc_law_left : FnScope ["_law_web", "_law_who", "_law_found", "_law_events", "_law_road"] ["_law_web", "_law_who"] (defScope s_law_left) := ⟨rfl, rfl, rfl, by decide +kernel, rfl, by decide +kernel, by decide +kernel⟩
theorem k_law_left (B : Bag w K mg base) : Kept P w K mg base "_law_left" 2 ["_law_web", "_law_who"] (sp_law_left K) := by
  obtain ⟨fd, F⟩ := B.c.def_ 71 (d := d_law_left) rfl
  obtain ⟨f_law_above, fd_law_above, g_law_above, kp_law_above, b_law_above, o_law_above⟩ := k_law_above (P := P) B
  have n_dict := He.free_ok B.X B.G (B.c.fact 85 (f := .free "dict") rfl)
  have n_sorted := He.free_ok B.X B.G (B.c.fact 86 (f := .free "sorted") rfl)
  have g0 := He.glo_ok B.X B.G (B.c.fact 63 (f := .glo "_law_left") rfl)
  refine ⟨_, fd, g0, F.kp, F.bindsN (fun _ _ _ _ _ _ us hl => match us, hl with | [_, _], _ => rfl), ?_⟩
  refine F.ok sc_law_left (fun vs H Q E h => len2 h) (fun cdv A outer s H vs Q E hr h => ?_)
  have nd := sc_law_left.nd
  have hu := hu_of hr
  refine' ⟨_, PSs.nox ?hT, ?hR⟩
  case hT => exact (pss_cons (ps_set (i := 2) nd rfl (Or.inl rfl) (pe_callTy call_dictA rfl n_dict boot_dict (pa_cons (pv 0) pa_nil)))
      (pss_cons (ps_set (i := 3) nd rfl (Or.inl rfl) (pe_lstA pa_nil))
      (pss_cons (ps_for PassesOwn.never rfl (pi_list (pe_callB (call_sortDA rfl) rfl n_sorted (by decide +kernel) (pa_cons (pv 0) pa_nil))) (pg_name (i := 4) nd rfl (Or.inl rfl)) (pss_one (ps_if (pt_cmpR op_eq (pe_ix ix_tup (pe_dget hu (pv 0) (pv 4) (fun _ _ => rfl)) (pe_int) (fun _ _ => rfl)) (pv 1) (nomark _)) (pss_cons (ps_expr (pe_dpop1A (pv 2) (pv 4) ⟨rfl, rfl, rfl, rfl⟩))
      (pss_one (ps_set (i := 3) nd rfl (Or.inl rfl) (pe_op op_catLA (pv 3) (pe_lstA (pa_cons (pe_tupA (pa_cons (pe_str) (pa_cons (pv 4) pa_nil))) (pa_cons (pe_tupA (pa_cons (pe_str) (pa_cons (pe_call o_law_above hr rfl g_law_above kp_law_above b_law_above .nil pass0 (pa_cons (pv 4) pa_nil)) pa_nil))) pa_nil))))))) pss_nil)))
      (pss_one (ps_ret (pe_tupA (pa_cons (pv 2) (pa_cons (pv 3) pa_nil))))))))
  clear hr hu nd g0 F fd o_law_above b_law_above kp_law_above g_law_above fd_law_above n_dict n_sorted
  try dsimp only [cxOf, Cx.nox, Cx.wish]
  obtain ⟨_, _, rfl, a, B, W, who, rfl, rfl, ⟨hw, hok⟩, q⟩ := h
  obtain ⟨kvs, hd, he⟩ := id hw
  have hsz := hok.size
  have hlk := he.lenN
  have hks : Nm (kvs.map (·.1)) ((W.map (·.1)).map Sum.inr) := ⟨he.keysN⟩
  have h64 : (W.map (·.1)).length < 64 := by rw [List.length_map]; omega
  obtain ⟨e0, he0, ho0⟩ := hok.root
  fail "r"
  have hyl : ys.length ≤ 60 := by rw [a_7.length_eq, List.length_map]; exact hsz
  have hynd : ys.Nodup := a_7.nodup_iff.mpr hok.nd
  have npa : a ≠ p := (neF a_2 hd)
  have hroot : ∀ i, ∃ e, lkA (W.filter fun p => decide (p.1 ∉ (ys.take i).filter (ownedBy W who))) "/" = some e ∧ e.owner = none := by
    intro i
    refine ⟨e0, lkA_of_mem (List.Nodup.sublist (List.Sublist.map _ List.filter_sublist) hok.nd) (List.mem_filter.mpr ⟨lkA_mem he0, decide_eq_true fun z => ?_⟩), ho0⟩
    have z2 := (List.mem_filter.mp z).2
    unfold ownedBy at z2
    rw [he0] at z2
    simp [ho0] at z2
  refine for_it (walk_list (xs := ys.map V.str)) (fun i σ Hi => But p H'_2 Hi ∧ Ts H'_2 Hi ∧ ∃ (ev : Addr) (zs : List V) (u : Option V), σ = [some (.ref a), some (.str who), some (.ref p), some (.ref ev), u] ∧ Web K Hi p (ndsD (W.filter fun p => decide (p.1 ∉ (ys.take i).filter (ownedBy W who)))) ∧ Hi ev = some (.lst zs) ∧ zs.length ≤ 2 * i)
    ⟨But.refl _ _, Ts.refl _, _, [], none, rfl, ?_, by fail "c", Nat.le_refl _⟩ (fun _ _ _ _ h => ?_) (fun i y σ H2 H3 hi p' z => ?_) (fun σ H2 p' => ?_)
  · rw [show (W.filter fun p => decide (p.1 ∉ (ys.take 0).filter (ownedBy W who))) = W by simp]
    exact Web.mk (by fail "c") (by fail "c")
  · have npp : p_2 ≠ p := (neF a_10 (show H'_1 p = some (HO.dK kvs) by fail "c")).symm
    exact SqL.of (getB h.1 npp a_11)
  · obtain ⟨rfl, z⟩ := z
    obtain ⟨b2, t2, ev, zs, u, rfl, hwi, hev, hzl⟩ := p'
    rw [List.getElem?_map] at z
    obtain ⟨y, hy, rfl⟩ := Option.map_eq_some_iff.mp z
    obtain ⟨e, hk⟩ := Option.isSome_iff_exists.mp (lkA_isSome.mpr (a_7.mem_iff.mp (List.mem_of_getElem? hy)))
    obtain ⟨v, hv, dv⟩ := he.getN hk
    obtain ⟨l2, o', rfl, ht, ho⟩ := nd_inv dv
    obtain rfl := own_inv ho
    have hil : i < ys.length := by rw [List.length_map] at hi; exact hi
    have py : PathOk y := hok.path _ (lkA_mem hk)
    have hob : ownedBy W who y = decide (ownV e.owner = V.str who) := by
      unfold ownedBy
      rw [hk]
      cases ho2 : e.owner with
      | none => simp [ownV, ho2]
      | some z => simp [ownV, ho2]
    have hsc : scal (ownV e.owner) (V.str who) = true := by cases e.owner <;> rfl
    obtain ⟨ks, hpk, hek⟩ := id hwi
    have hd3 : H3 a = some (HO.dK kvs) := getB b2 npa (show H'_2 a = some (HO.dK kvs) by fail "c")
    have ht3 : TpK K H3 l2 [V.str e.text, V.int e.count, V.int e.made, ownV e.owner] := TpK.ts t2 (show TpK K H'_2 l2 _ by fail "c")
    rw [take_at hy, List.filter_append, filter_one]
    by_cases c : ownedBy W who y = true
    · have e1 : decide (ownV e.owner = V.str who) = true := by rw [← hob]; exact c
      rw [if_pos c, ← del_filter]
      have hky : lkA (W.filter fun p => decide (p.1 ∉ (ys.take i).filter (ownedBy W who))) y = some e := lkA_of_mem (List.Nodup.sublist (List.Sublist.map _ List.filter_sublist) hok.nd) (List.mem_filter.mpr ⟨lkA_mem hk, decide_eq_true fun z => by
        have z2 := (List.mem_filter.mp z).1
        obtain ⟨j, hj⟩ := List.mem_iff_getElem?.mp z2
        obtain ⟨hjl, _⟩ := List.getElem?_eq_some_iff.mp hj
        rw [List.length_take] at hjl
        rw [List.getElem?_take, if_pos (by omega)] at hj
        have := (List.getElem?_inj (List.getElem?_eq_some_iff.mp hj).1 hynd).mp (hj.trans hy.symm)
        omega⟩)
      obtain ⟨v4, hv4, _⟩ := hek.getN hky
      have nep : ev ≠ p := fun z => by subst z; rw [hev] at hpk; cases hpk
      have hz2 : zs.length ≤ 120 := by omega
      fail "r"
      · have g3 := Ents.ts a_13 (Ents.delN hek (k := y))
        fail "c"
      exact ⟨by assumption, by rw [List.length_append]; show zs.length + 2 ≤ 2 * (i + 1); omega⟩
    · have e1 : decide (ownV e.owner = V.str who) = false := by rw [← hob]; simpa using c
      rw [if_neg c, List.append_nil]
      fail "r"
      omega
  · obtain ⟨b2, t2, ev, zs, u, rfl, hwi, hev, hzl⟩ := p'
    have s2 : L2.Same H H2 := by fail "c"
    rw [List.length_map] at hwi hzl
    fail "r"
    exact q _ _ _ _ _ _ (by fail "c") (by fail "c") ⟨by fail "c", hok.sub List.filter_sublist (hroot _)⟩ (by fail "c") (by omega) a_2
def sp_law_all_done (K : PySem.W.Frag) : Sp := sp3 fun v1 v2 v3 H Q => ∃ (a : Addr) (B : Nat) (W : Nds) (ps : List Pl) (who : Str), v1 = .ref a ∧ v3 = .str who ∧ Dt K H v2 (.tuple (ps.map Pl.d)) ∧ (∀ p ∈ ps, p.Ok) ∧ ps.length ≤ 6 ∧ LWeb K H a B W ∧ B + 7 < big ∧
  ∀ (r w1 ev : Addr) (W' : Nds) (x : V) (zs : List V) (H' : Hp), L2.Same H H' → H' r = some (.tup [.ref w1, x, .ref ev]) → LWeb K H' w1 (B + 6) W' → H' ev = some (.lst zs) → zs.length ≤ 200 → (w1 = a ∨ H w1 = none) → Q (.ref r) H'
theorem sc_law_all_done : FnScope ["_law_web", "_law_tasks", "_law_who", "_law_found", "_law_worths", "_law_events", "_law_at", "_law_task_here", "_law_answer", "_law_more"] ["_law_web", "_law_tasks", "_law_who"] (defScope s_law_all_done) := ⟨rfl, rfl, rfl, by decide +kernel, rfl, by decide +kernel, by decide +kernel⟩
theorem k_law_all_done (B : Bag w K mg base) : Kept P w K mg base "_law_all_done" 4 ["_law_web", "_law_tasks", "_law_who"] (sp_law_all_done K) := by
  obtain ⟨fd, F⟩ := B.c.def_ 72 (d := d_law_all_done) rfl
  obtain ⟨f_law_plainly, fd_law_plainly, g_law_plainly, kp_law_plainly, b_law_plainly, o_law_plainly⟩ := k_law_plainly (P := P) B
  have n_enumerate := He.free_ok B.X B.G (B.c.fact 87 (f := .free "enumerate") rfl)
  have n_tuple := He.free_ok B.X B.G (B.c.fact 83 (f := .free "tuple") rfl)
  have g0 := He.glo_ok B.X B.G (B.c.fact 64 (f := .glo "_law_all_done") rfl)
  refine ⟨_, fd, g0, F.kp, F.bindsN (fun _ _ _ _ _ _ us hl => match us, hl with | [_, _, _], _ => rfl), ?_⟩
  refine F.ok sc_law_all_done (fun vs H Q E h => len3 h) (fun cdv A outer s H vs Q E hr h => ?_)
  have nd := sc_law_all_done.nd
  have hu := hu_of hr
  refine' ⟨_, PSs.nox ?hT, ?hR⟩
  case hT => exact (pss_cons (ps_set (i := 3) nd rfl (Or.inl rfl) (pv 0))
      (pss_cons (ps_set (i := 4) nd rfl (Or.inl rfl) (pe_lstA pa_nil))
      (pss_cons (ps_set (i := 5) nd rfl (Or.inl rfl) (pe_lstA pa_nil))
      (pss_cons (ps_for PassesOwn.never rfl (pi_enumT rfl n_enumerate (pa_cons (pv 1) pa_nil)) (pg_tup rfl (pgs_cons (pg_name (i := 6) nd rfl (Or.inl rfl)) (pgs_cons (pg_name (i := 7) nd rfl (Or.inl rfl)) pgs_nil))) (pss_cons (ps_asg (pe_call o_law_plainly hr rfl g_law_plainly kp_law_plainly b_law_plainly .nil pass0 (pa_cons (pv 3) (pa_cons (pv 7) (pa_cons (pv 2) pa_nil)))) (pg_tup rfl (pgs_cons (pg_name (i := 3) nd rfl (Or.inl rfl)) (pgs_cons (pg_name (i := 8) nd rfl (Or.inl rfl)) (pgs_cons (pg_name (i := 9) nd rfl (Or.inl rfl)) pgs_nil)))))
      (pss_cons (ps_if (pt_cmpR op_eq (pe_ix ix_tup (pv 8) (pe_int) (fun _ _ => rfl)) (pe_str) (nomark _)) (pss_one (ps_ret (pe_tupA (pa_cons (pv 0) (pa_cons (pe_op op_catTA (pv 8) (pe_tupA (pa_cons (pv 6) pa_nil))) (pa_cons (pe_lstA pa_nil) pa_nil)))))) pss_nil)
      (pss_cons (ps_expr (pe_bm PySem.F.plainAttrs_list PySem.F.slot_list_append PySem.F.type_list_append mt_appA (pv 4) (pa_cons (pe_ix ix_tup (pv 8) (pe_int) (fun _ _ => rfl)) pa_nil)))
      (pss_one (ps_set (i := 5) nd rfl (Or.inl rfl) (pe_op op_catLA (pv 5) (pv 9))))))))
      (pss_one (ps_ret (pe_tupA (pa_cons (pv 3) (pa_cons (pe_tupA (pa_cons (pe_str) (pa_cons (pe_callTy call_tupleA rfl n_tuple boot_tuple (pa_cons (pv 4) pa_nil)) pa_nil))) (pa_cons (pv 5) pa_nil))))))))))
  clear hr hu nd g0 F fd o_law_plainly b_law_plainly kp_law_plainly g_law_plainly fd_law_plainly n_enumerate n_tuple
  try dsimp only [cxOf, Cx.nox, Cx.wish]
  obtain ⟨_, _, _, rfl, a, B, W, ps, who, rfl, rfl, hps, okp, h6, ⟨hw, hok⟩, hB, q⟩ := h
  obtain ⟨l, xs, rfl, htl, dxs⟩ := hps.inv
  have hxl := dxs.lenM
  fail "r"
  refine for_it (walk_enumT (xs := xs)) (fun i σ Hi => L2.Same H Hi ∧ ∃ (ai lv le : Addr) (Wi : Nds) (zs es : List V) (u1 u2 u3 u4 : Option V), σ = [some (.ref a), some (.ref l), some (.str who), some (.ref ai), some (.ref lv), some (.ref le), u1, u2, u3, u4] ∧
      Web K Hi ai (ndsD Wi) ∧ LOk (B + i) Wi ∧ Hi lv = some (.lst zs) ∧ zs.length = i ∧ Hi le = some (.lst es) ∧ es.length ≤ 2 * i ∧ lv ≠ le ∧ H lv = none ∧ (ai = a ∨ H ai = none))
    ⟨by fail "c", a, p, p_1, W, [], [], none, none, none, none, rfl, by fail "c", hok, by fail "c", rfl, by fail "c", Nat.le_refl _, by fail "c", by fail "c", .inl rfl⟩ (fun _ _ _ _ h => by have := h.1; fail "c") (fun i y σ H2 H3 hi p' z => ?_) (fun σ H2 p' => ?_)
  · obtain ⟨T, y1, y2, rfl, nT, rfl, hy1, hy2⟩ := z
    obtain rfl := Option.some.inj hy1
    obtain ⟨p, hp, dp⟩ := dxs.atM hy2
    have pk := okp p (List.mem_of_getElem? hp)
    obtain ⟨s2, ai, lv, le, Wi, zs, es, u1, u2, u3, u4, rfl, hwi, oki, hlv, hzl, hle, hel, nl, n1, nai⟩ := p'
    have hT := upd_same (H := H2) (a := T) (o := .tup [.int (i : Nat), y2])
    have sT := sameUpd (H := H2) (p := T) (o := .tup [.int (i : Nat), y2]) nT
    generalize upd H2 T (.tup [.int (i : Nat), y2]) = H3 at hT sT ⊢
    have hBi : B + i + 1 < big := by omega
    have hzs : zs.length < sizeLine := small_size (m := 6) (by omega)
    fail "s"
    intro r w1 an ev W' sa x zs' H4 s4 e4 w4 a4 z4 l4 f4 f5
    have f6 : w1 = a ∨ H w1 = none := by
      rcases f5 with rfl | f5
      · exact nai
      · exact .inr (by fail "c")
    obtain ⟨w4, ok4⟩ := w4
    by_cases cn : sa = "no"
    · have en : V.str sa = V.str "no" := by rw [cn]
      have hokl : LOk (B + 6) W := hok.mono (by omega)
      fail "r"
      exact q _ a _ W _ _ _ (by fail "c") (by fail "c") ⟨by fail "c", hokl⟩ (by fail "c") (Nat.zero_le _) (.inl rfl)
    · have en : ¬ V.str sa = V.str "no" := fun z => cn (V.str.inj z)
      have hlv4 : H4 lv = some (.lst zs) := by fail "c"
      have hle4 : H4 le = some (.lst es) := by fail "c"
      have nle : ev ≠ lv := by fail "c"
      have hes : es.length + zs'.length ≤ sizeLine := Nat.le_trans (m := 300) (by omega) (by decide)
      have hlen1 : (zs ++ [x]).length = i + 1 := by rw [List.length_append, hzl]; rfl
      have hel1 : (es ++ zs').length ≤ 2 * (i + 1) := by rw [List.length_append]; omega
      fail "r"
      done
  · obtain ⟨s2, ai, lv, le, Wi, zs, es, u1, u2, u3, u4, rfl, hwi, oki, hlv, hzl, hle, hel, nl, n1, nai⟩ := p'
    fail "r"
    exact q _ ai _ Wi _ _ _ (by fail "c") (by fail "c") ⟨by fail "c", oki.mono (by omega)⟩ (by fail "c") (by omega) nai
def LimV (v : V) : Prop := v = .non ∨ ∃ i, v = .int i
def sp_law_does (K : PySem.W.Frag) : Sp := sp4 fun v1 v2 v3 v4 H Q => ∃ (a : Addr) (B : Nat) (W : Nds) (d : De) (who : Str), v1 = .ref a ∧ v4 = .str who ∧ LimV v2 ∧ Dt K H v3 d.d ∧ d.Ok ∧ LWeb K H a B W ∧ B + 7 < big ∧
  ∀ (r w1 ev : Addr) (W' : Nds) (u x : V) (zs : List V) (H' : Hp), L2.Same H H' → H' r = some (.tup [.ref w1, u, x, .ref ev]) → LWeb K H' w1 (B + 6) W' → LimV u → H' ev = some (.lst zs) → zs.length ≤ 200 → (w1 = a ∨ H w1 = none) → Q (.ref r) H'
theorem sc_law_does : FnScope ["_law_web", "_law_limit", "_law_task_here", "_law_who", "_law_word_here", "_law_found", "_law_answer", "_law_events"] ["_law_web", "_law_limit", "_law_task_here", "_law_who"] (defScope s_law_does) := ⟨rfl, rfl, rfl, by decide +kernel, rfl, by decide +kernel, by decide +kernel⟩
theorem k_law_does (B : Bag w K mg base) : Kept P w K mg base "_law_does" 5 ["_law_web", "_law_limit", "_law_task_here", "_law_who"] (sp_law_does K) := by
  obtain ⟨fd, F⟩ := B.c.def_ 73 (d := d_law_does) rfl
  obtain ⟨f_law_left, fd_law_left, g_law_left, kp_law_left, b_law_left, o_law_left⟩ := k_law_left (P := P) B
  obtain ⟨f_law_all_done, fd_law_all_done, g_law_all_done, kp_law_all_done, b_law_all_done, o_law_all_done⟩ := k_law_all_done (P := P) B
  obtain ⟨f_law_plainly, fd_law_plainly, g_law_plainly, kp_law_plainly, b_law_plainly, o_law_plainly⟩ := k_law_plainly (P := P) B
  have g0 := He.glo_ok B.X B.G (B.c.fact 65 (f := .glo "_law_does") rfl)
  refine ⟨_, fd, g0, F.kp, F.bindsN (fun _ _ _ _ _ _ us hl => match us, hl with | [_, _, _, _], _ => rfl), ?_⟩
  refine F.ok sc_law_does (fun vs H Q E h => len4 h) (fun cdv A outer s H vs Q E hr h => ?_)
  have nd := sc_law_does.nd
  have hu := hu_of hr
  refine' ⟨_, PSs.nox ?hT, ?hR⟩
  case hT => exact (pss_cons (ps_set (i := 4) nd rfl (Or.inl rfl) (pe_ix ix_tup (pv 2) (pe_int) (fun _ _ => rfl)))
      (pss_cons (ps_if (PW.pt (pw_and (pt_cmpR op_eq (pv 4) (pe_str) (nomark _)) (pw_and1 (pt_cmp (pc_notN (pv 1)))))) (pss_one (ps_ret (pe_tupA (pa_cons (pv 0) (pa_cons (pv 1) (pa_cons (pe_tupA (pa_cons (pe_str) (pa_cons (pe_str) pa_nil))) (pa_cons (pe_lstA pa_nil) pa_nil))))))) pss_nil)
      (pss_cons (ps_if (pt_cmpR op_eq (pv 4) (pe_str) (nomark _)) (pss_one (ps_ret (pe_tupA (pa_cons (pv 0) (pa_cons (pe_ix ix_tup (pv 2) (pe_int) (fun _ _ => rfl)) (pa_cons (pe_tupA (pa_cons (pe_str) (pa_cons (pe_non) pa_nil))) (pa_cons (pe_lstA pa_nil) pa_nil))))))) pss_nil)
      (pss_cons (ps_if (pt_cmp (pc_isN (pv 1))) (pss_one (ps_ret (pe_tupA (pa_cons (pv 0) (pa_cons (pe_non) (pa_cons (pe_tupA (pa_cons (pe_str) (pa_cons (pe_str) pa_nil))) (pa_cons (pe_lstA pa_nil) pa_nil))))))) pss_nil)
      (pss_cons (ps_if (pt_cmpR op_eq (pv 4) (pe_str) (nomark _)) (pss_cons (ps_asg (pe_call o_law_left (hr.mono (by decide)) rfl g_law_left kp_law_left b_law_left .nil pass0 (pa_cons (pv 0) (pa_cons (pv 3) pa_nil))) (pg_tup rfl (pgs_cons (pg_name (i := 5) nd rfl (Or.inl rfl)) (pgs_cons (pg_name (i := 7) nd rfl (Or.inl rfl)) pgs_nil))))
      (pss_one (ps_ret (pe_tupA (pa_cons (pv 5) (pa_cons (pe_non) (pa_cons (pe_tupA (pa_cons (pe_str) (pa_cons (pe_non) pa_nil))) (pa_cons (pv 7) pa_nil)))))))) pss_nil)
      (pss_cons (ps_if (pt_cmpR op_eq (pv 4) (pe_str) (nomark _)) (pss_one (ps_ret (pe_tupA (pa_cons (pv 0) (pa_cons (pv 1) (pa_cons (pe_tupA (pa_cons (pe_str) (pa_cons (pe_non) pa_nil))) (pa_cons (pe_lstA pa_nil) pa_nil))))))) pss_nil)
      (pss_cons (ps_if (pt_cmpR op_eq (pv 4) (pe_str) (nomark _)) (pss_cons (ps_asg (pe_call o_law_all_done hr rfl g_law_all_done kp_law_all_done b_law_all_done .nil pass0 (pa_cons (pv 0) (pa_cons (pe_ix ix_tup (pv 2) (pe_int) (fun _ _ => rfl)) (pa_cons (pv 3) pa_nil)))) (pg_tup rfl (pgs_cons (pg_name (i := 5) nd rfl (Or.inl rfl)) (pgs_cons (pg_name (i := 6) nd rfl (Or.inl rfl)) (pgs_cons (pg_name (i := 7) nd rfl (Or.inl rfl)) pgs_nil)))))
      (pss_one (ps_ret (pe_tupA (pa_cons (pv 5) (pa_cons (pv 1) (pa_cons (pv 6) (pa_cons (pv 7) pa_nil)))))))) pss_nil)
      (pss_cons (ps_asg (pe_call o_law_plainly (hr.mono (by decide)) rfl g_law_plainly kp_law_plainly b_law_plainly .nil pass0 (pa_cons (pv 0) (pa_cons (pv 2) (pa_cons (pv 3) pa_nil)))) (pg_tup rfl (pgs_cons (pg_name (i := 5) nd rfl (Or.inl rfl)) (pgs_cons (pg_name (i := 6) nd rfl (Or.inl rfl)) (pgs_cons (pg_name (i := 7) nd rfl (Or.inl rfl)) pgs_nil)))))
      (pss_one (ps_ret (pe_tupA (pa_cons (pv 5) (pa_cons (pv 1) (pa_cons (pv 6) (pa_cons (pv 7) pa_nil)))))))))))))))
  clear hr hu nd g0 F fd o_law_left b_law_left kp_law_left g_law_left fd_law_left o_law_all_done b_law_all_done kp_law_all_done g_law_all_done fd_law_all_done o_law_plainly b_law_plainly kp_law_plainly g_law_plainly fd_law_plainly
  try dsimp only [cxOf, Cx.nox, Cx.wish]
  obtain ⟨_, _, _, _, rfl, a, B, W, d, who, rfl, rfl, hlim, hd, ok, ⟨hw, hok⟩, hB, q⟩ := h
  have hokl : LOk (B + 6) W := hok.mono (by omega)
  have hB1 : B + 1 < big := by omega
  cases d with
  | opn n =>
    obtain ⟨l, x1, x2, rfl, ht, e1, e2⟩ := dt2 hd
    obtain rfl := e1.s
    obtain rfl := e2.i
    rcases hlim with rfl | ⟨k, rfl⟩
    · fail "r"
      exact q _ a _ W _ _ _ _ (by fail "c") (by fail "c") ⟨by fail "c", hokl⟩ (.inr ⟨_, rfl⟩) (by fail "c") (Nat.zero_le _) (.inl rfl)
    · fail "r"
      exact q _ a _ W _ _ _ _ (by fail "c") (by fail "c") ⟨by fail "c", hokl⟩ (.inr ⟨_, rfl⟩) (by fail "c") (Nat.zero_le _) (.inl rfl)
  | close =>
    obtain ⟨l, x1, rfl, ht, e1⟩ := dt1 hd
    obtain rfl := e1.s
    rcases hlim with rfl | ⟨k, rfl⟩
    · fail "r"
      exact q _ a _ W _ _ _ _ (by fail "c") (by fail "c") ⟨by fail "c", hokl⟩ (.inl rfl) (by fail "c") (Nat.zero_le _) (.inl rfl)
    · clear hokl
      fail "r"
      obtain ⟨w4, ok4⟩ := (show LWeb K H' w1 B W' by assumption)
      exact q _ w1 _ W' _ _ _ _ (by fail "c") (by fail "c") ⟨by fail "c", ok4.mono (by omega)⟩ (.inl rfl) (by fail "c") (by fail "c") (.inr (by assumption))
  | bring =>
    obtain ⟨l, x1, rfl, ht, e1⟩ := dt1 hd
    obtain rfl := e1.s
    rcases hlim with rfl | ⟨k, rfl⟩
    · fail "r"
      exact q _ a _ W _ _ _ _ (by fail "c") (by fail "c") ⟨by fail "c", hokl⟩ (.inl rfl) (by fail "c") (Nat.zero_le _) (.inl rfl)
    · fail "r"
      exact q _ a _ W _ _ _ _ (by fail "c") (by fail "c") ⟨by fail "c", hokl⟩ (.inr ⟨_, rfl⟩) (by fail "c") (Nat.zero_le _) (.inl rfl)
  | all ps =>
    obtain ⟨l, x1, x2, rfl, ht, e1, e2⟩ := dt2 hd
    obtain rfl := e1.s
    obtain ⟨h1, h6, okp⟩ := ok
    rcases hlim with rfl | ⟨k, rfl⟩
    · fail "r"
      exact q _ a _ W _ _ _ _ (by fail "c") (by fail "c") ⟨by fail "c", hokl⟩ (.inl rfl) (by fail "c") (Nat.zero_le _) (.inl rfl)
    · clear hokl
      fail "r"
      · exact okp _ (by assumption)
      fail "r"
      obtain ⟨w4, ok4⟩ := (show LWeb K H' w1 (B + 6) W' by assumption)
      exact q _ w1 _ W' _ _ _ _ (by fail "c") (by fail "c") ⟨by fail "c", ok4⟩ (.inr ⟨_, rfl⟩) (by fail "c") (by fail "c") (by assumption)
  | plain p =>
    obtain ⟨l, w0, xs, rfl, ht, n1, n2, n3, n4⟩ := pl_head hd
    have h0 : atI (V.str w0 :: xs) 0 = some (V.str w0) := atI_at (k := 0) rfl
    have hd : Dt K H (V.ref l) p.d := hd
    have ok : p.Ok := ok
    rcases hlim with rfl | ⟨k, rfl⟩
    · fail "r"
      exact q _ a _ W _ _ _ _ (by fail "c") (by fail "c") ⟨by fail "c", hokl⟩ (.inl rfl) (by fail "c") (Nat.zero_le _) (.inl rfl)
    · clear hokl
      fail "s"
      intro r w1 an ev W' sa x zs' H4 s4 e4 w4 a4 z4 l4 f4 f5
      obtain ⟨w4, ok4⟩ := w4
      have l5 : zs'.length ≤ 200 := by omega
      fail "r"
      exact q _ w1 _ W' _ _ _ _ (by fail "c") (by fail "c") ⟨by fail "c", ok4.mono (by omega)⟩ (.inr ⟨_, rfl⟩) (by fail "c") l5 f5
/-- the law's rows of sessions -/
def Rows (K : PySem.W.Frag) (H : Hp) (a : Addr) (n M : Nat) : Prop := ∃ ks : List (Str × V), H a = some (.dK (ks.map fun p => (Sum.inr p.1, p.2))) ∧ ks.length ≤ n ∧ ∀ p ∈ ks, ∃ (t : Addr) (l : V) (m : Nat) (x y : V), p.2 = .ref t ∧ TpK K H t [l, .int m, x, y] ∧ LimV l ∧ m ≤ M
theorem valV_map {ks : List (Str × V)} {k : Str} : valV (ks.map fun p => ((Sum.inr p.1 : Key), p.2)) (Sum.inr k : Key) = lkA ks k := by
  induction ks with
  | nil => rfl
  | cons p ks ih =>
    unfold valV lkA at *
    rw [List.map_cons, List.find?_cons, List.find?_cons]
    by_cases c : p.1 = k
    · simp [c]
    · have n : ¬ (Sum.inr p.1 : Key) = Sum.inr k := fun z => c (Sum.inr.inj z)
      simp only [c, n, decide_false]
      exact ih
theorem Rows.get {K : PySem.W.Frag} {H : Hp} {ks : List (Str × V)} {M : Nat} (h : ∀ p ∈ ks, ∃ (t : Addr) (l : V) (m : Nat) (x y : V), p.2 = .ref t ∧ TpK K H t [l, .int m, x, y] ∧ LimV l ∧ m ≤ M) (who : Str) {t0 : Addr} :
    ∃ (o : Option V), valV (ks.map fun p => ((Sum.inr p.1 : Key), p.2)) (Sum.inr who : Key) = o ∧ (o = none ∨ ∃ (t : Addr) (l : V) (m : Nat) (x y : V), o = some (.ref t) ∧ TpK K H t [l, .int m, x, y] ∧ LimV l ∧ m ≤ M) := by
  rw [valV_map]
  cases e : lkA ks who with
  | none => exact ⟨none, rfl, .inl rfl⟩
  | some v =>
    obtain ⟨t, l, m, x, y, e1, r⟩ := h _ (lkA_mem e)
    have e1 : v = .ref t := e1
    exact ⟨some v, rfl, .inr ⟨t, l, m, x, y, by rw [e1], r⟩⟩
/-- what the law keeps: the web and the rows -/
def Keptt (K : PySem.W.Frag) (H : Hp) (a : Addr) (B n M : Nat) : Prop := ∃ (w1 s1 : Addr) (W : Nds), H a = some (.tup [.ref w1, .ref s1]) ∧ LWeb K H w1 B W ∧ Rows K H s1 n M
theorem Keptt.kp {K : PySem.W.Frag} {H H' : Hp} {a : Addr} {B n M : Nat} (k : Kp H H') (h : Keptt K H a B n M) : Keptt K H' a B n M := by
  obtain ⟨w1, s1, W, ha, ⟨hw, hok⟩, ks, hs, hn, hks⟩ := h
  refine ⟨w1, s1, W, k.t _ _ ha, ⟨hw.kp k, hok⟩, ks, k.d _ _ hs, hn, fun p hp => ?_⟩
  obtain ⟨t, l, m, x, y, e, ht, r⟩ := hks p hp
  exact ⟨t, l, m, x, y, e, ht.ts k.t, r⟩
theorem Keptt.mono {K : PySem.W.Frag} {H : Hp} {a : Addr} {B n M B' n' M' : Nat} (h : Keptt K H a B n M) (hB : B ≤ B') (hn : n ≤ n') (hM : M ≤ M') : Keptt K H a B' n' M' := by
  obtain ⟨w1, s1, W, ha, ⟨hw, hok⟩, ks, hs, hkn, hks⟩ := h
  refine ⟨w1, s1, W, ha, ⟨hw, hok.mono hB⟩, ks, hs, Nat.le_trans hkn hn, fun p hp => ?_⟩
  obtain ⟨t, l, m, x, y, e, ht, hl, hm⟩ := hks p hp
  exact ⟨t, l, m, x, y, e, ht, hl, Nat.le_trans hm hM⟩
theorem putK_map {ks : List (Str × V)} {k : Str} {v : V} : putK (ks.map fun p => ((Sum.inr p.1 : Key), p.2)) (Sum.inr k) v = (putA ks k v).map fun p => ((Sum.inr p.1 : Key), p.2) := by
  unfold putK putA
  rw [List.any_map]
  have e : ((fun kv : Key × V => decide (kv.1 = Sum.inr k)) ∘ fun p : Str × V => ((Sum.inr p.1 : Key), p.2)) = fun p => decide (p.1 = k) := by
    funext p
    simp
  rw [e]
  split
  · rw [List.map_map, List.map_map]
    refine List.map_congr_left fun p _ => ?_
    simp only [Function.comp]
    by_cases c : p.1 = k
    · simp [c]
    · have n : ¬ (Sum.inr p.1 : Key) = Sum.inr k := fun z => c (Sum.inr.inj z)
      simp [c, n]
  · rw [List.map_append]
    rfl
theorem Rows.put {K : PySem.W.Frag} {H : Hp} {a t : Addr} {ks : List (Str × V)} {who : Str} {l x y : V} {m n M M' : Nat} (h : ∀ p ∈ ks, ∃ (t : Addr) (l : V) (m : Nat) (x y : V), p.2 = .ref t ∧ TpK K H t [l, .int m, x, y] ∧ LimV l ∧ m ≤ M) (hM : M ≤ M') (hn : ks.length ≤ n)
    (hd : H a = some (.dK (putK (ks.map fun p => ((Sum.inr p.1 : Key), p.2)) (Sum.inr who) (.ref t)))) (ht : TpK K H t [l, .int m, x, y]) (hl : LimV l) (hm : m ≤ M') : Rows K H a (n + 1) M' := by
  rw [putK_map] at hd
  refine ⟨putA ks who (.ref t), hd, Nat.le_trans (putA_length_le _ _ _) (by omega), fun p hp => ?_⟩
  rcases putA_mem hp with rfl | ⟨hp, _⟩
  · exact ⟨t, l, m, x, y, rfl, ht, hl, hm⟩
  · obtain ⟨t2, l2, m2, x2, y2, e, h2, h3, h4⟩ := h p hp
    exact ⟨t2, l2, m2, x2, y2, e, h2, h3, Nat.le_trans h4 hM⟩
def EStamp (M : Nat) : En → Prop
  | .ask _ s _ => s ≤ M
  | .fin _ => True
def sp_law_due (K : PySem.W.Frag) : Sp := sp3 fun v1 v2 v3 H Q => ∃ (a b : Addr) (B n M : Nat) (e : En) (pl : Place), v1 = .ref a ∧ v3 = .ref b ∧ Dt K H v2 e.d ∧ e.Ok ∧ Dt K H v3 (plD pl) ∧ Keptt K H a B n M ∧ EStamp (M + 5) e ∧ n ≤ 100 ∧ B + 7 < big ∧
  ∀ (r t : Addr) (x y : V) (H' : Hp), L2.Same H H' → H' r = some (.tup [.ref t, x, y]) → Keptt K H' t (B + 6) (n + 1) (M + 5) → Q (.ref r) H'
theorem sc_law_due : FnScope ["_law_kept", "_law_line_here", "_law_spot", "_law_who", "_law_later", "_law_web", "_law_rows", "_law_limit", "_law_last", "_law_elder", "_law_where", "_law_found", "_law_answer", "_law_events"] ["_law_kept", "_law_line_here", "_law_spot"] (defScope s_law_due) := ⟨rfl, rfl, rfl, by decide +kernel, rfl, by decide +kernel, by decide +kernel⟩
theorem k_law_due (B : Bag w K mg base) : Kept P w K mg base "_law_due" 6 ["_law_kept", "_law_line_here", "_law_spot"] (sp_law_due K) := by
  obtain ⟨fd, F⟩ := B.c.def_ 74 (d := d_law_due) rfl
  obtain ⟨f_law_left, fd_law_left, g_law_left, kp_law_left, b_law_left, o_law_left⟩ := k_law_left (P := P) B
  obtain ⟨f_law_does, fd_law_does, g_law_does, kp_law_does, b_law_does, o_law_does⟩ := k_law_does (P := P) B
  have n_dict := He.free_ok B.X B.G (B.c.fact 85 (f := .free "dict") rfl)
  have n_int := He.free_ok B.X B.G (B.c.fact 78 (f := .free "int") rfl)
  have g0 := He.glo_ok B.X B.G (B.c.fact 66 (f := .glo "_law_due") rfl)
  refine ⟨_, fd, g0, F.kp, F.bindsN (fun _ _ _ _ _ _ us hl => match us, hl with | [_, _, _], _ => rfl), ?_⟩
  refine F.ok sc_law_due (fun vs H Q E h => len3 h) (fun cdv A outer s H vs Q E hr h => ?_)
  have nd := sc_law_due.nd
  have hu := hu_of hr
  refine' ⟨_, PSs.nox ?hT, ?hR⟩
  case hT => exact (pss_cons (ps_asg (pv 0) (pg_tup rfl (pgs_cons (pg_name (i := 5) nd rfl (Or.inl rfl)) (pgs_cons (pg_name (i := 6) nd rfl (Or.inl rfl)) pgs_nil))))
      (pss_cons (ps_set (i := 3) nd rfl (Or.inl rfl) (pe_ix ix_tup (pv 1) (pe_int) (fun _ _ => rfl)))
      (pss_cons (ps_asg (pe_dget2 hu (pv 6) (pv 3) (pe_tupA (pa_cons (pe_non) (pa_cons (pe_int) (pa_cons (pe_non) (pa_cons (pe_tupA (pa_cons (pe_int) (pa_cons (pe_int) pa_nil))) pa_nil))))) ⟨rfl, rfl, rfl, rfl⟩) (pg_tup rfl (pgs_cons (pg_name (i := 7) nd rfl (Or.inl rfl)) (pgs_cons (pg_name (i := 8) nd rfl (Or.inl rfl)) (pgs_cons (pg_name (i := 9) nd rfl (Or.inl rfl)) (pgs_cons (pg_name (i := 10) nd rfl (Or.inl rfl)) pgs_nil))))))
      (pss_cons (ps_set (i := 4) nd rfl (Or.inl rfl) (pe_callTy call_dictA rfl n_dict boot_dict (pa_cons (pv 6) pa_nil)))
      (pss_cons (ps_if (pt_cmpR op_eq (pe_ix ix_tup (pv 1) (pe_int) (fun _ _ => rfl)) (pe_str) (nomark _)) (pss_cons (ps_if (pt_cmp (pc_isN (pv 7))) (pss_one (ps_ret (pe_tupA (pa_cons (pv 0) (pa_cons (pe_non) (pa_cons (pe_lstA pa_nil) pa_nil)))))) pss_nil)
      (pss_cons (ps_asg (pe_call o_law_left (hr.mono (by decide)) rfl g_law_left kp_law_left b_law_left .nil pass0 (pa_cons (pv 5) (pa_cons (pv 3) pa_nil))) (pg_tup rfl (pgs_cons (pg_name (i := 11) nd rfl (Or.inl rfl)) (pgs_cons (pg_name (i := 13) nd rfl (Or.inl rfl)) pgs_nil))))
      (pss_cons (ps_dputA hu (pv 4) (pv 3) (pe_tupA (pa_cons (pe_non) (pa_cons (pv 8) (pa_cons (pv 9) (pa_cons (pv 10) pa_nil))))) rfl)
      (pss_one (ps_ret (pe_tupA (pa_cons (pe_tupA (pa_cons (pv 11) (pa_cons (pv 4) pa_nil))) (pa_cons (pe_non) (pa_cons (pv 13) pa_nil))))))))) pss_nil)
      (pss_cons (ps_if (pt_cmpR op_le (pe_ix ix_tup (pv 1) (pe_int) (fun _ _ => rfl)) (pv 8) (nomark _)) (pss_one (ps_ret (pe_tupA (pa_cons (pv 0) (pa_cons (pe_ix ix_list (pe_lstA (pa_cons (pe_non) (pa_cons (pv 9) pa_nil))) (pe_callTy call_intB rfl n_int boot_int (pa_cons (pe_cmpR op_eq (pe_ix ix_tup (pv 1) (pe_int) (fun _ _ => rfl)) (pv 8) (nomark _)) pa_nil)) (fun _ _ => rfl)) (pa_cons (pe_lstA pa_nil) pa_nil)))))) pss_nil)
      (pss_cons (ps_asg (pe_call o_law_does hr rfl g_law_does kp_law_does b_law_does .nil pass0 (pa_cons (pv 5) (pa_cons (pv 7) (pa_cons (pe_ix ix_tup (pv 1) (pe_int) (fun _ _ => rfl)) (pa_cons (pv 3) pa_nil))))) (pg_tup rfl (pgs_cons (pg_name (i := 11) nd rfl (Or.inl rfl)) (pgs_cons (pg_name (i := 7) nd rfl (Or.inl rfl)) (pgs_cons (pg_name (i := 12) nd rfl (Or.inl rfl)) (pgs_cons (pg_name (i := 13) nd rfl (Or.inl rfl)) pgs_nil))))))
      (pss_cons (ps_dputA hu (pv 4) (pv 3) (pe_tupA (pa_cons (pv 7) (pa_cons (pe_ix ix_tup (pv 1) (pe_int) (fun _ _ => rfl)) (pa_cons (pv 12) (pa_cons (pv 2) pa_nil))))) rfl)
      (pss_one (ps_ret (pe_tupA (pa_cons (pe_tupA (pa_cons (pv 11) (pa_cons (pv 4) pa_nil))) (pa_cons (pv 12) (pa_cons (pv 13) pa_nil))))))))))))))
  clear hr hu nd g0 F fd o_law_left b_law_left kp_law_left g_law_left fd_law_left o_law_does b_law_does kp_law_does g_law_does fd_law_does n_dict n_int
  try dsimp only [cxOf, Cx.nox, Cx.wish]
  obtain ⟨_, _, _, rfl, a, b, B, n, M, e, pl, rfl, rfl, he, ek, hpl, hk, hst, hn, hB, q⟩ := h
  obtain ⟨w1, s1, W, ha, ⟨hw, hok⟩, hr⟩ := id hk
  obtain ⟨ks, hs, hkn, hks⟩ := hr
  have hkl : (ks.map fun p => ((Sum.inr p.1 : Key), p.2)).length < sizeLine := small_size (m := 100) (by rw [List.length_map]; omega)
  cases e with
  | fin who =>
    obtain ⟨l3, x1, x2, rfl, ht, e1, e2⟩ := dt2 he
    obtain rfl := e1.s
    obtain rfl := e2.s
    fail "s"
    · exact dgS (rdS (by fail "c")) rfl
    obtain ⟨o, t0, l0, m0, x0, y0, hv, hgo, ht0, hl0, hm0⟩ : ∃ (o : Option V) (t0 : Addr) (l0 : V) (m0 : Nat) (x0 y0 : V), valV (ks.map fun p => ((Sum.inr p.1 : Key), p.2)) (Sum.inr who : Key) = o ∧ o.getD (V.ref p_1) = V.ref t0 ∧ TpK K H'_1 t0 [l0, .int m0, x0, y0] ∧ LimV l0 ∧ m0 ≤ M := by
      obtain ⟨o, h1, h2⟩ := Rows.get hks who (t0 := p_1)
      rcases h2 with rfl | ⟨t, l, m, x, y, rfl, h3, h4, h5⟩
      · exact ⟨none, p_1, .non, 0, _, _, h1, rfl, .inl (by assumption), .inl rfl, Nat.zero_le _⟩
      · exact ⟨some (.ref t), t, l, m, _, _, h1, rfl, by fail "c", h4, h5⟩
    rw [hv, hgo]
    by_cases cl : l0 = .non
    · fail "s"
      exact q _ a _ _ _ (by fail "c") (by fail "c") ((hk.kp (by fail "c")).mono (by omega) (by omega) (by omega))
    · fail "s"
      obtain ⟨hw2, hok2⟩ := a_12
      have nwp : w1_1 ≠ p_2 := (neF a_15 a_9).symm
      have hks7 : ∀ p ∈ ks, ∃ (t : Addr) (l : V) (m : Nat) (x y : V), p.2 = .ref t ∧ TpK K H'_7 t [l, .int m, x, y] ∧ LimV l ∧ m ≤ M := fun p hp => by
        obtain ⟨t, l, m, x, y, e, ht, r⟩ := hks p hp
        exact ⟨t, l, m, x, y, e, by fail "c", r⟩
      exact q _ p_4 _ _ _ (by fail "c") (by fail "c") ⟨w1_1, p_2, W', by fail "c", ⟨by fail "c", hok2.mono (by omega)⟩, Rows.put hks7 (by omega) hkn (by fail "c") (TpK.of (by fail "c")) (.inl rfl) (by omega)⟩
  | ask who st d =>
    obtain ⟨l3, x1, x2, x3, dv, rfl, ht, e1, e2, e3, dd⟩ := dt4 he
    obtain rfl := e1.s
    obtain rfl := e2.s
    obtain rfl := e3.i
    obtain ⟨okw, ok1, ok2, okd⟩ := ek
    have hst : st ≤ M + 5 := hst
    fail "s"
    · exact dgS (rdS (by fail "c")) rfl
    obtain ⟨o, t0, l0, m0, x0, y0, hv, hgo, ht0, hl0, hm0⟩ : ∃ (o : Option V) (t0 : Addr) (l0 : V) (m0 : Nat) (x0 y0 : V), valV (ks.map fun p => ((Sum.inr p.1 : Key), p.2)) (Sum.inr who : Key) = o ∧ o.getD (V.ref p_1) = V.ref t0 ∧ TpK K H'_1 t0 [l0, .int m0, x0, y0] ∧ LimV l0 ∧ m0 ≤ M := by
      obtain ⟨o, h1, h2⟩ := Rows.get hks who (t0 := p_1)
      rcases h2 with rfl | ⟨t, l, m, x, y, rfl, h3, h4, h5⟩
      · exact ⟨none, p_1, .non, 0, _, _, h1, rfl, .inl (by assumption), .inl rfl, Nat.zero_le _⟩
      · exact ⟨some (.ref t), t, l, m, _, _, h1, rfl, by fail "c", h4, h5⟩
    rw [hv, hgo]
    by_cases cs : st ≤ m0
    · by_cases ce : st = m0
      · have e6 : V.int (st : Int) = V.int (m0 : Int) := by rw [ce]
        have e7 : atI [V.non, x0] (if decide (V.int (st : Int) = V.int (m0 : Int)) = true then 1 else 0) = some x0 := by
          rw [if_pos (decide_eq_true e6)]
          rfl
        fail "s"
        exact q _ a _ _ _ (by fail "c") (by fail "c") ((hk.kp (by fail "c")).mono (by omega) (by omega) (by omega))
      · have e6 : ¬ V.int (st : Int) = V.int (m0 : Int) := fun z => ce (Int.ofNat.inj (V.int.inj z))
        have e7 : atI [V.non, x0] (if decide (V.int (st : Int) = V.int (m0 : Int)) = true then 1 else 0) = some .non := by
          rw [if_neg (by rw [decide_eq_false e6]; decide)]
          rfl
        fail "s"
        exact q _ a _ _ _ (by fail "c") (by fail "c") ((hk.kp (by fail "c")).mono (by omega) (by omega) (by omega))
    · fail "s"
      obtain ⟨hw2, hok2⟩ := a_12
      have nwp : w1_1 ≠ p_2 := by
        rcases a_16 with z | z
        · obtain ⟨kvs, hkw, _⟩ := hw
          rw [z]
          exact neF a_8 (show H'_1 w1 = some (HO.dK kvs) by fail "c")
        · exact (neF z a_9).symm
      have hks7 : ∀ p ∈ ks, ∃ (t : Addr) (l : V) (m : Nat) (x y : V), p.2 = .ref t ∧ TpK K H'_7 t [l, .int m, x, y] ∧ LimV l ∧ m ≤ M := fun p hp => by
        obtain ⟨t, l, m, x, y, e, ht, r⟩ := hks p hp
        exact ⟨t, l, m, x, y, e, by fail "c", r⟩
      exact q _ p_4 _ _ _ (by fail "c") (by fail "c") ⟨w1_1, p_2, W', by fail "c", ⟨by fail "c", hok2⟩, Rows.put hks7 (by omega) hkn (by fail "c") (TpK.of (by fail "c")) a_13 (by omega)⟩
def sp_law_task (K : PySem.W.Frag) : Sp := sp3 fun v1 v2 v3 H Q => ∃ (p a : Addr) (B n M : Nat) (who : Str), v1 = .ref p ∧ v2 = .ref a ∧ v3 = .str who ∧ Pool H p ∧ Keptt K H a B n M ∧ B + 7 < big ∧ DtRes K H p De.d De.Ok Q
theorem sc_law_task : FnScope ["_law_pool_here", "_law_kept", "_law_who", "_law_limit", "_law_way", "_law_turn"] ["_law_pool_here", "_law_kept", "_law_who"] (defScope s_law_task) := ⟨rfl, rfl, rfl, by decide +kernel, rfl, by decide +kernel, by decide +kernel⟩
theorem k_law_task (B : Bag w K mg base) : Kept P w K mg base "_law_task" 6 ["_law_pool_here", "_law_kept", "_law_who"] (sp_law_task K) := by
  obtain ⟨fd, F⟩ := B.c.def_ 75 (d := d_law_task) rfl
  obtain ⟨f_law_take, fd_law_take, g_law_take, kp_law_take, b_law_take, o_law_take⟩ := k_law_take (P := P) B
  obtain ⟨f_law_deed, fd_law_deed, g_law_deed, kp_law_deed, b_law_deed, o_law_deed⟩ := k_law_deed (P := P) B
  have n_range := He.free_ok B.X B.G (B.c.fact 91 (f := .free "range") rfl)
  have n_tuple := He.free_ok B.X B.G (B.c.fact 83 (f := .free "tuple") rfl)
  have g0 := He.glo_ok B.X B.G (B.c.fact 67 (f := .glo "_law_task") rfl)
  refine ⟨_, fd, g0, F.kp, F.bindsN (fun _ _ _ _ _ _ us hl => match us, hl with | [_, _, _], _ => rfl), ?_⟩
  refine F.ok sc_law_task (fun vs H Q E h => len3 h) (fun cdv A outer s H vs Q E hr h => ?_)
  have nd := sc_law_task.nd
  have hu := hu_of hr
  refine' ⟨_, PSs.nox ?hT, ?hR⟩
  case hT => exact (pss_cons (ps_set (i := 3) nd rfl (Or.inl rfl) (pe_ix ix_tup (pe_dget2 hu (pe_ix ix_tup (pv 1) (pe_int) (fun _ _ => rfl)) (pv 2) (pe_tupA (pa_cons (pe_non) (pa_cons (pe_int) pa_nil))) ⟨rfl, rfl, rfl, rfl⟩) (pe_int) (fun _ _ => rfl)))
      (pss_cons (ps_set (i := 4) nd rfl (Or.inl rfl) (pe_call o_law_take (hr.mono (by decide)) rfl g_law_take kp_law_take b_law_take .nil pass0 (pa_cons (pv 0) (pa_cons (pe_int) pa_nil))))
      (pss_cons (ps_if (PW.pt (pw_and (pt_cmp (pc_isN (pv 3))) (pw_and1 (pt_cmpR op_gt (pe_call o_law_take (hr.mono (by decide)) rfl g_law_take kp_law_take b_law_take .nil pass0 (pa_cons (pv 0) (pa_cons (pe_int) pa_nil))) (pe_int) (nomark _))))) (pss_one (ps_ret (pe_tupA (pa_cons (pe_str) (pa_cons (pe_ix ix_list (pe_lstA (pa_cons (pe_int) (pa_cons (pe_int) (pa_cons (pe_int) pa_nil)))) (pe_call o_law_take (hr.mono (by decide)) rfl g_law_take kp_law_take b_law_take .nil pass0 (pa_cons (pv 0) (pa_cons (pe_int) pa_nil))) (fun _ _ => rfl)) pa_nil))))) pss_nil)
      (pss_cons (ps_if (pt_cmpR op_lt (pv 4) (pe_int) (nomark _)) (pss_one (ps_ret (pe_call o_law_deed hr rfl g_law_deed kp_law_deed b_law_deed .nil pass0 (pa_cons (pv 0) (pa_cons (pe_ix ix_tup (pv 1) (pe_int) (fun _ _ => rfl)) pa_nil))))) pss_nil)
      (pss_cons (ps_if (pt_cmpR op_lt (pv 4) (pe_int) (nomark _)) (pss_one (ps_ret (pe_tupA (pa_cons (pe_str) (pa_cons (pe_callTy call_tupleA rfl n_tuple boot_tuple (pa_cons (pe_lc (own := [("_law_turn", 5)]) (g := gName 5) (tt := tYes) (te := tCall (sp_law_deed K) [] E0 (tCons (tVar 0) (tCons (tOp (rIxT K) (tVar 1) (tC (.int 0))) tNil))) rfl nd (pi_range1 rfl n_range (pa_cons (pe_op op_add (pe_int) (pe_call o_law_take (hr.mono (by decide)) rfl g_law_take kp_law_take b_law_take .nil pass0 (pa_cons (pv 0) (pa_cons (pe_int) pa_nil)))) pa_nil)) (blkOk_by (N := ["_law_pool_here", "_law_kept", "_law_who", "_law_limit", "_law_way", "_law_turn"]) (sc := defScope s_law_task) (by decide +kernel)) (fun _ _ _ _ _ => (pg_name (i := 5) nd rfl (Or.inl rfl))) (fun _ _ _ _ _ => pts_nil) (fun _ _ _ _ _ => (pe_call o_law_deed hr rfl g_law_deed kp_law_deed b_law_deed .nil pass0 (pa_cons (pv 0) (pa_cons (pe_ix ix_tup (pv 1) (pe_int) (fun _ _ => rfl)) pa_nil))))) pa_nil)) pa_nil))))) pss_nil)
      (pss_one (ps_ret (pe_ix ix_list (pe_lstA (pa_cons (pe_tupA (pa_cons (pe_str) pa_nil)) (pa_cons (pe_tupA (pa_cons (pe_str) (pa_cons (pe_int) pa_nil))) (pa_cons (pe_tupA (pa_cons (pe_str) pa_nil)) pa_nil)))) (pe_call o_law_take (hr.mono (by decide)) rfl g_law_take kp_law_take b_law_take .nil pass0 (pa_cons (pv 0) (pa_cons (pe_int) pa_nil))) (fun _ _ => rfl)))))))))
  clear hr hu nd g0 F fd o_law_take b_law_take kp_law_take g_law_take fd_law_take o_law_deed b_law_deed kp_law_deed g_law_deed fd_law_deed n_range n_tuple
  try dsimp only [cxOf, Cx.nox, Cx.wish]
  obtain ⟨_, _, _, rfl, p, a, B, n, M, who, rfl, rfl, rfl, hp, ⟨w1, s1, W, ha, ⟨hw, hok⟩, hr⟩, hB, q⟩ := h
  obtain ⟨ks, hs, hkn, hks⟩ := hr
  have hB1 : B + 1 < big := by omega
  fail "s"
  · exact dgS (rdS (a_1 _ _ hs)) rfl
  obtain ⟨o, t0, l0, xs0, hv, hgo, ht0, hl0⟩ : ∃ (o : Option V) (t0 : Addr) (l0 : V) (xs0 : List V), valV (ks.map fun p => ((Sum.inr p.1 : Key), p.2)) (Sum.inr who : Key) = o ∧ o.getD (V.ref p_1) = V.ref t0 ∧ TpK K H' t0 (l0 :: xs0) ∧ LimV l0 := by
    obtain ⟨o, h1, h2⟩ := Rows.get hks who (t0 := p_1)
    rcases h2 with rfl | ⟨t, l, m, x, y, rfl, h3, h4, _⟩
    · exact ⟨none, p_1, .non, [.int 0], h1, rfl, .inl a_3, .inl rfl⟩
    · exact ⟨some (.ref t), t, l, _, h1, rfl, tpS a_1 h3, h4⟩
  rw [hv, hgo]
  have h0 : atI (l0 :: xs0) 0 = some l0 := atI_at (k := 0) rfl
  fail "s"
  intro r H1 b1 k1 p1 r0 r14
  have n1 : Dt K H1 (.str "open") (.str "open") := .str _
  by_cases cl : l0 = .non
  · fail "s"
    intro r2 H2 b2 k2 p2 r20 r24
    by_cases c2 : 0 < r2
    · fail "s"
      intro r3 H3 b3 k3 p3 r30 r33
      obtain ⟨m, hm, hm1, hm2⟩ : ∃ m : Nat, atI [V.int 1, V.int 7, V.int 1000] r3 = some (V.int m) ∧ 1 ≤ m ∧ m ≤ 1000 := by
        have : r3 = 0 ∨ r3 = 1 ∨ r3 = 2 := by omega
        rcases this with rfl | rfl | rfl
        · exact ⟨1, rfl, by decide, by decide⟩
        · exact ⟨7, rfl, by decide, by decide⟩
        · exact ⟨1000, rfl, by decide, by decide⟩
      have npp : p_2 ≠ p := by
        obtain ⟨x, y, e, _⟩ := p2
        exact (neF a_5 e).symm
      have hl3 : H3 p_2 = some (HO.lst [V.int 1, V.int 7, V.int 1000]) := getB b3 npp a_6
      fail "s"
      exact q _ (.opn m) _ (by fail "c") (by fail "c") (by fail "c") (Dt.tup (TpK.of (by fail "c")) (.cons (.str _) (.cons (.int _) .nil))) ⟨hm1, hm2⟩
    · by_cases c9 : r < 9
      · fail "s"
        intro u d H5 b5 k5 p5 du dk
        exact q _ (.plain d) _ (by fail "c") (by fail "c") p5 du dk
      · by_cases c12 : r < 12
        · fail "s"
          intro r5 H5 b5 k5 p5 r50 r54
          fail "s"
          refine lc_it (walk_range (lo := 0) (n := (1 + r5).toNat)) (fun i Hi => But p H5 Hi ∧ Kp H5 Hi ∧ Pool Hi p ∧ ∃ (xs : List V) (ps : List Pl), Hi D = some (.lst xs) ∧ DtA K Hi xs (ps.map Pl.d) ∧ ps.length = i ∧ ∀ x ∈ ps, x.Ok) ?_ (fun _ _ _ _ => trivial) (fun i y H6 H7 hi p' z => ?_) (fun H6 p' => ?_)
          · exact ⟨But.of (sameUpd (by assumption)), kpSame (sameUpd (by assumption)), poolS (sameUpd (by assumption)) (by assumption), [], [], upd_same, .nil, rfl, fun c hc => by cases hc⟩
          · obtain ⟨rfl, rfl⟩ := z
            obtain ⟨b6, k6, p6, xs, ps, hD, hxs, hpl, hps⟩ := p'
            have nD : H5 D = none := by assumption
            have nDp : D ≠ p := by
              obtain ⟨x, y, e, _⟩ := p5
              exact (neF nD e).symm
            have hxz : xs.length < sizeLine := small_size (m := 10) (by rw [hxs.lenM]; omega)
            fail "s"
            intro u d H8 b8 k8 p8 du dk
            have hD8 : H8 D = some (HO.lst xs) := by fail "c"
            refine ⟨xs, hD8, hxz, butUP nD (butB b8 b6), kpUP nD (kpTr k8 k6), poolB (But.upd _ _ _) nDp.symm p8, xs ++ [u], ps ++ [d], upd_same, ?_, by rw [List.length_append, hpl]; rfl, fun x hx => ?_⟩
            · rw [List.map_append]
              exact DtA.snoc (dtL hD8 du) (daL hD8 (daK k8 hxs))
            · rcases List.mem_append.mp hx with hx | hx
              · exact hps x hx
              · rw [List.mem_singleton.mp hx]; exact dk
          · obtain ⟨b6, k6, p6, xs, ps, hD, hxs, hpl, hps⟩ := p'
            fail "s"
            exact q _ (.all ps) _ (by fail "c") (by fail "c") (by fail "c") (Dt.tup (TpK.of (by fail "c")) (.cons (.str _) (.cons (Dt.tup (TpK.of (by fail "c")) (by fail "c")) .nil))) ⟨by omega, by omega, hps⟩
        · fail "s"
          intro r5 H5 b5 k5 p5 r50 r53
          have npp : p_5 ≠ p := by
            obtain ⟨x, y, e, _⟩ := (show Pool H'_3 p by fail "c")
            exact (neF a_14 e).symm
          have hl5 : H5 p_5 = some (HO.lst [V.ref p_2, V.ref p_3, V.ref p_4]) := getB b5 npp a_15
          have : r5 = 0 ∨ r5 = 1 ∨ r5 = 2 := by omega
          rcases this with rfl | rfl | rfl
          · exact ⟨p_5, _, _, _, rfl, rfl, SqL.of hl5, rfl, q _ .close _ (by fail "c") (by fail "c") p5 (Dt.tup (TpK.of (by fail "c")) (.cons (.str _) .nil)) trivial⟩
          · exact ⟨p_5, _, _, _, rfl, rfl, SqL.of hl5, rfl, q _ (.opn 5) _ (by fail "c") (by fail "c") p5 (Dt.tup (TpK.of (by fail "c")) (.cons (.str _) (.cons (.int _) .nil))) ⟨by decide, by decide⟩⟩
          · exact ⟨p_5, _, _, _, rfl, rfl, SqL.of hl5, rfl, q _ .bring _ (by fail "c") (by fail "c") p5 (Dt.tup (TpK.of (by fail "c")) (.cons (.str _) .nil)) trivial⟩
  · by_cases c9 : r < 9
    · fail "s"
      intro u d H5 b5 k5 p5 du dk
      exact q _ (.plain d) _ (by fail "c") (by fail "c") p5 du dk
    · by_cases c12 : r < 12
      · fail "s"
        intro r5 H5 b5 k5 p5 r50 r54
        fail "s"
        refine lc_it (walk_range (lo := 0) (n := (1 + r5).toNat)) (fun i Hi => But p H5 Hi ∧ Kp H5 Hi ∧ Pool Hi p ∧ ∃ (xs : List V) (ps : List Pl), Hi D = some (.lst xs) ∧ DtA K Hi xs (ps.map Pl.d) ∧ ps.length = i ∧ ∀ x ∈ ps, x.Ok) ?_ (fun _ _ _ _ => trivial) (fun i y H6 H7 hi p' z => ?_) (fun H6 p' => ?_)
        · exact ⟨But.of (sameUpd (by assumption)), kpSame (sameUpd (by assumption)), poolS (sameUpd (by assumption)) (by assumption), [], [], upd_same, .nil, rfl, fun c hc => by cases hc⟩
        · obtain ⟨rfl, rfl⟩ := z
          obtain ⟨b6, k6, p6, xs, ps, hD, hxs, hpl, hps⟩ := p'
          have nD : H5 D = none := by assumption
          have nDp : D ≠ p := by
            obtain ⟨x, y, e, _⟩ := p5
            exact (neF nD e).symm
          have hxz : xs.length < sizeLine := small_size (m := 10) (by rw [hxs.lenM]; omega)
          fail "s"
          intro u d H8 b8 k8 p8 du dk
          have hD8 : H8 D = some (HO.lst xs) := by fail "c"
          refine ⟨xs, hD8, hxz, butUP nD (butB b8 b6), kpUP nD (kpTr k8 k6), poolB (But.upd _ _ _) nDp.symm p8, xs ++ [u], ps ++ [d], upd_same, ?_, by rw [List.length_append, hpl]; rfl, fun x hx => ?_⟩
          · rw [List.map_append]
            exact DtA.snoc (dtL hD8 du) (daL hD8 (daK k8 hxs))
          · rcases List.mem_append.mp hx with hx | hx
            · exact hps x hx
            · rw [List.mem_singleton.mp hx]; exact dk
        · obtain ⟨b6, k6, p6, xs, ps, hD, hxs, hpl, hps⟩ := p'
          fail "s"
          exact q _ (.all ps) _ (by fail "c") (by fail "c") (by fail "c") (Dt.tup (TpK.of (by fail "c")) (.cons (.str _) (.cons (Dt.tup (TpK.of (by fail "c")) (by fail "c")) .nil))) ⟨by omega, by omega, hps⟩
      · fail "s"
        intro r5 H5 b5 k5 p5 r50 r53
        have npp : p_5 ≠ p := by
          obtain ⟨x, y, e, _⟩ := (show Pool H'_3 p by fail "c")
          exact (neF a_14 e).symm
        have hl5 : H5 p_5 = some (HO.lst [V.ref p_2, V.ref p_3, V.ref p_4]) := getB b5 npp a_15
        have : r5 = 0 ∨ r5 = 1 ∨ r5 = 2 := by omega
        rcases this with rfl | rfl | rfl
        · exact ⟨p_5, _, _, _, rfl, rfl, SqL.of hl5, rfl, q _ .close _ (by fail "c") (by fail "c") p5 (Dt.tup (TpK.of (by fail "c")) (.cons (.str _) .nil)) trivial⟩
        · exact ⟨p_5, _, _, _, rfl, rfl, SqL.of hl5, rfl, q _ (.opn 5) _ (by fail "c") (by fail "c") p5 (Dt.tup (TpK.of (by fail "c")) (.cons (.str _) (.cons (.int _) .nil))) ⟨by decide, by decide⟩⟩
        · exact ⟨p_5, _, _, _, rfl, rfl, SqL.of hl5, rfl, q _ .bring _ (by fail "c") (by fail "c") p5 (Dt.tup (TpK.of (by fail "c")) (.cons (.str _) .nil)) trivial⟩
def sp_law_drawn_line (K : PySem.W.Frag) : Sp := sp2 fun v1 v2 H Q => ∃ (p a : Addr) (B n M : Nat), v1 = .ref p ∧ v2 = .ref a ∧ Pool H p ∧ Keptt K H a B n M ∧ B + 7 < big ∧ M + 7 < big ∧ DtRes K H p En.d (fun e => e.Ok ∧ EStamp (M + 5) e) Q
theorem sc_law_drawn_line : FnScope ["_law_pool_here", "_law_kept", "_law_who", "_law_last", "_law_stamp"] ["_law_pool_here", "_law_kept"] (defScope s_law_drawn_line) := ⟨rfl, rfl, rfl, by decide +kernel, rfl, by decide +kernel, by decide +kernel⟩
theorem k_law_drawn_line (B : Bag w K mg base) : Kept P w K mg base "_law_drawn_line" 7 ["_law_pool_here", "_law_kept"] (sp_law_drawn_line K) := by
  obtain ⟨fd, F⟩ := B.c.def_ 76 (d := d_law_drawn_line) rfl
  obtain ⟨f_law_take, fd_law_take, g_law_take, kp_law_take, b_law_take, o_law_take⟩ := k_law_take (P := P) B
  obtain ⟨f_law_task, fd_law_task, g_law_task, kp_law_task, b_law_task, o_law_task⟩ := k_law_task (P := P) B
  have n_max := He.free_ok B.X B.G (B.c.fact 90 (f := .free "max") rfl)
  have g0 := He.glo_ok B.X B.G (B.c.fact 68 (f := .glo "_law_drawn_line") rfl)
  refine ⟨_, fd, g0, F.kp, F.bindsN (fun _ _ _ _ _ _ us hl => match us, hl with | [_, _], _ => rfl), ?_⟩
  refine F.ok sc_law_drawn_line (fun vs H Q E h => len2 h) (fun cdv A outer s H vs Q E hr h => ?_)
  have nd := sc_law_drawn_line.nd
  have hu := hu_of hr
  refine' ⟨_, PSs.nox ?hT, ?hR⟩
  case hT => exact (pss_cons (ps_set (i := 2) nd rfl (Or.inl rfl) (pe_ix ix_list (pe_lstA (pa_cons (pe_str) (pa_cons (pe_str) (pa_cons (pe_str) pa_nil)))) (pe_call o_law_take (hr.mono (by decide)) rfl g_law_take kp_law_take b_law_take .nil pass0 (pa_cons (pv 0) (pa_cons (pe_int) pa_nil))) (fun _ _ => rfl)))
      (pss_cons (ps_if (pt_cmpR op_eq (pe_call o_law_take (hr.mono (by decide)) rfl g_law_take kp_law_take b_law_take .nil pass0 (pa_cons (pv 0) (pa_cons (pe_int) pa_nil))) (pe_int) (nomark _)) (pss_one (ps_ret (pe_tupA (pa_cons (pe_str) (pa_cons (pv 2) pa_nil))))) pss_nil)
      (pss_cons (ps_set (i := 3) nd rfl (Or.inl rfl) (pe_ix ix_tup (pe_dget2 hu (pe_ix ix_tup (pv 1) (pe_int) (fun _ _ => rfl)) (pv 2) (pe_tupA (pa_cons (pe_non) (pa_cons (pe_int) pa_nil))) ⟨rfl, rfl, rfl, rfl⟩) (pe_int) (fun _ _ => rfl)))
      (pss_cons (ps_set (i := 4) nd rfl (Or.inl rfl) (pe_callB (call_max2 rfl) rfl n_max (by decide +kernel) (pa_cons (pe_int) (pa_cons (pe_op op_add (pv 3) (pe_ix ix_list (pe_lstA (pa_cons (pe_int) (pa_cons (pe_int) (pa_cons (pe_int) (pa_cons (pe_int) (pa_cons (pe_int) (pa_cons (pe_int) (pa_cons (pe_int) (pa_cons (pe_int) (pa_cons (pe_int) (pa_cons (pe_op op_sub (pe_int) (pe_int)) pa_nil))))))))))) (pe_call o_law_take (hr.mono (by decide)) rfl g_law_take kp_law_take b_law_take .nil pass0 (pa_cons (pv 0) (pa_cons (pe_int) pa_nil))) (fun _ _ => rfl))) pa_nil))))
      (pss_one (ps_ret (pe_tupA (pa_cons (pe_str) (pa_cons (pv 2) (pa_cons (pv 4) (pa_cons (pe_call o_law_task hr rfl g_law_task kp_law_task b_law_task .nil pass0 (pa_cons (pv 0) (pa_cons (pv 1) (pa_cons (pv 2) pa_nil)))) pa_nil)))))))))))
  clear hr hu nd g0 F fd o_law_take b_law_take kp_law_take g_law_take fd_law_take o_law_task b_law_task kp_law_task g_law_task fd_law_task n_max
  try dsimp only [cxOf, Cx.nox, Cx.wish]
  obtain ⟨_, _, rfl, p, a, B, n, M, rfl, rfl, hp, hk, hB, hM, q⟩ := h
  obtain ⟨w1, s1, W, ha, ⟨hw, hok⟩, hr⟩ := id hk
  obtain ⟨ks, hs, hkn, hks⟩ := hr
  fail "s"
  intro r H1 b1 k1 p1 r0 r3
  have npp : p_1 ≠ p := by
    obtain ⟨x, y, e, _⟩ := hp
    exact (neF a_2 e).symm
  have hl1 : H1 p_1 = some (HO.lst [V.str "xa", V.str "end", V.str "zz"]) := getB b1 npp a_3
  obtain ⟨who, hwho, okw⟩ : ∃ who : Str, atI [V.str "xa", V.str "end", V.str "zz"] r = some (V.str who) ∧ WordOk who := by
    have : r = 0 ∨ r = 1 ∨ r = 2 := by omega
    rcases this with rfl | rfl | rfl
    · exact ⟨"xa", rfl, wordXa⟩
    · exact ⟨"end", rfl, wordEnd⟩
    · exact ⟨"zz", rfl, wordZz⟩
  fail "s"
  intro r2 H2 b2 k2 p2 r20 r214
  by_cases c : r2 = 0
  · have e1 : V.int r2 = V.int 0 := by rw [c]
    fail "s"
    exact q _ (.fin who) _ (by fail "c") (by fail "c") (by fail "c") (Dt.tup (TpK.of (by fail "c")) (.cons (.str _) (.cons (.str _) .nil))) ⟨okw, trivial⟩
  · have e1 : ¬ V.int r2 = V.int 0 := fun z => c (V.int.inj z)
    have ha2 : H2 a = some (HO.tup [V.ref w1, V.ref s1]) := by fail "c"
    have hs2 : H2 s1 = some (HO.dK (ks.map fun p => ((Sum.inr p.1 : Key), p.2))) := by fail "c"
    fail "s"
    · exact dgS (rdS (by fail "c")) rfl
    obtain ⟨o, t0, m0, xs, hv, hgo, ht0, h1, hm0⟩ : ∃ (o : Option V) (t0 : Addr) (m0 : Nat) (xs : List V), valV (ks.map fun p => ((Sum.inr p.1 : Key), p.2)) (Sum.inr who : Key) = o ∧ o.getD (V.ref p_2) = V.ref t0 ∧ TpK K H'_1 t0 xs ∧ atI xs 1 = some (V.int m0) ∧ m0 ≤ M := by
      obtain ⟨o, h1, h2⟩ := Rows.get hks who (t0 := p_2)
      rcases h2 with rfl | ⟨t, l, m, x, y, rfl, h3, _, h4⟩
      · exact ⟨none, p_2, 0, _, h1, rfl, .inl a_6, rfl, Nat.zero_le _⟩
      · have h5 : TpK K H'_1 t [l, .int m, x, y] := by fail "c"
        exact ⟨some (.ref t), t, m, _, h1, rfl, h5, rfl, h4⟩
    rw [hv, hgo]
    fail "s"
    intro r3 H3 b3 k3 p3 r30 r310
    obtain ⟨i, hi, hi1, hi5⟩ : ∃ i : Int, atI [V.int 1, V.int 1, V.int 1, V.int 1, V.int 1, V.int 1, V.int 2, V.int 5, V.int 0, V.int (-1)] r3 = some (V.int i) ∧ -1 ≤ i ∧ i ≤ 5 := by
      have : r3 = 0 ∨ r3 = 1 ∨ r3 = 2 ∨ r3 = 3 ∨ r3 = 4 ∨ r3 = 5 ∨ r3 = 6 ∨ r3 = 7 ∨ r3 = 8 ∨ r3 = 9 := by omega
      rcases this with rfl | rfl | rfl | rfl | rfl | rfl | rfl | rfl | rfl | rfl
      · exact ⟨1, rfl, by decide, by decide⟩
      · exact ⟨1, rfl, by decide, by decide⟩
      · exact ⟨1, rfl, by decide, by decide⟩
      · exact ⟨1, rfl, by decide, by decide⟩
      · exact ⟨1, rfl, by decide, by decide⟩
      · exact ⟨1, rfl, by decide, by decide⟩
      · exact ⟨2, rfl, by decide, by decide⟩
      · exact ⟨5, rfl, by decide, by decide⟩
      · exact ⟨0, rfl, by decide, by decide⟩
      · exact ⟨-1, rfl, by decide, by decide⟩
    have hk3 : Keptt K H3 a B n M := hk.kp (by fail "c")
    have np3 : p_3 ≠ p := by
      obtain ⟨x, y, e, _⟩ := (show Pool H'_1 p by fail "c")
      exact (neF a_8 e).symm
    have hl3 : H3 p_3 = some (HO.lst [V.int 1, V.int 1, V.int 1, V.int 1, V.int 1, V.int 1, V.int 2, V.int 5, V.int 0, V.int (-1)]) := getB b3 np3 a_9
    obtain ⟨st, hst, hs1, hsM⟩ : ∃ st : Nat, (if (m0 : Int) + i > 1 then (m0 : Int) + i else 1) = (st : Int) ∧ 1 ≤ st ∧ st ≤ M + 5 := by
      refine ⟨(if (m0 : Int) + i > 1 then (m0 : Int) + i else 1).toNat, ?_, ?_, ?_⟩ <;> split <;> omega
    fail "s"
    intro u d H4 b4 k4 p4 du dk
    fail "s"
    exact q _ (.ask who st d) _ (by fail "c") (by fail "c") (by fail "c") (Dt.tup (TpK.of (by fail "c")) (.cons (.str _) (.cons (.str _) (.cons (dtInt hst) (.cons (by fail "c") .nil))))) ⟨⟨okw, hs1, by omega, dk⟩, hsM⟩
theorem butF {H H1 H2 : Hp} {p l : Addr} (b : But p H H1) (b2 : But l H1 H2) (n : H l = none) : But p H H2 := fun q o ne e => b2 q o (fun z => by subst z; rw [e] at n; cases n) (b q o ne e)
/-- the spot behind a row -/
structure SpotOk (i : Nat) (ts : List Thing) (pl : Place) : Prop where
  one : 1 ≤ pl.1
  e : pl.1 ≤ 3 + 3 * i
  n : pl.2 ≤ i
  len : ts.length = i
  all : ∀ t ∈ ts, t.Ok
  ch : chain (0, 0) ts
  last : ts = [] ∧ pl.2 = 0 ∨ ts ≠ [] ∧ lastP (0, 0) ts = pl
theorem SpotOk.next {i : Nat} {ts : List Thing} {pl : Place} (h : SpotOk i ts pl) {pl2 : Place} (h2 : pl2 = (pl.1, pl.2 + 1) ∨ (pl.1 < pl2.1 ∧ pl2.1 ≤ pl.1 + 2 ∧ pl2.2 = 1)) {e : En} (ek : e.Ok) (hi : i ≤ 14) : SpotOk (i + 1) (ts ++ [(pl2, e)]) pl2 := by
  have h1 := h.one
  have he := h.e
  have hn := h.n
  have hb1 : pl2.1 ≤ 3 + 3 * (i + 1) := by
    rcases h2 with rfl | h2
    · show pl.1 ≤ _; omega
    · omega
  have hb2 : pl2.2 ≤ i + 1 := by
    rcases h2 with rfl | h2
    · show pl.2 + 1 ≤ _; omega
    · omega
  have hb3 : 1 ≤ pl2.1 := by
    rcases h2 with rfl | h2
    · exact h1
    · omega
  refine ⟨hb3, hb1, hb2, by rw [List.length_append, h.len]; rfl, fun t ht => ?_, ?_, .inr ⟨by simp, lastP_snoc⟩⟩
  · rcases List.mem_append.mp ht with ht | ht
    · exact h.all t ht
    · rw [List.mem_singleton.mp ht]
      exact ⟨⟨big_lt (m := 1000) (by show pl2.1 ≤ 1000; omega), big_lt (m := 1000) (by show pl2.2 ≤ 1000; omega)⟩, ek⟩
  · refine chain_snoc h.ch ?_
    show follows _ pl2 = true
    rcases h.last with ⟨rfl, h0⟩ | ⟨_, hl⟩
    · show follows (0, 0) pl2 = true
      unfold follows
      rw [if_neg (fun z => z.2 rfl), Bool.and_eq_true]
      refine ⟨decide_eq_true (by show 0 < pl2.1; omega), decide_eq_true ?_⟩
      rcases h2 with rfl | h2
      · show pl.2 + 1 = 1; omega
      · exact h2.2.2
    · rw [hl]
      unfold follows
      rcases h2 with rfl | h2
      · rw [if_pos ⟨rfl, fun z => by rw [z] at h1; exact absurd h1 (by decide)⟩]
        exact decide_eq_true rfl
      · rw [if_neg (fun z => by have := z.1; omega), Bool.and_eq_true]
        exact ⟨decide_eq_true h2.1, decide_eq_true h2.2.2⟩
def sp_law_gone (K : PySem.W.Frag) : Sp := sp2 fun v1 v2 H Q => ∃ (p : Addr) (n : Nat), v1 = .ref p ∧ v2 = .int n ∧ n ≤ 14 ∧ Pool H p ∧ ∀ l xs ts H', But p H H' → Kp H H' → Pool H' p → H' l = some (.lst xs) → DtA K H' xs (ts.map thD) → RowOk ts → ts.length = n → l ≠ p → H l = none → Q (.ref l) H'
theorem sc_law_gone : FnScope ["_law_pool_here", "_law_many", "_law_kept", "_law_lines", "_law_spot", "_law_turn", "_law_line_here"] ["_law_pool_here", "_law_many"] (defScope s_law_gone) := ⟨rfl, rfl, rfl, by decide +kernel, rfl, by decide +kernel, by decide +kernel⟩
theorem k_law_gone (B : Bag w K mg base) : Kept P w K mg base "_law_gone" 8 ["_law_pool_here", "_law_many"] (sp_law_gone K) := by
  obtain ⟨fd, F⟩ := B.c.def_ 77 (d := d_law_gone) rfl
  obtain ⟨f_law_take, fd_law_take, g_law_take, kp_law_take, b_law_take, o_law_take⟩ := k_law_take (P := P) B
  obtain ⟨f_law_drawn_line, fd_law_drawn_line, g_law_drawn_line, kp_law_drawn_line, b_law_drawn_line, o_law_drawn_line⟩ := k_law_drawn_line (P := P) B
  obtain ⟨f_law_due, fd_law_due, g_law_due, kp_law_due, b_law_due, o_law_due⟩ := k_law_due (P := P) B
  have n_int := He.free_ok B.X B.G (B.c.fact 78 (f := .free "int") rfl)
  have n_range := He.free_ok B.X B.G (B.c.fact 91 (f := .free "range") rfl)
  have g0 := He.glo_ok B.X B.G (B.c.fact 69 (f := .glo "_law_gone") rfl)
  refine ⟨_, fd, g0, F.kp, F.bindsN (fun _ _ _ _ _ _ us hl => match us, hl with | [_, _], _ => rfl), ?_⟩
  refine F.ok sc_law_gone (fun vs H Q E h => len2 h) (fun cdv A outer s H vs Q E hr h => ?_)
  have nd := sc_law_gone.nd
  have hu := hu_of hr
  refine' ⟨_, PSs.nox ?hT, ?hR⟩
  case hT => exact (pss_cons (ps_set (i := 2) nd rfl (Or.inl rfl) (pe_tupA (pa_cons (pe_disp1 (pe_str) (pe_tupA (pa_cons (pe_str) (pa_cons (pe_int) (pa_cons (pe_int) (pa_cons (pe_non) pa_nil)))))) (pa_cons (pe_dnewA) pa_nil))))
      (pss_cons (ps_set (i := 3) nd rfl (Or.inl rfl) (pe_lstA pa_nil))
      (pss_cons (ps_set (i := 4) nd rfl (Or.inl rfl) (pe_tupA (pa_cons (pe_op op_add (pe_int) (pe_call o_law_take (hr.mono (by decide)) rfl g_law_take kp_law_take b_law_take .nil pass0 (pa_cons (pv 0) (pa_cons (pe_int) pa_nil)))) (pa_cons (pe_int) pa_nil))))
      (pss_cons (ps_for PassesOwn.never rfl (pi_range1 rfl n_range (pa_cons (pv 1) pa_nil)) (pg_name (i := 5) nd rfl (Or.inl rfl)) (pss_cons (ps_set (i := 6) nd rfl (Or.inl rfl) (pe_call o_law_drawn_line hr rfl g_law_drawn_line kp_law_drawn_line b_law_drawn_line .nil pass0 (pa_cons (pv 0) (pa_cons (pv 2) pa_nil))))
      (pss_cons (ps_set (i := 4) nd rfl (Or.inl rfl) (pe_ix ix_list (pe_lstA (pa_cons (pe_tupA (pa_cons (pe_ix ix_tup (pv 4) (pe_int) (fun _ _ => rfl)) (pa_cons (pe_op op_add (pe_ix ix_tup (pv 4) (pe_int) (fun _ _ => rfl)) (pe_int)) pa_nil))) (pa_cons (pe_tupA (pa_cons (pe_op op_add (pe_op op_add (pe_ix ix_tup (pv 4) (pe_int) (fun _ _ => rfl)) (pe_int)) (pe_call o_law_take (hr.mono (by decide)) rfl g_law_take kp_law_take b_law_take .nil pass0 (pa_cons (pv 0) (pa_cons (pe_int) pa_nil)))) (pa_cons (pe_int) pa_nil))) pa_nil))) (pe_callTy call_intB rfl n_int boot_int (pa_cons (pe_cmpR op_eq (pe_call o_law_take (hr.mono (by decide)) rfl g_law_take kp_law_take b_law_take .nil pass0 (pa_cons (pv 0) (pa_cons (pe_int) pa_nil))) (pe_int) (nomark _)) pa_nil)) (fun _ _ => rfl)))
      (pss_cons (ps_expr (pe_bm PySem.F.plainAttrs_list PySem.F.slot_list_append PySem.F.type_list_append mt_appA (pv 3) (pa_cons (pe_tupA (pa_cons (pv 4) (pa_cons (pv 6) pa_nil))) pa_nil)))
      (pss_one (ps_set (i := 2) nd rfl (Or.inl rfl) (pe_ix ix_tup (pe_call o_law_due (hr.mono (by decide)) rfl g_law_due kp_law_due b_law_due .nil pass0 (pa_cons (pv 2) (pa_cons (pv 6) (pa_cons (pv 4) pa_nil)))) (pe_int) (fun _ _ => rfl))))))))
      (pss_one (ps_ret (pv 3)))))))
  clear hr hu nd g0 F fd o_law_take b_law_take kp_law_take g_law_take fd_law_take o_law_drawn_line b_law_drawn_line kp_law_drawn_line g_law_drawn_line fd_law_drawn_line o_law_due b_law_due kp_law_due g_law_due fd_law_due n_int n_range
  try dsimp only [cxOf, Cx.nox, Cx.wish]
  obtain ⟨_, _, rfl, p, n, rfl, rfl, hn, hp, q⟩ := h
  obtain ⟨pa, pb, hpp, _⟩ := id hp
  fail "s"
  intro pD HD sD nD eD
  have hw0 : LWeb K HD p_1 0 root0 := ⟨Web.mk (kvs := [(Sum.inr "/", V.ref p_2)]) (by fail "c") (.cons (nd_mk (o' := .non) (ow := none) (c := 0) (m := 0) (TpK.of (by fail "c")) rfl rfl .non) .nil), lok0⟩
  fail "s"
  intro r H1 b1 k1 p1 r0 r3
  obtain ⟨e0, he0⟩ : ∃ e0 : Nat, 1 + r = (e0 : Int) := ⟨(1 + r).toNat, by omega⟩
  have nlp : p_4 ≠ p := (neF a_13 (show H'_2 p = some (HO.lst [V.int pa, V.int pb]) by fail "c")).symm
  fail "s"
  have hs0 : L2.Same H H'_3 := by fail "c"
  have np4 : H p_4 = none := by fail "c"
  refine for_it (walk_range (lo := 0) (n := n)) (fun i σ Hi => But p H Hi ∧ Kp H Hi ∧ Pool Hi p ∧ ∃ (kt sp : Addr) (xs : List V) (ts : List Thing) (pl : Place) (u5 u6 : Option V), σ = [some (.ref p), some (.int n), some (.ref kt), some (.ref p_4), some (.ref sp), u5, u6] ∧ Hi p_4 = some (.lst xs) ∧ DtA K Hi xs (ts.map thD) ∧ SpotOk i ts pl ∧ Keptt K Hi kt (6 * i) i (5 * i) ∧ TpK K Hi sp [.int pl.1, .int pl.2])
    ?_ (fun _ _ _ _ _ => trivial) (fun i y σ H2 H3 hi p' z => ?_) (fun σ H2 p' => ?_)
  · have k24 : Kp H'_2 H'_4 := (kpSame a_12).trans (k1.trans (kpSame a_15))
    have kHD : Kp HD H'_4 := (kpSame a_9).trans k24
    have t3 : H'_4 p_3 = some (HO.tup [V.ref p_1, V.ref pD]) := k24.t _ _ a_11
    have hpD : H'_4 pD = some (HO.dK []) := kHD.d _ _ eD
    have hb0 : But p H H'_4 := ((But.of hs0).trans b1).trans (But.of a_15)
    have hk0 : Kp H H'_4 := (kpSame hs0).trans (k1.trans (kpSame a_15))
    have l4 : H'_4 p_4 = some (HO.lst []) := getB (b1.trans (But.of a_15)) nlp a_14
    have hpo : Pool H'_4 p := by fail "c"
    have a17 : H'_4 p_5 = some (HO.tup [V.int (e0 : Int), V.int ((0 : Nat) : Int)]) := by rw [← he0]; exact a_17
    exact ⟨hb0, hk0, hpo, p_3, p_5, [], [], (e0, 0), none, none, rfl, l4, .nil,
      ⟨by show 1 ≤ e0; omega, by show e0 ≤ 3 + 3 * 0; omega, Nat.le_refl _, rfl, fun t ht => (nomatch ht), trivial, .inl ⟨rfl, rfl⟩⟩,
      ⟨p_1, pD, root0, t3, ⟨hw0.1.kp kHD, lok0⟩, [], hpD, Nat.le_refl _, fun p hp => (nomatch hp)⟩, .inl a17⟩
  · obtain ⟨rfl, rfl⟩ := z
    obtain ⟨b2, k2, p2, kt, sp, xs, ts, pl, u5, u6, rfl, hl, hxs, hsp, hkt, htp⟩ := p'
    have hB : 6 * i + 7 < big := big_lt (m := 1000) (by omega)
    have hM : 5 * i + 7 < big := big_lt (m := 1000) (by omega)
    fail "s"
    intro u e H4 b4 k4 p4 du de
    clear hB
    fail "s"
    intro r5 H5 b5 k5 p5 r50 r52
    obtain ⟨qa, qb, hqp, _⟩ := id p5
    fail "s"
    intro r6 H6 b6 k6 p6 r60 r66
    fail "q"
    · rfl
    have kq : Kp H'_7 H6 := k6
    have n1 : p_8 ≠ p := neF a_25 (show H'_6 p = some _ from a_21 _ _ hqp) |>.symm
    have l8 : H6 p_8 = some (HO.lst [V.ref p_6, V.ref p_7]) := getB b6 n1 a_26
    have hpn : ∃ (pn : Addr) (pl2 : Place), atI [V.ref p_6, V.ref p_7] (if decide (V.int r6 = V.int 0) = true then 1 else 0) = some (V.ref pn) ∧ TpK K H6 pn [.int pl2.1, .int pl2.2] ∧ (pl2 = (pl.1, pl.2 + 1) ∨ (pl.1 < pl2.1 ∧ pl2.1 ≤ pl.1 + 2 ∧ pl2.2 = 1)) := by
      by_cases h0 : V.int r6 = V.int 0
      · rw [if_pos (decide_eq_true h0)]
        obtain ⟨e1, he1⟩ : ∃ e1 : Nat, r5 = (e1 : Int) := ⟨r5.toNat, by omega⟩
        have z : ((pl.1 + 1 + e1 : Nat) : Int) = (pl.1 : Int) + 1 + r5 := by omega
        have t7 := ((kpSame a_24).trans k6).t _ _ a_23
        refine ⟨p_7, (pl.1 + 1 + e1, 1), atI_at (k := 1) rfl, .inl ?_, .inr ⟨by show pl.1 < pl.1 + 1 + e1; omega, by show pl.1 + 1 + e1 ≤ pl.1 + 2; omega, rfl⟩⟩
        show H6 p_7 = some (HO.tup [V.int ((pl.1 + 1 + e1 : Nat) : Int), V.int ((1 : Nat) : Int)])
        rw [z]; exact t7
      · rw [if_neg (fun z => h0 (of_decide_eq_true z))]
        have t6 := (k5.trans ((kpSame a_21).trans ((kpSame a_24).trans k6))).t _ _ a_20
        refine ⟨p_6, (pl.1, pl.2 + 1), atI_at (k := 0) rfl, .inl ?_, .inl rfl⟩
        exact t6
    obtain ⟨pn, pl2, hat, htn, hpl2⟩ := hpn
    have kAll : Kp H3 H6 := k4.trans ((kpSame a_18).trans (k5.trans ((kpSame a_21).trans ((kpSame a_24).trans k6))))
    have k46 : Kp H4 H6 := (kpSame a_18).trans (k5.trans ((kpSame a_21).trans ((kpSame a_24).trans k6)))
    have bAll : But p H3 H6 := b4.trans ((But.of a_18).trans (b5.trans ((But.of a_21).trans ((But.of a_24).trans b6))))
    have l4 : H6 p_4 = some (HO.lst xs) := getB bAll nlp hl
    have hkt6 : Keptt K H6 kt (6 * i) i (5 * i) := hkt.kp kAll
    have du6 : Dt K H6 u e.d := du.ts k46.t
    have hi1 : i ≤ 100 := by omega
    have est : EStamp (5 * i + 5) e := de.2
    have eok : e.Ok := de.1
    have dq6 : Dt K H6 (.ref pn) (plD pl2) := dtPl htn rfl rfl
    fail "s"
    · exact small_size (m := 100) (by rw [hxs.length, List.length_map, hsp.len]; omega)
    intro H7 b7 k7 l7
    have k67 : Kp H6 H7 := (kpSame a_27).trans k7
    have dq : Dt K H7 (.ref pn) (plD pl2) := dq6.ts k67.t
    have dw : Dt K H7 u e.d := du6.ts k67.t
    have hkt7 : Keptt K H7 kt (6 * i) i (5 * i) := hkt6.kp k67
    fail "s"
    · exact big_lt (m := 1000) (by omega)
    intro r9 t9 x9 y9 H8 s8 hr8 hk8
    have k68 : Kp H6 H8 := k67.trans (kpSame s8)
    have fB : But p H H8 := (butF (b2.trans (bAll.trans (But.of a_27))) b7 np4).trans (But.of s8)
    have fK : Kp H H8 := k2.trans (kAll.trans k68)
    have fP : Pool H8 p := by
      obtain ⟨c1, c2, hc, hcr⟩ := p6
      exact ⟨c1, c2, s8 _ _ (b7 _ _ nlp.symm (a_27 _ _ hc)), hcr⟩
    have fX : DtA K H8 (xs ++ [V.ref p_9]) ((ts ++ [(pl2, e)]).map thD) := by
      rw [List.map_append]
      exact DtA.snoc (Dt.tup (TpK.of ((k7.trans (kpSame s8)).t _ _ a_29)) (.cons (dq6.ts k68.t) (.cons (du6.ts k68.t) .nil))) (hxs.ts (kAll.trans k68).t)
    have fS := SpotOk.next hsp hpl2 eok (by omega)
    have fT : TpK K H8 pn [.int pl2.1, .int pl2.2] := htn.ts k68.t
    have fk : Keptt K H8 t9 (6 * (i + 1)) (i + 1) (5 * (i + 1)) := hk8
    have fL : H8 p_4 = some (HO.lst (xs ++ [V.ref p_9])) := s8 _ _ l7
    have fin : ∃ (kt sp : Addr) (xs : List V) (ts : List Thing) (pl : Place) (u5' u6' : Option V), [some (V.ref p), some (.int n), some (.ref t9), some (.ref p_4), some (.ref pn), some ((fun i => V.int (0 + i)) (i : Int)), some u] = [some (.ref p), some (.int n), some (.ref kt), some (.ref p_4), some (.ref sp), u5', u6'] ∧ H8 p_4 = some (.lst xs) ∧ DtA K H8 xs (ts.map thD) ∧ SpotOk (i + 1) ts pl ∧ Keptt K H8 kt (6 * (i + 1)) (i + 1) (5 * (i + 1)) ∧ TpK K H8 sp [.int pl.1, .int pl.2] :=
      ⟨t9, pn, _, _, pl2, _, _, rfl, fL, fX, fS, fk, fT⟩
    fail "s"
    done
  · obtain ⟨b2, k2, p2, kt, sp, xs, ts, pl, u5, u6, rfl, hl, hxs, hsp, hkt, htp⟩ := p'
    fail "s"
    exact q p_4 xs ts H2 b2 k2 p2 hl hxs ⟨hsp.all, hsp.ch, by rw [hsp.len]; omega⟩ hsp.len nlp (by fail "c")
def sp_law_far_right (K : PySem.W.Frag) : Sp := sp0 fun H Q => ∀ H', L2.Same H H' → Q (.bl true) H'
theorem sc_law_far_right : FnScope ["_law_far", "_law_turn", "_law_back", "_law_number"] [] (defScope s_law_far_right) := ⟨rfl, rfl, rfl, by decide +kernel, rfl, by decide +kernel, by decide +kernel⟩
theorem k_law_far_right (B : Bag w K mg base) : Kept P w K mg base "_law_far_right" 11 [] (sp_law_far_right K) := by
  obtain ⟨fd, F⟩ := B.c.def_ 78 (d := d_law_far_right) rfl
  obtain ⟨f_read_row, fd_read_row, g_read_row, kp_read_row, b_read_row, o_read_row⟩ := k_read_row (P := P) B
  obtain ⟨f_show_row, fd_show_row, g_show_row, kp_show_row, b_show_row, o_show_row⟩ := k_show_row (P := P) B
  obtain ⟨f_read_nodes, fd_read_nodes, g_read_nodes, kp_read_nodes, b_read_nodes, o_read_nodes⟩ := k_read_nodes (P := P) B
  have n_range := He.free_ok B.X B.G (B.c.fact 91 (f := .free "range") rfl)
  have g0 := He.glo_ok B.X B.G (B.c.fact 70 (f := .glo "_law_far_right") rfl)
  refine ⟨_, fd, g0, F.kp, F.bindsN (fun _ _ _ _ _ _ us hl => match us, hl with | [], _ => rfl), ?_⟩
  refine F.ok sc_law_far_right (fun vs H Q E h => len0 h) (fun cdv A outer s H vs Q E hr h => ?_)
  have nd := sc_law_far_right.nd
  have hu := hu_of hr
  refine' ⟨_, PSs.nox ?hT, ?hR⟩
  case hT => exact (pss_cons (ps_set (i := 0) nd rfl (Or.inl rfl) (pe_op op_catLA (pe_lc (own := [("_law_number", 3)]) (g := gName 3) (tt := tYes) rfl nd (pi_range2 rfl n_range (pa_cons (pe_int) (pa_cons (pe_int) pa_nil))) (blkOk_by (N := ["_law_far", "_law_turn", "_law_back", "_law_number"]) (sc := defScope s_law_far_right) (by decide +kernel)) (fun _ _ _ _ _ => (pg_name (i := 3) nd rfl (Or.inl rfl))) (fun _ _ _ _ _ => pts_nil) (fun _ _ _ _ _ => (pe_tupA (pa_cons (pe_tupA (pa_cons (pe_int) (pa_cons (pv 3) pa_nil))) (pa_cons (pe_tupA (pa_cons (pe_str) (pa_cons (pe_str) pa_nil))) pa_nil))))) (pe_lstA (pa_cons (pe_tupA (pa_cons (pe_tupA (pa_cons (pe_int) (pa_cons (pe_int) pa_nil))) (pa_cons (pe_tupA (pa_cons (pe_str) (pa_cons (pe_str) pa_nil))) pa_nil))) pa_nil))))
      (pss_cons (ps_for PassesOwn.never rfl (pi_range1 rfl n_range (pa_cons (pe_int) pa_nil)) (pg_name (i := 1) nd rfl (Or.inl rfl)) (pss_cons (ps_set (i := 2) nd rfl (Or.inl rfl) (pe_call o_read_row hr rfl g_read_row kp_read_row b_read_row .nil pass0 (pa_cons (pe_call o_show_row (hr.mono (by decide)) rfl g_show_row kp_show_row b_show_row .nil pass0 (pa_cons (pv 0) pa_nil)) pa_nil)))
      (pss_cons (ps_if (pt_cmpR (op_neD (hu64_of hr)) (pv 2) (pv 0) (nomark _)) (pss_one (ps_ret (pe_bl))) pss_nil)
      (pss_cons (ps_expr (pe_bm0 PySem.F.plainAttrs_list PySem.F.slot_list_clear PySem.F.type_list_clear mt_clear (pv 2)))
      (pss_one (ps_expr (pe_dclear (pe_call o_read_nodes hr rfl g_read_nodes kp_read_nodes b_read_nodes .nil pass0 (pa_cons (pe_str) pa_nil)))))))))
      (pss_one (ps_ret (pe_cmpR (op_eqK (hu66_of hr)) (pe_call o_read_nodes hr rfl g_read_nodes kp_read_nodes b_read_nodes .nil pass0 (pa_cons (pe_str) pa_nil)) (pe_disp1 (pe_str) (pe_tupA (pa_cons (pe_str) (pa_cons (pe_int) (pa_cons (pe_int) (pa_cons (pe_non) pa_nil)))))) (nomark _))))))
  clear hr hu nd g0 F fd o_read_row b_read_row kp_read_row g_read_row fd_read_row o_show_row b_show_row kp_show_row g_show_row fd_show_row o_read_nodes b_read_nodes kp_read_nodes g_read_nodes fd_read_nodes n_range
  try dsimp only [cxOf, Cx.nox, Cx.wish]
  obtain ⟨rfl, q⟩ := h
  have er : nodesT root0 = "/ 0 0 - 0 " := by decide
  have r60 : root0.length ≤ 60 := by decide
  have rok : ∀ p ∈ root0, PathOk p.1 ∧ p.2.Ok := fun p hp => by
    rcases List.mem_singleton.mp hp with rfl
    exact ⟨rootOk, (show TextOk "" by unfold TextOk; decide), by decide, by decide, fun x hx => nomatch hx⟩
  have rpw : (root0.map (·.1)).Pairwise fun x y => x.cps.toList < y.cps.toList := List.pairwise_singleton _ _
  have rtr : Tree root0 := ⟨List.mem_singleton.mpr rfl, fun p hp => .inl (by rcases List.mem_singleton.mp hp with rfl; rfl)⟩
  have rgd : Gd root0 root0 := ⟨stOk0.ok.nd, ⟨List.Perm.refl _, rpw⟩, rok, List.cons_ne_nil _ _, r60⟩
  fail "s"
  refine lc_it (walk_range (lo := 1) (n := 11)) (fun i Hi => L2.Same H Hi ∧ ∃ xs, Hi D = some (.lst xs) ∧ xs.length = i ∧ DtA K Hi xs ((List.range i).map fun k => thD ((9, k + 1), .fin "a"))) ⟨sameUpd a, [], upd_same, rfl, .nil⟩ (fun _ _ _ _ => trivial) (fun i y H2 H3 hi p' z => ?_) (fun H2 p' => ?_)
  · obtain ⟨rfl, rfl⟩ := z
    obtain ⟨s2, xs, hx, hxl, hd⟩ := p'
    fail "s"
    · exact small_size (m := 100) (by omega)
    have s32 : L2.Same H3 H'_2 := by fail "c"
    have hD2 := s32 _ _ hx
    have tU : Ts H'_2 (upd H'_2 D (.lst (xs ++ [.ref p_2]))) := fun b ys e => by rw [upd_ne (fun z => by subst z; rw [hD2] at e; cases e)]; exact e
    have hp0 : H'_2 p = some (HO.tup [V.int 9, V.int (1 + (i : Int))]) := a_7 _ _ (a_4 _ _ a_3)
    have hp1 : H'_2 p_1 = some (HO.tup [V.str "end", V.str "a"]) := a_7 _ _ a_6
    refine ⟨fun b o e => by rw [upd_ne (ne_of_none e a)]; exact s32 _ _ (s2 _ _ e), _, upd_same, by rw [List.length_append, hxl]; rfl, ?_⟩
    rw [List.range_succ, List.map_append]
    exact DtA.snoc (Dt.tup (TpK.of (tU _ _ a_9)) (.cons (dtPl (a := 9) (b := i + 1) (TpK.of (tU _ _ hp0)) rfl (by omega)) (.cons (Dt.tup (TpK.of (tU _ _ hp1)) (.cons (.str _) (.cons (.str _) .nil))) .nil))) (hd.ts ((kpSame s32).t.trans tU))
  · obtain ⟨s2, xs, hx, hxl, hd⟩ := p'
    fail "s"
    obtain ⟨ts, hts⟩ : ∃ ts : List Thing, ts = (List.range 11).map (fun k => ((9, k + 1), En.fin "a")) ++ [((10, 1), .fin "b")] := ⟨_, rfl⟩
    have ok : RowOk ts := by
      subst hts
      refine ⟨fun t ht => ?_, by simp only [List.range_succ, List.range_zero, List.map_append, List.map_cons, List.map_nil, List.nil_append, List.cons_append, List.append_assoc, chain]; decide, by decide⟩
      rcases List.mem_append.mp ht with ht | ht
      · obtain ⟨k, hk, rfl⟩ := List.mem_map.mp ht
        have := List.mem_range.mp hk
        exact ⟨⟨big_lt (m := 1000) (by show 9 ≤ 1000; omega), big_lt (m := 1000) (by show k + 1 ≤ 1000; omega)⟩, (show WordOk "a" by unfold WordOk; decide)⟩
      · rw [List.mem_singleton.mp ht]
        exact ⟨⟨big_lt (m := 1000) (by show 10 ≤ 1000; omega), big_lt (m := 1000) (by show 1 ≤ 1000; omega)⟩, (show WordOk "b" by unfold WordOk; decide)⟩
    have s24 : L2.Same H2 H'_4 := by fail "c"
    have hd4 : DtA K H'_4 (xs ++ [.ref p_2]) (ts.map thD) := by
      subst hts
      have s4 : L2.Same H'_2 H'_4 := fun _ _ e => a_13 _ _ (a_10 _ _ e)
      rw [List.map_append, List.map_map]
      exact DtA.snoc (Dt.tup (TpK.of (s4 _ _ a_9)) (.cons (dtPl (a := 10) (b := 1) (TpK.of (s4 _ _ (a_7 _ _ (a_4 _ _ a_3)))) rfl rfl) (.cons (Dt.tup (TpK.of (s4 _ _ (a_7 _ _ a_6))) (.cons (.str _) (.cons (.str _) .nil))) .nil))) (hd.ts (kpSame s24).t)
    refine for_it (walk_range (lo := 0) (n := 2)) (fun i σ Hi => L2.Same H'_4 Hi ∧ ∃ u1 u2 u3, σ = [some (.ref p_4), u1, u2, u3]) ⟨fun _ _ e => e, none, none, none, rfl⟩ (fun _ _ _ _ _ => trivial) (fun i y σ H5 H6 hi p' z => ?_) (fun σ H5 p' => ?_)
    · obtain ⟨rfl, rfl⟩ := z
      obtain ⟨s5, u1, u2, u3, rfl⟩ := p'
      have hl5 : H6 p_4 = some (HO.lst (xs ++ [.ref p_2])) := s5 _ _ a_15
      have hd5 : DtA K H6 (xs ++ [.ref p_2]) (ts.map thD) := hd4.ts (kpSame s5).t
      have h12 : ts.length = 12 := by rw [hts]; rfl
      have fit := row_fit ok.1 (by omega)
      fail "s"
      refine ⟨.list (ts.map thD), .list (ts.map thD), Dp.lst (.inl (.inl a_18)) (DtA.dp a_19), Dp.lst (.inl (.inl (a_17 _ _ (a_16 _ _ hl5)))) (DtA.dp (hd5.ts ((kpSame a_16).trans (kpSame a_17)).t)), fit.shaped, fit.shaped, ?_⟩
      rw [eqv_refl _ fit.lay]
      fail "s"
      · exact congrArg V.str er.symm
      refine ⟨r60, rok, rpw, rtr, fun p7 H7 s7 hw7 n7 => ?_⟩
      obtain ⟨kvs7, hd7, he7⟩ := id hw7
      have tdv : tyV K "dict" (V.ref p7) H7 := .inr (.inr (.inl ⟨rfl, .inl ⟨kvs7, hd7⟩⟩))
      fail "s"
      have s46 : L2.Same H'_4 H'_6 := sameTr a_17 (sameTr a_16 s5)
      have n45 : H'_4 p_5 = none := freeN a_20 (sameTr a_16 s5)
      have s47 : L2.Same H'_4 (upd H'_6 p_5 (HO.lst [])) := sameUP n45 s46
      have n47 : H'_4 p7 = none := freeN n7 s47
      have s48 : L2.Same H'_4 (upd H7 p7 (HO.dK [])) := sameUP n47 (sameTr s7 s47)
      fail "s"
      done
    · obtain ⟨s5, u1, u2, u3, rfl⟩ := p'
      fail "s"
      · exact congrArg V.str er.symm
      refine ⟨r60, rok, rpw, rtr, fun p7 H7 s7 hw7 n7 => ?_⟩
      obtain ⟨kvs7, hd7, he7⟩ := id hw7
      fail "s"
      · exact Ents.dk (he7.ts (kpSame (by fail "c")).t) fun p hp => (rgd.lay p hp).1
      refine ⟨Ents.dk (W := ndsD root0) (.cons (nd_mk (TpK.of (by fail "c")) rfl rfl .non) .nil) fun p hp => (rgd.lay p hp).1, ?_⟩
      rw [if_neg Bool.false_ne_true, rgd.alike rgd, decide_eq_true rfl]
      have s25 : L2.Same H H5 := sameTr s5 (sameTr s24 s2)
      exact q _ (by fail "c")
end

section
variable {P : Program} {w : World} {K : PySem.W.Frag} {mg : Str → Option Value} {base : Heap}
def sp_law (K : PySem.W.Frag) : Sp := sp1 fun v H Q => ∃ (l : Addr) (ns : List Int), v = .ref l ∧ SqL K H l (ns.map V.int) ∧ ns.length ≤ 63 ∧ ∀ H', Q (.bl true) H'
theorem sc_law : FnScope ["_law_script", "_law_k", "_law_pool_here", "_law_lines", "_law_written", "_law_at", "_law_rows", "_law_due_here", "_law_some", "_law_web", "_law_text", "_law_back", "_law_alike", "_law_again", "_law_spot", "_law_line_here", "_law_one"] ["_law_script"] (defScope s_law) := ⟨rfl, rfl, rfl, by decide +kernel, rfl, by decide +kernel, by decide +kernel⟩
theorem k_law (B : Bag w K mg base) {fd : FuncData} (F : FunD K d_law.name d_law.qual d_law.params d_law.body d_law.scope (d_law.dvs K) (d_law.kws K) (He.fAd K d_law.at_) fd) : FnAt P w K mg base CX0 callerA (He.fAd K d_law.at_) fd ["_law_script"] (sp_law K) := by
  obtain ⟨f_law_far_right, fd_law_far_right, g_law_far_right, kp_law_far_right, b_law_far_right, o_law_far_right⟩ := k_law_far_right (P := P) B
  obtain ⟨f_law_pool, fd_law_pool, g_law_pool, kp_law_pool, b_law_pool, o_law_pool⟩ := k_law_pool (P := P) B
  obtain ⟨f_law_gone, fd_law_gone, g_law_gone, kp_law_gone, b_law_gone, o_law_gone⟩ := k_law_gone (P := P) B
  obtain ⟨f_law_take, fd_law_take, g_law_take, kp_law_take, b_law_take, o_law_take⟩ := k_law_take (P := P) B
  obtain ⟨f_state_of, fd_state_of, g_state_of, kp_state_of, b_state_of, o_state_of⟩ := k_state_of (P := P) B
  obtain ⟨f_show_nodes, fd_show_nodes, g_show_nodes, kp_show_nodes, b_show_nodes, o_show_nodes⟩ := k_show_nodes (P := P) B
  obtain ⟨f_read_nodes, fd_read_nodes, g_read_nodes, kp_read_nodes, b_read_nodes, o_read_nodes⟩ := k_read_nodes (P := P) B
  obtain ⟨f_read_row, fd_read_row, g_read_row, kp_read_row, b_read_row, o_read_row⟩ := k_read_row (P := P) B
  obtain ⟨f_show_row, fd_show_row, g_show_row, kp_show_row, b_show_row, o_show_row⟩ := k_show_row (P := P) B
  obtain ⟨f_read_entry, fd_read_entry, g_read_entry, kp_read_entry, b_read_entry, o_read_entry⟩ := k_read_entry (P := P) B
  obtain ⟨f_show_entry, fd_show_entry, g_show_entry, kp_show_entry, b_show_entry, o_show_entry⟩ := k_show_entry (P := P) B
  have n_len := He.free_ok B.X B.G (B.c.fact 81 (f := .free "len") rfl)
  have n_max := He.free_ok B.X B.G (B.c.fact 90 (f := .free "max") rfl)
  have n_min := He.free_ok B.X B.G (B.c.fact 89 (f := .free "min") rfl)
  have n_range := He.free_ok B.X B.G (B.c.fact 91 (f := .free "range") rfl)
  have n_repr := He.free_ok B.X B.G (B.c.fact 92 (f := .free "repr") rfl)
  have n_set := He.free_ok B.X B.G (B.c.fact 88 (f := .free "set") rfl)
  have n_sorted := He.free_ok B.X B.G (B.c.fact 86 (f := .free "sorted") rfl)
  have n_str := He.free_ok B.X B.G (B.c.fact 80 (f := .free "str") rfl)
  have g0 := He.glo_ok B.X B.G (B.c.fact 71 (f := .glo "law") rfl)
  refine fn_at F sc_law (fun vs H Q E h => len1 h) (k := 11) ⟨rfl, by decide, by decide⟩ (fun cdv outer s H vs Q E hr h => ?_)
  have nd := sc_law.nd
  have hu := hu_of hr
  refine' ⟨_, PSs.nox ?hT, ?hR⟩
  case hT => exact (pss_cons (ps_if (pt_not (pt_val (pe_call0 o_law_far_right hr rfl g_law_far_right kp_law_far_right b_law_far_right .nil pass0))) (pss_one (ps_ret (pe_bl))) pss_nil)
      (pss_cons (ps_for PassesOwn.never rfl (pi_range1 rfl n_range (pa_cons (pe_callB (call_max2 rfl) rfl n_max (by decide +kernel) (pa_cons (pe_int) (pa_cons (pe_callB (call_min2 rfl) rfl n_min (by decide +kernel) (pa_cons (pe_callB call_len_seq rfl n_len (by decide +kernel) (pa_cons (pv 0) pa_nil)) (pa_cons (pe_int) pa_nil))) pa_nil))) pa_nil)) (pg_name (i := 1) nd rfl (Or.inl rfl)) (pss_cons (ps_set (i := 2) nd rfl (Or.inl rfl) (pe_call o_law_pool (hr.mono (by decide)) rfl g_law_pool kp_law_pool b_law_pool .nil pass0 (pa_cons (pv 0) (pa_cons (pv 1) pa_nil))))
      (pss_cons (ps_set (i := 3) nd rfl (Or.inl rfl) (pe_call o_law_gone (hr.mono (by decide)) rfl g_law_gone kp_law_gone b_law_gone .nil pass0 (pa_cons (pv 2) (pa_cons (pe_op op_add (pe_int) (pe_call o_law_take (hr.mono (by decide)) rfl g_law_take kp_law_take b_law_take .nil pass0 (pa_cons (pv 2) (pa_cons (pe_int) pa_nil)))) pa_nil))))
      (pss_cons (ps_set (i := 4) nd rfl (Or.inr rfl) (pe_dnewA))
      (pss_cons (ps_for PassesOwn.never rfl (pi_range1 rfl n_range (pa_cons (pe_op op_add (pe_callB call_len_seq rfl n_len (by decide +kernel) (pa_cons (pv 3) pa_nil)) (pe_int)) pa_nil)) (pg_name (i := 5) nd rfl (Or.inl rfl)) (pss_cons (ps_set (i := 8) nd rfl (Or.inl rfl) (pe_slice sl_listA (pv 3) po_none (po_some (pv 5))))
      (pss_cons (ps_set (i := 9) nd rfl (Or.inr rfl) (pe_ix ix_tup (pe_call o_state_of (hr.mono (by decide)) rfl g_state_of kp_state_of b_state_of .nil pass0 (pa_cons (pv 8) pa_nil)) (pe_int) (fun _ _ => rfl)))
      (pss_cons (ps_set (i := 10) nd rfl (Or.inl rfl) (pe_call o_show_nodes (hr.mono (by decide)) rfl g_show_nodes kp_show_nodes b_show_nodes .nil pass0 (pa_cons (pv 9) pa_nil)))
      (pss_cons (ps_set (i := 11) nd rfl (Or.inl rfl) (pe_call o_read_nodes (hr.mono (by decide)) rfl g_read_nodes kp_read_nodes b_read_nodes .nil pass0 (pa_cons (pv 10) pa_nil)))
      (pss_cons (ps_if (PW.pt (pw_or (pt_cmpR op_ne (pe_callB (call_repr rfl (hu64_of hr)) rfl n_repr (by decide +kernel) (pa_cons (pe_sortIt rfl (pv 11) rfl n_sorted) pa_nil)) (pe_callB (call_repr rfl (hu64_of hr)) rfl n_repr (by decide +kernel) (pa_cons (pe_sortIt rfl (pv 9) rfl n_sorted) pa_nil)) (nomark _)) (pw_or1 (pt_cmpR op_ne (pe_callB call_len_seq rfl n_len (by decide +kernel) (pa_cons (pe_bm PySem.F.plainAttrs_str PySem.F.slot_str_split PySem.F.type_str_split mt_splitA (pv 10) (pa_cons (pe_str) pa_nil)) pa_nil)) (pe_callB call_lenD rfl n_len (by decide +kernel) (pa_cons (pv 9) pa_nil)) (nomark _))))) (pss_one (ps_ret (pe_bl))) pss_nil)
      (pss_cons (ps_lockA (ps_setLc (i := 12) (own := [("_law_one", 16)]) (g := gName 16) (tt := (tTest (tOp (rEqK K false) (tDGet (tVar 4) (tVar 16)) (tVar 9)))) rfl nd rfl rfl (sw_true rfl rfl rfl (by decide +kernel)) (pi_keys (pv 4)) (blkOk_by (N := ["_law_script", "_law_k", "_law_pool_here", "_law_lines", "_law_written", "_law_at", "_law_rows", "_law_due_here", "_law_some", "_law_web", "_law_text", "_law_back", "_law_alike", "_law_again", "_law_spot", "_law_line_here", "_law_one"]) (sc := defScope s_law) (by decide +kernel)) (fun _ _ _ _ _ => (pg_name (i := 16) nd rfl (Or.inl rfl))) (fun _ _ _ _ _ => pts_one (pt_cmpR (op_eqK (hu66_of hr)) (pe_dget hu (pv 4) (pv 16) (fun _ _ => rfl)) (pv 9) (nomark _))) (fun _ _ _ _ _ => (pv 16))))
      (pss_cons (ps_if (PW.pt (pw_or (pt_cmpR (op_neK (hu66_of hr)) (pe_dget2 hu (pv 4) (pv 10) (pv 9) ⟨rfl, rfl, rfl, rfl⟩) (pv 9) (nomark _)) (pw_or1 (pt_cmpR (op_notInD (hu65_of hr)) (pv 12) (pe_lstA (pa_cons (pe_lstA pa_nil) (pa_cons (pe_lstA (pa_cons (pv 10) pa_nil)) pa_nil))) rfl)))) (pss_one (ps_ret (pe_bl))) pss_nil)
      (pss_cons (ps_dputA hu (pv 4) (pv 10) (pv 9) rfl)
      (pss_cons (ps_set (i := 13) nd rfl (Or.inl rfl) (pe_call o_read_row (hr.mono (by decide)) rfl g_read_row kp_read_row b_read_row .nil pass0 (pa_cons (pe_call o_show_row (hr.mono (by decide)) rfl g_show_row kp_show_row b_show_row .nil pass0 (pa_cons (pv 8) pa_nil)) pa_nil)))
      (pss_one (ps_if (PW.pt (pw_or (pt_cmpR op_ne (pe_callB (call_repr rfl (hu64_of hr)) rfl n_repr (by decide +kernel) (pa_cons (pv 13) pa_nil)) (pe_callB (call_repr rfl (hu64_of hr)) rfl n_repr (by decide +kernel) (pa_cons (pv 8) pa_nil)) (nomark _)) (pw_or1 (pt_cmpR (op_neP (hu80_of hr)) (pe_call o_state_of (hr.mono (by decide)) rfl g_state_of kp_state_of b_state_of .nil pass0 (pa_cons (pv 13) pa_nil)) (pe_call o_state_of (hr.mono (by decide)) rfl g_state_of kp_state_of b_state_of .nil pass0 (pa_cons (pv 8) pa_nil)) (nomark _))))) (pss_one (ps_ret (pe_bl))) pss_nil))))))))))))
      (pss_cons (ps_for PassesOwn.never rfl (pi_list (pv 3)) (pg_tup rfl (pgs_cons (pg_name (i := 14) nd rfl (Or.inl rfl)) (pgs_cons (pg_name (i := 15) nd rfl (Or.inl rfl)) pgs_nil))) (pss_one (ps_if (pt_cmpR op_ne (pe_callB (call_repr rfl (hu64_of hr)) rfl n_repr (by decide +kernel) (pa_cons (pe_call o_read_entry (hr.mono (by decide)) rfl g_read_entry kp_read_entry b_read_entry .nil pass0 (pa_cons (pe_call o_show_entry (hr.mono (by decide)) rfl g_show_entry kp_show_entry b_show_entry .nil pass0 (pa_cons (pv 15) pa_nil)) pa_nil)) pa_nil)) (pe_callB (call_repr rfl (hu64_of hr)) rfl n_repr (by decide +kernel) (pa_cons (pv 15) pa_nil)) (nomark _)) (pss_one (ps_ret (pe_bl))) pss_nil)))
      (pss_cons (ps_set (i := 6) nd rfl (Or.inl rfl) (pe_bm PySem.F.plainAttrs_str PySem.F.slot_str_split PySem.F.type_str_split mt_splitA (pe_call o_show_row (hr.mono (by decide)) rfl g_show_row kp_show_row b_show_row .nil pass0 (pa_cons (pv 3) pa_nil)) (pa_cons (pe_str) pa_nil)))
      (pss_cons (ps_setLc (i := 7) (own := [("_law_spot", 14), ("_law_line_here", 15)]) (g := gTup K 2 (gCons (gName 14) (gCons (gName 15) gNil))) (tt := tYes) (te := tOp (fun x y H Q => ∃ i j : Str, x = .str i ∧ y = .str j ∧ i.length + j.length ≤ sizeLine ∧ Q (.str (i ++ j)) H) (tOp (fun x y H Q => ∃ i j : Str, x = .str i ∧ y = .str j ∧ i.length + j.length ≤ sizeLine ∧ Q (.str (i ++ j)) H) (tOp (fun x y H Q => ∃ i j : Str, x = .str i ∧ y = .str j ∧ i.length + j.length ≤ sizeLine ∧ Q (.str (i ++ j)) H) (tOp (fun x y H Q => ∃ i j : Str, x = .str i ∧ y = .str j ∧ i.length + j.length ≤ sizeLine ∧ Q (.str (i ++ j)) H) (tCB rNumN (tCons (tOp (rIxT K) (tVar 14) (tC (.int 0))) tNil)) (tC (.str "."))) (tCB rNumN (tCons (tOp (rIxT K) (tVar 14) (tC (.int 1))) tNil))) (tC (.str " "))) (tCall (sp_show_entry K) [] E0 (tCons (tVar 15) tNil))) rfl nd rfl rfl (sw_true rfl rfl rfl (by decide +kernel)) (pi_list (pv 3)) (blkOk_by (N := ["_law_script", "_law_k", "_law_pool_here", "_law_lines", "_law_written", "_law_at", "_law_rows", "_law_due_here", "_law_some", "_law_web", "_law_text", "_law_back", "_law_alike", "_law_again", "_law_spot", "_law_line_here", "_law_one"]) (sc := defScope s_law) (by decide +kernel)) (fun _ _ _ _ _ => (pg_tup rfl (pgs_cons (pg_name (i := 14) nd rfl (Or.inl rfl)) (pgs_cons (pg_name (i := 15) nd rfl (Or.inl rfl)) pgs_nil)))) (fun _ _ _ _ _ => pts_nil) (fun _ _ _ _ _ => (pe_op op_add_str (pe_op op_add_str (pe_op op_add_str (pe_op op_add_str (pe_callTy call_numN rfl n_str boot_str (pa_cons (pe_ix ix_tup (pv 14) (pe_int) (fun _ _ => rfl)) pa_nil)) (pe_str)) (pe_callTy call_numN rfl n_str boot_str (pa_cons (pe_ix ix_tup (pv 14) (pe_int) (fun _ _ => rfl)) pa_nil))) (pe_str)) (pe_call o_show_entry (hr.mono (by decide)) rfl g_show_entry kp_show_entry b_show_entry .nil pass0 (pa_cons (pv 15) pa_nil)))))
      (pss_one (ps_if (PW.pt (pw_or (pt_cmpR (op_neD (hu64_of hr)) (pv 6) (pv 7) (nomark _)) (pw_or1 (pt_cmpR op_ne (pe_callB cr_lenX rfl n_len (by decide +kernel) (pa_cons (pe_callTy (cr_setXA rfl) rfl n_set boot_set (pa_cons (pv 6) pa_nil)) pa_nil)) (pe_callB call_len_seq rfl n_len (by decide +kernel) (pa_cons (pv 6) pa_nil)) (nomark _))))) (pss_one (ps_ret (pe_bl))) pss_nil))))))))))
      (pss_one (ps_ret (pe_bl)))))
  clear hr hu nd g0 F o_law_far_right b_law_far_right kp_law_far_right g_law_far_right fd_law_far_right o_law_pool b_law_pool kp_law_pool g_law_pool fd_law_pool o_law_gone b_law_gone kp_law_gone g_law_gone fd_law_gone o_law_take b_law_take kp_law_take g_law_take fd_law_take o_state_of b_state_of kp_state_of g_state_of fd_state_of o_show_nodes b_show_nodes kp_show_nodes g_show_nodes fd_show_nodes o_read_nodes b_read_nodes kp_read_nodes g_read_nodes fd_read_nodes o_read_row b_read_row kp_read_row g_read_row fd_read_row o_show_row b_show_row kp_show_row g_show_row fd_show_row o_read_entry b_read_entry kp_read_entry g_read_entry fd_read_entry o_show_entry b_show_entry kp_show_entry g_show_entry fd_show_entry n_len n_max n_min n_range n_repr n_set n_sorted n_str
  try dsimp only [cxOf, Cx.nox, Cx.wish]
  obtain ⟨_, rfl, l, ns, rfl, hl, hn, q⟩ := h
  fail "s"
  obtain ⟨nk, hk⟩ : ∃ nk, (if (if 8 < ((List.map V.int ns).length : Int) then (8 : Int) else ((List.map V.int ns).length : Int)) > 1 then (if 8 < ((List.map V.int ns).length : Int) then (8 : Int) else ((List.map V.int ns).length : Int)) else 1).toNat = nk := ⟨_, rfl⟩
  have hk8 : nk ≤ 8 := by
    rw [← hk]
    split
    · split <;> omega
    · omega
  rw [hk]
  clear hk
  refine for_it (walk_range (lo := 0) (n := nk)) (fun i σ Hi => L2.Same H' Hi ∧ ∃ u1 u2 u3 u4 u5 u6 u7 u8 u9 u10 u11 u12 u13 u14 u15 u16 : Option V, σ = [some (.ref l), u1, u2, u3, u4, u5, u6, u7, u8, u9, u10, u11, u12, u13, u14, u15, u16]) ⟨L2.Same.refl _, none, none, none, none, none, none, none, none, none, none, none, none, none, none, none, none, rfl⟩ (fun _ _ _ _ _ => trivial) (fun k y σ H2 H3 hi p' z => ?_) (fun σ H2 p' => ?_)
  · obtain ⟨rfl, rfl⟩ := z
    obtain ⟨s2, u1, u2, u3, u4, u5, u6, u7, u8, u9, u10, u11, u12, u13, u14, u15, u16, rfl⟩ := p'
    fail "s"
    · show 0 + k ≤ 8
      omega
    intro p4 H4 s4 n4 hp4
    fail "s"
    · exact congrArg V.int (show 1 + r = (((1 + r).toNat : Nat) : Int) by omega)
    fail "s"
    · omega
    refine ⟨a_3, fun l6 xs ts H6 b6 k6 p6 hl6 hd6 ok6 h14 nlp nl6 => ?_⟩
    intro pw H7 s7 n7 hw7
    have hxl := hd6.lenM
    have hx14 : xs.length ≤ 14 := by omega
    have hts : ts ≠ [] := fun z => by
      rw [z, List.length_nil] at h14
      omega
    fail "s"
    rw [show ((xs.length : Int) + 1).toNat = xs.length + 1 by omega]
    have s36 : L2.Same H3 H6 := sameBut (a_1.trans b6) n4 (But.of s4)
    refine for_it (walk_range (lo := 0) (n := xs.length + 1)) (fun i σ Hi => L2.Same H6 Hi ∧ (∃ ks : List (Str × V), Hi pw = some (.dK (ks.map fun p => (Sum.inr p.1, p.2))) ∧ ks.length ≤ i ∧ Wrt K Hi pw ks) ∧ ∃ v1 v2 v5 v6 v7 v8 v9 v10 v11 v12 v13 v14 v15 v16 : Option V, σ = [some (.ref l), v1, v2, some (.ref l6), some (.ref pw), v5, v6, v7, v8, v9, v10, v11, v12, v13, v14, v15, v16])
      ⟨s7, ⟨[], hw7, Nat.le_refl _, List.nodup_nil, fun p hp => nomatch hp⟩, _, _, _, _, _, _, _, _, _, _, _, _, _, _, rfl⟩ (fun _ _ _ _ _ => trivial) (fun i y σ H8 H9 hi p' z => ?_) (fun σ H8 p' => ?_)
    · obtain ⟨rfl, rfl⟩ := z
      obtain ⟨s8, ⟨ks, hpw, hkl, hwr⟩, v1, v2, v5, v6, v7, v8, v9, v10, v11, v12, v13, v14, v15, v16, rfl⟩ := p'
      have ecut : Nm (cutV xs none (some (0 + (i : Int)))) (xs.take i) := ⟨cutV_take i⟩
      have dtk : DtA K H6 (xs.take i) ((ts.take i).map thD) := by rw [List.map_take]; exact hd6.take i
      have okk := ok6.take i
      have st := stateM_ok (ts := ts.take i) okk.1
      have hB : 6 * (ts.take i).length < big := big_lt (m := 1000) (by rw [List.length_take]; omega)
      fail "s"
      · exact st.ok.size
      refine ⟨st.okW hB, fun ps Hs ss by_ => ?_⟩
      have g := st.gd hB by_
      fail "s"
      · exact g.self.sz
      refine ⟨g.ok, g.by_.2, st.tr.tree g.by_.1, fun pb Hb sb hwb nb => ?_⟩
      obtain ⟨kvb, hdb, heb⟩ := id hwb
      have hww : Web K Hb w1 (ndsD (stateM (ts.take i)).1) := (a_11.kp (kpSame ss)).kp (kpSame sb)
      obtain ⟨kvw, hdw, hew⟩ := id hww
      obtain ⟨ksb, eb, hb64⟩ := heb.ks g.self
      obtain ⟨ksw, ew, hw64⟩ := hew.ks g
      have gf := g.fit
      have f3 : (PyData.list (ps.map nodeD)).depth ≤ 60 := Nat.le_trans gf.dep (by decide)
      have f4 : (PyData.list (ps.map nodeD)).shown.length ≤ sizeLine := Nat.le_trans gf.len (by decide)
      have hlen := g.len
      have esp : Nm (Txt.split (nodesT ps) "\n") (ps.map fun p => bj (tokN p.1 p.2)) := ⟨g.split⟩
      fail "s"
      have sc4 : L2.Same Hb H'_4 := a_13
      refine ⟨_, rfl, ⟨_, rfl⟩, sort_dp heb eb g.self a_13 a_15 a_16 a_17 a_18, gf.sho, gf.nod, f3, f4, ?_⟩
      fail "s"
      have sc5 : L2.Same H'_4 H'_5 := a_19
      refine ⟨_, rfl, ⟨_, rfl⟩, sort_dp (hew.ts (kpSame sc4).t) ew g a_19 a_21 a_22 a_23 a_24, gf.sho, gf.nod, f3, f4, ?_⟩
      fail "s"
      refine iteFc (notF (decide_eq_true ?_)) ?_
      · show V.int (((ps.map fun p => bj (tokN p.1 p.2)).map V.str).length : Nat) = V.int (kvw.length : Nat)
        rw [List.length_map, List.length_map, hew.lenN, g.by_.1.length_eq]
      have sb6 : L2.Same Hb H'_6 := sc4.trans (sc5.trans a_25)
      have s96 : L2.Same H9 H'_6 := L2.Same.trans a_6 (L2.Same.trans a_9 (ss.trans (sb.trans sb6)))
      have hpw6 := s96 _ _ hpw
      have hwr6 := hwr.same s96
      have hww6 := hww.kp (kpSame sb6)
      have hdw6 := sb6 _ _ hdw
      have hew6 := hew.ts (kpSame sb6).t
      have hne : w1 ≠ pw := hwr6.ne hpw6 hww6 g
      refine ⟨pw, _, hpw6, fun od HF bF tF hF => ?_⟩
      fail "s"
      refine .inl ⟨_, hF, fun D nD => ?_⟩
      have hwrF := hwr6.but bF tF
      have hdwF : HF w1 = some (HO.dK kvw) := bF _ _ hne hdw6
      have hewF := hew6.ts tF
      refine lc_it (walk_keys (kvs := ks.map fun p => (Sum.inr p.1, p.2))) (fun j Hi => L2.Same HF Hi ∧ Hi D = some (.lst ((((ks.take j).map (·.1)).filter fun k => decide (k = nodesT ps)).map V.str))) ⟨sameUpd nD, upd_same⟩ (fun i H i1 kp => kp.1 _ _ hF) (fun j y HA HC hj kp z => ?_) (fun HA kp => ?_)
      · obtain ⟨rfl, kk, u, hku, rfl⟩ := z
        obtain ⟨sC, hDC⟩ := kp
        rw [List.getElem?_map] at hku
        obtain ⟨⟨qx, qv⟩, hq1, e1⟩ := Option.map_eq_some_iff.mp hku
        cases e1
        have hmem := List.mem_of_getElem? hq1
        obtain ⟨a', W', ps', na, eu, ek, hw', g'⟩ := hwrF.2 _ hmem
        have hget : DGet HC pw (.str qx) (some qv) := dgS (.inr ⟨od, sC _ _ hF⟩) (by rw [valV_map]; exact lkA_of_mem hwrF.1 hmem)
        have eu : qv = .ref a' := eu
        have ek : qx = nodesT ps' := ek
        subst eu ek
        obtain ⟨kv', hd', he'⟩ := hw'
        have r1 : Rd HC a' (HO.dK kv') := .inl (sC _ _ hd')
        have r2 : Rd HC w1 (HO.dK kvw) := .inl (sC _ _ hdwF)
        have k1 : DK K HC kv' (kd (ndsD W')) := (he'.ts (kpSame sC).t).dk fun p hp => (g'.lay p hp).1
        have k2 : DK K HC kvw (kd (ndsD (stateM (ts.take i)).1)) := (hewF.ts (kpSame sC).t).dk fun p hp => (g.lay p hp).1
        have ka := g'.alike g
        have hsz : ((((ks.take j).map (·.1)).filter fun k => decide (k = nodesT ps)).map V.str).length < sizeLine := small_size (m := 100) (by
          have := List.length_filter_le (fun k => decide (k = nodesT ps)) ((ks.take j).map (·.1))
          rw [List.length_map, List.length_take] at this
          rw [List.length_map]
          omega)
        rw [take_at hq1, List.map_append, List.filter_append, List.map_append]
        clear a s2 s4 n4 hp4 a_1 a_2 a_3 b6 k6 p6 s7 hw7 s36 s8 hpw hwr a_6 a_7 a_8 a_9 a_10 a_11 a_12 ss sb hwb nb hdb heb hww hdw hew a_13 a_14 a_15 a_16 a_17 a_18 a_19 a_20 a_21 a_22 a_23 a_24 a_25 a_26 a_27 sc4 sc5 sb6 s96 hpw6 hwr6 hww6 hdw6 hew6 bF tF hF hwrF hdwF hewF hl6 hd6 hl dtk esp ecut
        by_cases c : nodesT ps' = nodesT ps
        · have tt : (if false = true then !eqK (kd (ndsD W')) (kd (ndsD (stateM (ts.take i)).1)) else eqK (kd (ndsD W')) (kd (ndsD (stateM (ts.take i)).1))) = true := by rw [if_neg Bool.false_ne_true, ka, decide_eq_true c]
          fail "s"
          rw [upd_same, List.map_cons, List.map_nil, List.filter_cons_of_pos (p := fun k => decide (k = nodesT ps)) (decide_eq_true c), List.filter_nil]
          rfl
        · have tt : (if false = true then !eqK (kd (ndsD W')) (kd (ndsD (stateM (ts.take i)).1)) else eqK (kd (ndsD W')) (kd (ndsD (stateM (ts.take i)).1))) = false := by rw [if_neg Bool.false_ne_true, ka, decide_eq_false c]
          fail "s"
          rw [List.map_cons, List.map_nil, List.filter_cons_of_neg (by rw [decide_eq_false c]; exact Bool.false_ne_true), List.filter_nil, List.map_nil, List.append_nil]
          exact hDC
      obtain ⟨sA, hDA⟩ := kp
      rw [List.length_map, List.take_length] at hDA
      refine ⟨sA _ _ hF, fun HZ bZ tZ hZ => ?_⟩
      have s6Z : L2.Same H'_6 HZ := sameLock hpw6 hZ ((bF.trans (But.of sA)).trans bZ)
      have nDp : D ≠ pw := fun z => by subst z; rw [hF] at nD; cases nD
      have hDZ := bZ _ _ nDp hDA
      have hwrZ := hwr6.same s6Z
      have hdwZ := s6Z _ _ hdw6
      have hewZ := hew6.ts (kpSame s6Z).t
      have hwwZ := hww6.kp (kpSame s6Z)
      have hgot : ∃ (o : Option V) (b : Addr) (kb : List (Key × V)) (Wb psb : Nds), valV (ks.map fun p => ((Sum.inr p.1 : Key), p.2)) (Sum.inr (nodesT ps)) = o ∧ o.getD (.ref w1) = .ref b ∧ HZ b = some (.dK kb) ∧ Ents K HZ kb (ndsD Wb) ∧ Gd Wb psb ∧ nodesT psb = nodesT ps := by
        rw [valV_map]
        cases e : lkA ks (nodesT ps) with
        | none => exact ⟨none, w1, kvw, _, ps, rfl, rfl, hdwZ, hewZ, g, rfl⟩
        | some v =>
          obtain ⟨a', W', ps', na, eu, ek, ⟨kv', hd', he'⟩, g'⟩ := hwrZ.2 _ (lkA_mem e)
          exact ⟨some v, a', kv', W', ps', rfl, eu, hd', he', g', ek.symm⟩
      obtain ⟨o, b, kb, Wb, psb, hgo, hgb, hbZ, hebZ, gb, etb⟩ := hgot
      have hgetZ : DGet HZ pw (.str (nodesT ps)) o := dgS (.inl hZ) hgo
      have rb1 : Rd HZ b (HO.dK kb) := .inl hbZ
      have rb2 : Rd HZ w1 (HO.dK kvw) := .inl hdwZ
      have kb1 := hebZ.dk (fun p hp => (gb.lay p hp).1)
      have kb2 := hewZ.dk (fun p hp => (g.lay p hp).1)
      have tb : (if true = true then !eqK (kd (ndsD Wb)) (kd (ndsD (stateM (ts.take i)).1)) else eqK (kd (ndsD Wb)) (kd (ndsD (stateM (ts.take i)).1))) = false := by rw [if_pos rfl, gb.alike g, decide_eq_true etb]; rfl
      have sZ : L2.Same H6 HZ := s8.trans (s96.trans s6Z)
      have npw : p ≠ pw := fun z => by subst z; rw [hpw] at a_7; cases a_7
      have hpZ : HZ p = some (.lst (xs.take i)) := s6Z _ _ (sb6 _ _ (sb _ _ (ss _ _ (a_9 _ _ a_8))))
      have dZ : DtA K HZ (xs.take i) ((ts.take i).map thD) := dtk.ts (kpSame sZ).t
      have hnd := hwr.1
      clear a s2 s4 n4 hp4 a_1 a_2 a_3 a_4 a_5 b6 k6 p6 s7 hw7 s36 s8 hpw hwr a_6 a_7 a_8 a_9 a_10 a_11 a_12 ss sb hwb nb hdb heb hww hdw hew a_13 a_14 a_15 a_16 a_17 a_18 a_19 a_20 a_21 a_22 a_23 a_24 a_25 a_26 a_27 sc4 sc5 sb6 s96 hpw6 hwr6 hww6 hdw6 hew6 bF tF hF nD hwrF hdwF hewF sA hDA bZ tZ s6Z hl6 hd6 dtk esp ecut hgo hbZ
      fail "s"
      have lal : ∀ y ∈ ((ks.map (·.1)).filter fun k => decide (k = nodesT ps)), LO y := fun y hy => by
        rw [of_decide_eq_true (List.mem_filter.mp hy).2]
        exact g.lo
      refine ⟨.list (((ks.map (·.1)).filter fun k => decide (k = nodesT ps)).map PyData.str), [.list (([] : List Str).map PyData.str), .list ([nodesT ps].map PyData.str)], dp_strs (a_6 _ _ (a_3 _ _ (a _ _ hDZ))),
        Dp.lst (.inl (.inl a_8)) (.cons (dp_strs (a_6 _ _ (a_3 _ _ a_2))) (.cons (dp_strs (a_6 _ _ a_5)) .nil)), (sh_strs lal (k := 0)).shaped, (sh_lst (k := 1) (k' := 2) (sh_c (sh_strs lo_nil (k := 0)) (sh_c (sh_strs (lo_c g.lo lo_nil) (k := 0)) sh_nil))).shaped, ?_⟩
      rw [alike_in g.lo (alike_one _ hnd)]
      have sA : L2.Same HZ H'_9 := L2.Same.trans a (L2.Same.trans a_3 a_6)
      have hpwA := sA _ _ hZ
      fail "s"
      · exact small_size (m := 100) (by rw [List.length_map]; omega)
      intro H10 b10 t10 h10
      have hp10 : H10 p = some (.lst (xs.take i)) := b10 _ _ npw (sA _ _ hpZ)
      have d10 : DtA K H10 (xs.take i) ((ts.take i).map thD) := (dZ.ts (kpSame sA).t).ts t10
      have hwr10 := ((hwrZ.same sA).but b10 t10).put hne (webB b10 t10 hne (hwwZ.kp (kpSame sA))) g
      have s10 : L2.Same H6 H10 := sameBut b10 n7 (But.of (sZ.trans sA))
      rw [putK_map] at h10
      have fit := row_fit okk.1 (by rw [List.length_take]; omega)
      have f5 : (PyData.list ((ts.take i).map thD)).depth ≤ 60 := Nat.le_trans fit.dep (by decide)
      have f6 : (PyData.list ((ts.take i).map thD)).shown.length ≤ sizeLine := Nat.le_trans fit.len (by decide)
      clear a a_1 a_2 a_3 a_4 a_5 a_6 a_7 a_8 sA hpwA b10 t10 sZ hpZ dZ hZ hDZ hwrZ hdwZ hewZ hwwZ hgetZ rb1 rb2 kb1 kb2 tb hebZ
      fail "s"
      have sAB : L2.Same H10 H'_11 := L2.Same.trans a a_1
      have hp11 := sAB _ _ hp10
      have d11 := d10.ts (kpSame sAB).t
      refine ⟨_, rfl, ⟨_, rfl⟩, Dp.lst (.inl (.inl a_2)) (DtA.dp a_3), fit.sho, fit.nod, f5, f6, ?_⟩
      fail "s"
      refine ⟨_, rfl, ⟨_, rfl⟩, Dp.lst (.inl (.inl hp11)) (DtA.dp d11), fit.sho, fit.nod, f5, f6, ?_⟩
      have hid : H'_11 p_5 = some (.lst xs_1) ∧ True := ⟨a_2, trivial⟩
      have hid2 : H'_11 p = some (.lst (xs.take i)) ∧ True := ⟨hp11, trivial⟩
      clear a a_1 a_2 hp11 hp10
      fail "s"
      · exact hid.1
      refine ⟨a_3, okk, fun t2 w2 z2 H12 s12 h12 hw2 hz2 => ?_⟩
      fail "s"
      · exact s12 _ _ hid2.1
      refine ⟨d11.ts (kpSame s12).t, okk, fun t3 w3 z3 H13 s13 h13 hw3 hz3 => ?_⟩
      refine neP_states st hB (s13 _ _ h12) h13 (hw2.kp (kpSame s13)) (hz2.kp (kpSame s13)) hw3 hz3 ?_
      fail "s"
      · have := putA_length_le ks (nodesT ps) (V.ref w1)
        omega
      · exact hwr10.same (sAB.trans (s12.trans s13))
      · exact ⟨_, _, _, _, _, _, _, _, _, _, _, _, _, _, rfl⟩
    · obtain ⟨s8, _, v1, v2, v5, v6, v7, v8, v9, v10, v11, v12, v13, v14, v15, v16, rfl⟩ := p'
      clear a_1 a_2 a_3 b6 k6 p6 s4 n4 hp4 s7 n7 hw7 nlp nl6
      fail "s"
      refine for_it (walk_list (xs := xs)) (fun i σ Hi => L2.Same H6 Hi ∧ ∃ v1 v2 v4 v5 v6 v7 v8 v9 v10 v11 v12 v13 v14 v15 v16 : Option V, σ = [some (.ref l), v1, v2, some (.ref l6), v4, v5, v6, v7, v8, v9, v10, v11, v12, v13, v14, v15, v16]) ⟨s8, _, _, _, _, _, _, _, _, _, _, _, _, _, _, _, rfl⟩ (fun _ _ _ _ h => SqL.of (h.1 _ _ hl6)) (fun i y σ H9 H10 hi p' z => ?_) (fun σ H9 p' => ?_)
      · obtain ⟨rfl, z⟩ := z
        obtain ⟨s9, v1, v2, v4, v5, v6, v7, v8, v9, v10, v11, v12, v13, v14, v15, v16, rfl⟩ := p'
        obtain ⟨t, ht, dt⟩ := hd6.atM z
        have okt := ok6.1 t (List.mem_of_getElem? ht)
        obtain ⟨lt, x1, x2, rfl, hlt, d1, d2⟩ := th_inv (dtS s9 dt)
        have oke := okt.2
        have ef := En.fit oke
        have g1 : (t.2.d).depth ≤ 60 := Nat.le_trans ef.dep (by decide)
        have g2 : (t.2.d).shown.length ≤ sizeLine := Nat.le_trans ef.len (by decide)
        fail "s"
        refine ⟨_, rfl, en_ref a_3, a_3.dp, ef.sho, ef.nod, g1, g2, ?_⟩
        fail "s"
        refine ⟨_, rfl, en_ref d2, (d2.ts (kpSame (L2.Same.trans a_1 a_2)).t).dp, ef.sho, ef.nod, g1, g2, ?_⟩
        fail "s"
        done
      · obtain ⟨s9, v1, v2, v4, v5, v6, v7, v8, v9, v10, v11, v12, v13, v14, v15, v16, rfl⟩ := p'
        have hlen : (rowT ts).length + 2 ≤ sizeLine := Nat.le_trans (Nat.add_le_add_right (len_rowT ok6.1) 2) (Nat.le_trans (m := 50000) (by omega) (by decide))
        have esp : Nm (Txt.split (rowT ts) "\n") (ts.map fun t => bj (tokT t)) := ⟨rowT_lines ok6.1 hts⟩
        have lo : ∀ y ∈ ts.map (fun t => bj (tokT t)), LO y := fun y hy => by
          obtain ⟨t, ht, rfl⟩ := List.mem_map.mp hy
          exact lo_bj (lo_tokT (ok6.1 t ht))
        have nds := rowT_nodup ok6
        have l64 : (ts.map fun t => bj (tokT t)).length < 64 := by rw [List.length_map]; omega
        fail "s"
        have s63 : L2.Same H6 H'_3 := by fail "c"
        refine lc_it (walk_list (xs := xs)) (fun j Hi => L2.Same H'_3 Hi ∧ Hi D = some (.lst (((ts.take j).map fun t => bj (tokT t)).map V.str))) ⟨sameUpd (by fail "c"), upd_same⟩ (fun i H i1 kp => SqL.of (kp.1 _ _ (s63 _ _ hl6))) (fun j y HA HC hj kp z => ?_) (fun HA kp => ?_)
        · obtain ⟨rfl, z⟩ := z
          obtain ⟨sA, hDA⟩ := kp
          obtain ⟨t, ht, dt⟩ := hd6.atM z
          have okt := ok6.1 t (List.mem_of_getElem? ht)
          obtain ⟨lt, x1, x2, rfl, hlt, d1, d2⟩ := th_inv (dt.ts (kpSame (s63.trans sA)).t)
          obtain ⟨l1, rfl, hl1⟩ := plD_inv d1
          have oke := okt.2
          have b1 := okt.1.1
          have b2 := okt.1.2
          have n1 := num_le0 b1
          have n2 := num_le0 b2
          have n3 := len_tokE oke
          have hsz : (((ts.take j).map fun t => bj (tokT t)).map V.str).length < sizeLine := small_size (m := 100) (by
            rw [List.length_map, List.length_map, List.length_take]
            omega)
          rw [take_at ht, List.map_append, List.map_append]
          fail "s"
          have eb : bj (tokT t) = num t.1.1 ++ "." ++ num t.1.2 ++ " " ++ bj (tokE t.2) := bj_cons (tokE_ne _)
          show upd _ D _ D = some (HO.lst (_ ++ [V.str (bj (tokT t))]))
          rw [upd_same, eb]
        · obtain ⟨sA, hDA⟩ := kp
          rw [hxl, List.take_length] at hDA
          fail "s"
          refine ⟨_, _, dp_strs (sA _ _ a_6), dp_strs hDA, (sh_strs lo (k := 0)).shaped, (sh_strs lo (k := 0)).shaped, ?_⟩
          rw [eqv_strs lo]
          fail "s"
          refine iteFc (notF (decide_eq_true ?_)) ?_
          · show V.int ((ts.map fun t => bj (tokT t)).reverse.length : Nat) = V.int (((ts.map fun t => bj (tokT t)).map V.str).length : Nat)
            rw [List.length_reverse, List.length_map (f := V.str)]
          have sE : L2.Same H' HA := s2.trans (s36.trans (s63.trans sA))
          fail "s"
          done
  · obtain ⟨s2, u1, u2, u3, u4, u5, u6, u7, u8, u9, u10, u11, u12, u13, u14, u15, u16, rfl⟩ := p'
    exact q _
end
end Wn
/-! The end: the law holds at every script. -/
open PySem PySem.W PySem.Calls PyProof.Rows
theorem PySem.Challenge.cw_watchednodes_k81_whole_written_and_read_holds : PySem.Challenge.rw_watchednodes_k81_whole_written_and_read.Holds := by
  refine Wn.fin (Wn.walk_at (l := PySem.Challenge.rw_watchednodes_k81_whole_written_and_read) (n := 63) (x := "_law_script") (CX := L2.CX0) rfl (by decide) (by kernel_rfl) ?F (fun _ _ _ _ z => z))
  intro w mg fa h Y G hmg0
  obtain ⟨K, KX, c⟩ := Y
  have hmg : mg ("law" : PySem.Str) = some (.ref fa) := by
    have e : (HandSHeadRun.topDef (OpenLaw.row PySem.Challenge.rw_watchednodes_k81_whole_written_and_read).prog 99).name = ("law" : PySem.Str) := by kernel_rfl
    rw [← e]
    exact hmg0
  obtain ⟨fd, F⟩ := c.1.d.def_ 79 (d := Wn.d_law) rfl
  have e := hmg.symm.trans (He.glo_ok KX G (c.1.d.fact 71 (f := .glo "law") rfl))
  cases e
  have b := L2.FunD.bindsA (ps := ["_law_script"]) F fun _ _ _ _ _ _ us hl => match us, hl with | [_], _ => rfl
  exact ⟨K, fd, Wn.sp_law K, KX, fun s v => b s [v] rfl, fun H a ns hl _ hS => ⟨_, rfl, a, ns, rfl, hS, hl, fun _ => rfl⟩, fun base X2 G2 => Wn.k_law ⟨X2, G2, c⟩ F⟩
